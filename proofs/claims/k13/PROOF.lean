import PyProof.Rows.All
import Wide.All
import OpenK.AllK
import Wide.FinOn
import HandS.ForMost
import HandS.ForExc
import HandS.TupAny
import HandS.IsInst
import HandS.Codes
import HandS.DictComp
import HandS.Deep
import HandS.More
import HandS.Strs
import HandS.CallSlots
import HandS.Small
import HandS.Style
import HandS.Replace
import HandS.RaiseMore
import HandS.Walk
import HandS.Zip
import KE.GoesNew
import HandS.Head0
import HandS.Head1
import HandS.Head2
import HandS.HeadEnd
import HandS.HeadHook1
import HandS.HeadHook2
import HandS.HeadHook3
import HandS.HeadHook4
import HandS.HeadNt
import PyProof.ExcBaseAll.ValueError
import HandS.TryOnly
import HandS.ExcOwn
import HandS.Iter
import HandS.TupLen
import KE.KDictDisplayH
import HandS.Wide
import PySem.Challenge.RW_traceless_k13_whole_shares_by_own_fracti
set_option Elab.async false
set_option linter.all false
set_option maxRecDepth 100000
set_option maxHeartbeats 2000000
/-! TD0: plain data, the store, what represents what. -/
namespace TD
open PySem PySem.Spec PyProof.Rows L2

/-- plain data: tuples are trees, what changes is an index of the store -/
inductive D where
  | non | bl (b : Bool) | int (i : Int) | str (x : Str) | tup (xs : List D) | ref (n : Nat) | fls (xs : List D) | ktp (xs : List D) | glo (x : Str) | ty (n : String)
/-- a thing of the store -/
inductive DO where
  | lst (xs : List D)
  | dct (kvs : List (Key × D))
  | dtt (kvs : List (List Key × D))
  | fdt (kvs : List (List Key × D))
  | ins (x : Str) (fs : List (Str × D))
  | dead
abbrev Sto := List DO
structure Exc where
  cls : Str
  fld : Option (Str × D)
inductive Res (α : Type) where
  | bad
  | ok (a : α) (S : Sto)
  | exc (x : Exc) (S : Sto)
def Res.bind {α β : Type} (m : Res α) (k : α → Sto → Res β) : Res β := match m with
  | .bad => .bad
  | .ok a S => k a S
  | .exc x S => .exc x S
@[simp] theorem Res.bind_ok {α β : Type} (a : α) (S : Sto) (k : α → Sto → Res β) : (Res.ok a S).bind k = k a S := rfl
@[simp] theorem Res.bind_bad {α β : Type} (k : α → Sto → Res β) : (Res.bad : Res α).bind k = .bad := rfl
@[simp] theorem Res.bind_exc {α β : Type} (x : Exc) (S : Sto) (k : α → Sto → Res β) : (Res.exc x S : Res α).bind k = .exc x S := rfl

structure GX where
  K : PySem.W.Frag
  mg : Str → Option Value

/-- a list that is read alone: locked, or of the written part -/
def FzL (K : PySem.W.Frag) (H : Hp) (a : Addr) (vs : List V) : Prop := (∃ o, H a = some (.frz o (.lst vs))) ∨
  ∃ o its n, List.lookup a K = some o ∧ o.cls = Value.type "list" ∧ o.dict = none ∧ o.data = Data.seq its n ∧ its.size ≤ sizeLine ∧ Vals vs its.toList
theorem FzL.sqL {K : PySem.W.Frag} {H : Hp} {a : Addr} {vs : List V} (h : FzL K H a vs) : SqL K H a vs := by
  rcases h with ⟨o, h⟩ | h
  · exact .inl (.inr ⟨o, h⟩)
  · exact .inr h
mutual
/-- v stands for d in the abstract heap H; A: the addresses of the store's things -/
def Rep (G : GX) (A : List Addr) (H : Hp) : D → V → Prop
  | .non, v => v = .non
  | .bl b, v => v = .bl b
  | .int i, v => v = .int i
  | .str x, v => v = .str x
  | .ref n, v => ∃ a, A[n]? = some a ∧ v = .ref a
  | .glo x, v => ∃ a, G.mg x = some (.ref a) ∧ v = .ref a
  | .ty n, v => v = .ty n
  | .tup ds, v => ∃ a vs, v = .ref a ∧ H a = some (.tup vs) ∧ Reps G A H ds vs
  | .ktp ds, v => ∃ a vs, v = .ref a ∧ (∀ H1, SqT G.K H1 a vs) ∧ Reps G A H ds vs
  | .fls ds, v => ∃ a vs, v = .ref a ∧ FzL G.K H a vs ∧ Reps G A H ds vs
def Reps (G : GX) (A : List Addr) (H : Hp) : List D → List V → Prop
  | [], vs => vs = []
  | d :: ds, vs => ∃ v r, vs = v :: r ∧ Rep G A H d v ∧ Reps G A H ds r
end

/-- what has grown: the addresses, and what never changes stands -/
structure Gr (A : List Addr) (H : Hp) (A' : List Addr) (H' : Hp) : Prop where
  adr : ∃ t, A' = A ++ t
  tup : ∀ p xs, H p = some (.tup xs) → H' p = some (.tup xs)
  frz : ∀ p o u, H p = some (.frz o u) → H' p = some (.frz o u)
theorem Gr.refl (A : List Addr) (H : Hp) : Gr A H A H := ⟨⟨[], by simp⟩, fun _ _ h => h, fun _ _ _ h => h⟩
theorem Gr.trans {A A1 A2 : List Addr} {H H1 H2 : Hp} (a : Gr A H A1 H1) (b : Gr A1 H1 A2 H2) : Gr A H A2 H2 := by
  obtain ⟨⟨t, rfl⟩, h1, h2⟩ := a
  obtain ⟨⟨u, rfl⟩, k1, k2⟩ := b
  exact ⟨⟨t ++ u, by simp⟩, fun p xs h => k1 _ _ (h1 _ _ h), fun p o u h => k2 _ _ _ (h2 _ _ _ h)⟩
theorem Gr.get {A A' : List Addr} {H H' : Hp} (g : Gr A H A' H') {n : Nat} {a : Addr} (h : A[n]? = some a) : A'[n]? = some a := by
  obtain ⟨⟨t, rfl⟩, _, _⟩ := g
  rw [List.getElem?_append_left (List.getElem?_eq_some_iff.mp h).1]
  exact h
theorem Gr.sqT {K : PySem.W.Frag} {A A' : List Addr} {H H' : Hp} (g : Gr A H A' H') {a : Addr} {xs : List V} (h : SqT K H a xs) : SqT K H' a xs := by
  rcases h with (h | ⟨o, h⟩) | h
  · exact .inl (.inl (g.tup _ _ h))
  · exact .inl (.inr ⟨o, g.frz _ _ _ h⟩)
  · exact .inr h

mutual
theorem Rep.mono {G : GX} {A A' : List Addr} {H H' : Hp} (g : Gr A H A' H') : ∀ (d : D) {v : V}, Rep G A H d v → Rep G A' H' d v
  | .non, _, h => h
  | .bl _, _, h => h
  | .int _, _, h => h
  | .str _, _, h => h
  | .ref n, _, h => by
    obtain ⟨a, h, e⟩ := h
    exact ⟨a, g.get h, e⟩
  | .glo _, _, h => h
  | .ty _, _, h => h
  | .tup ds, _, h => by
    obtain ⟨a, vs, e, h1, h2⟩ := h
    exact ⟨a, vs, e, g.tup _ _ h1, Reps.mono g ds h2⟩
  | .ktp ds, _, h => by
    obtain ⟨a, vs, e, h1, h2⟩ := h
    exact ⟨a, vs, e, h1, Reps.mono g ds h2⟩
  | .fls ds, _, h => by
    obtain ⟨a, vs, e, h1, h2⟩ := h
    exact ⟨a, vs, e, h1.imp (fun ⟨o, h1⟩ => ⟨o, g.frz _ _ _ h1⟩) id, Reps.mono g ds h2⟩
theorem Reps.mono {G : GX} {A A' : List Addr} {H H' : Hp} (g : Gr A H A' H') : ∀ (ds : List D) {vs : List V}, Reps G A H ds vs → Reps G A' H' ds vs
  | [], _, h => h
  | d :: ds, _, h => by
    obtain ⟨v, r, e, h1, h2⟩ := h
    exact ⟨v, r, e, Rep.mono g d h1, Reps.mono g ds h2⟩
end

section
variable {G : GX} {A A' : List Addr} {H H' : Hp}
theorem Reps.nil : Reps G A H [] [] := rfl
theorem Reps.cons {d : D} {v : V} {ds : List D} {vs : List V} (h : Rep G A H d v) (t : Reps G A H ds vs) : Reps G A H (d :: ds) (v :: vs) := ⟨v, vs, rfl, h, t⟩
theorem Reps.len : ∀ {ds : List D} {vs : List V}, Reps G A H ds vs → vs.length = ds.length
  | [], _, h => by cases h; rfl
  | d :: ds, _, h => by
    obtain ⟨v, r, rfl, _, h⟩ := h
    rw [List.length_cons, List.length_cons, Reps.len h]
theorem Reps.get : ∀ {ds : List D} {vs : List V} {i : Nat} {d : D}, Reps G A H ds vs → ds[i]? = some d → ∃ v, vs[i]? = some v ∧ Rep G A H d v
  | [], _, _, _, _, e => by simp at e
  | d :: ds, _, 0, _, h, e => by
    obtain ⟨v, r, rfl, h, _⟩ := h
    simp at e
    subst e
    exact ⟨v, rfl, h⟩
  | d :: ds, _, i + 1, _, h, e => by
    obtain ⟨v, r, rfl, _, h⟩ := h
    simpa using Reps.get h (by simpa using e)
theorem Reps.append : ∀ {ds es : List D} {vs ws : List V}, Reps G A H ds vs → Reps G A H es ws → Reps G A H (ds ++ es) (vs ++ ws)
  | [], _, _, _, h, k => by cases h; exact k
  | d :: ds, _, _, _, h, k => by
    obtain ⟨v, r, rfl, h, t⟩ := h
    exact Reps.cons h (Reps.append t k)
theorem Reps.take : ∀ {ds : List D} {vs : List V} (n : Nat), Reps G A H ds vs → Reps G A H (ds.take n) (vs.take n)
  | _, _, 0, _ => by simpa using Reps.nil
  | [], _, n + 1, h => by cases h; exact Reps.nil
  | d :: ds, _, n + 1, h => by
    obtain ⟨v, r, rfl, h, t⟩ := h
    exact Reps.cons h (Reps.take n t)
theorem Reps.drop : ∀ {ds : List D} {vs : List V} (n : Nat), Reps G A H ds vs → Reps G A H (ds.drop n) (vs.drop n)
  | _, _, 0, h => by simpa using h
  | [], _, n + 1, h => by cases h; exact Reps.nil
  | d :: ds, _, n + 1, h => by
    obtain ⟨v, r, rfl, h, t⟩ := h
    simpa using Reps.drop n t
theorem Reps.set : ∀ {ds : List D} {vs : List V} {d : D} {v : V} (n : Nat), Rep G A H d v → Reps G A H ds vs → Reps G A H (ds.set n d) (vs.set n v)
  | [], _, _, _, _, _, h => by cases h; exact Reps.nil
  | d :: ds, _, _, _, 0, k, h => by
    obtain ⟨v, r, rfl, h, t⟩ := h
    exact Reps.cons k t
  | d :: ds, _, _, _, n + 1, k, h => by
    obtain ⟨v, r, rfl, h, t⟩ := h
    exact Reps.cons h (Reps.set n k t)
theorem Reps.snoc {ds : List D} {vs : List V} {d : D} {v : V} (h : Reps G A H ds vs) (k : Rep G A H d v) : Reps G A H (ds ++ [d]) (vs ++ [v]) := h.append (.cons k .nil)
theorem Reps.nth {ds : List D} {vs : List V} (h : Reps G A H ds vs) {i : Nat} {v : V} (e : vs[i]? = some v) : ∃ d, ds[i]? = some d ∧ Rep G A H d v := by
  have hl := h.len
  have hi : i < ds.length := by
    have := (List.getElem?_eq_some_iff.mp e).1
    omega
  obtain ⟨w, e', r⟩ := h.get (List.getElem?_eq_getElem hi)
  rw [e] at e'
  cases e'
  exact ⟨_, List.getElem?_eq_getElem hi, r⟩

/-- keyed values -/
def RepKV {κ : Type} (G : GX) (A : List Addr) (H : Hp) : List (κ × D) → List (κ × V) → Prop := Paired fun p q => p.1 = q.1 ∧ Rep G A H p.2 q.2
theorem RepKV.mono {κ : Type} (g : Gr A H A' H') {ds : List (κ × D)} {vs : List (κ × V)} (h : RepKV G A H ds vs) : RepKV G A' H' ds vs :=
  Paired.mapP h fun _ _ k => ⟨k.1, k.2.mono g⟩

/-- what stands at a for the thing -/
def RepO (G : GX) (A : List Addr) (H : Hp) : DO → Addr → Prop
  | .lst xs, a => ∃ vs, H a = some (.lst vs) ∧ Reps G A H xs vs
  | .dct kvs, a => ∃ vs, H a = some (.dK vs) ∧ RepKV G A H kvs vs
  | .dtt kvs, a => ∃ vs, H a = some (.dT vs) ∧ RepKV G A H kvs vs
  | .fdt kvs, a => ∃ o vs, H a = some (.frz o (.dT vs)) ∧ RepKV G A H kvs vs
  | .ins x fs, a => ∃ C dx vs, G.mg x = some (.ref C) ∧ H a = some (.ins C dx vs) ∧ RepKV G A H fs vs
  | .dead, a => H a ≠ none
theorem RepO.there {o : DO} {a : Addr} (h : RepO G A H o a) : H a ≠ none := by
  cases o with
  | lst xs => obtain ⟨_, e, _⟩ := h; rw [e]; exact fun z => nomatch z
  | dct xs => obtain ⟨_, e, _⟩ := h; rw [e]; exact fun z => nomatch z
  | dtt xs => obtain ⟨_, e, _⟩ := h; rw [e]; exact fun z => nomatch z
  | fdt xs => obtain ⟨_, _, e, _⟩ := h; rw [e]; exact fun z => nomatch z
  | ins x fs => obtain ⟨_, _, _, _, e, _⟩ := h; rw [e]; exact fun z => nomatch z
  | dead => exact h
/-- the thing stays where its own cell stays -/
theorem RepO.mono {o : DO} {a : Addr} (g : Gr A H A' H') (e : H' a = H a) (h : RepO G A H o a) : RepO G A' H' o a := by
  cases o with
  | lst xs => obtain ⟨vs, e1, r⟩ := h; exact ⟨vs, e.trans e1, r.mono g⟩
  | dct xs => obtain ⟨vs, e1, r⟩ := h; exact ⟨vs, e.trans e1, r.mono g⟩
  | dtt xs => obtain ⟨vs, e1, r⟩ := h; exact ⟨vs, e.trans e1, r.mono g⟩
  | fdt xs => obtain ⟨o, vs, e1, r⟩ := h; exact ⟨o, vs, e.trans e1, r.mono g⟩
  | ins x fs => obtain ⟨C, dx, vs, hc, e1, r⟩ := h; exact ⟨C, dx, vs, hc, e.trans e1, r.mono g⟩
  | dead =>
    show H' a ≠ none
    rw [e]
    exact h

/-- the store is held -/
structure HR (G : GX) (A : List Addr) (H : Hp) (S : Sto) : Prop where
  len : A.length = S.length
  inj : ∀ (i j : Nat) (a : Addr), A[i]? = some a → A[j]? = some a → i = j
  obj : ∀ (n : Nat) (o : DO), S[n]? = some o → ∃ a, A[n]? = some a ∧ RepO G A H o a
theorem HR.there {S : Sto} (h : HR G A H S) {n : Nat} {a : Addr} (e : A[n]? = some a) : H a ≠ none := by
  have hn : n < S.length := by
    have := (List.getElem?_eq_some_iff.mp e).1
    rw [h.len] at this
    exact this
  obtain ⟨a', e', r⟩ := h.obj n _ (List.getElem?_eq_getElem hn)
  rw [e] at e'
  cases e'
  exact r.there
theorem HR.at {S : Sto} (h : HR G A H S) {n : Nat} {a : Addr} {o : DO} (e : A[n]? = some a) (ho : S[n]? = some o) : RepO G A H o a := by
  obtain ⟨a', e', r⟩ := h.obj n o ho
  rw [e] at e'
  cases e'
  exact r
/-- something new that the store does not know -/
theorem Gr.new {p : Addr} {o : HO} (hp : H p = none) : Gr A H A (upd H p o) :=
  ⟨⟨[], by simp⟩, fun q xs h => by rw [upd_ne (ne_of_none h hp)]; exact h, fun q u x h => by rw [upd_ne (ne_of_none h hp)]; exact h⟩
theorem HR.new {S : Sto} (h : HR G A H S) {p : Addr} {o : HO} (hp : H p = none) : HR G A (upd H p o) S :=
  ⟨h.len, h.inj, fun n u e => by
    obtain ⟨a, ea, r⟩ := h.obj n u e
    refine ⟨a, ea, r.mono (Gr.new hp) (upd_ne fun z => ?_)⟩
    exact r.there (z ▸ hp)⟩
/-- a new thing of the store -/
theorem Gr.push {p : Addr} {o : HO} (hp : H p = none) : Gr A H (A ++ [p]) (upd H p o) := ⟨⟨[p], rfl⟩, (Gr.new (A := A) hp).tup, (Gr.new (A := A) hp).frz⟩
theorem HR.push {S : Sto} (h : HR G A H S) {p : Addr} {o : HO} {u : DO} (hp : H p = none) (r : RepO G (A ++ [p]) (upd H p o) u p) : HR G (A ++ [p]) (upd H p o) (S ++ [u]) := by
  have nA : ∀ i : Nat, A[i]? = some p → False := fun i e => h.there e hp
  refine ⟨by rw [List.length_append, List.length_append, h.len]; rfl, fun i j a e1 e2 => ?_, fun n w e => ?_⟩
  · rw [List.getElem?_append] at e1 e2
    split at e1 <;> split at e2
    · exact h.inj i j a e1 e2
    · have : p = a := by
        rw [List.getElem?_singleton] at e2
        split at e2
        · exact Option.some.inj e2
        · cases e2
      exact (nA i (this ▸ e1)).elim
    · have : p = a := by
        rw [List.getElem?_singleton] at e1
        split at e1
        · exact Option.some.inj e1
        · cases e1
      exact (nA j (this ▸ e2)).elim
    · rw [List.getElem?_singleton] at e1 e2
      split at e1 <;> split at e2
      · omega
      · cases e2
      · cases e1
      · cases e1
  · rw [List.getElem?_append] at e
    split at e
    · rename_i hn
      obtain ⟨a, ea, q⟩ := h.obj n w e
      refine ⟨a, (Gr.push (o := o) hp).get ea, q.mono (Gr.push hp) (upd_ne fun z => ?_)⟩
      exact q.there (z ▸ hp)
    · rename_i hn
      rw [List.getElem?_singleton] at e
      split at e
      · cases e
        refine ⟨p, ?_, r⟩
        rw [List.getElem?_append_right (by rw [h.len]; omega), h.len]
        have : n - S.length = 0 := by omega
        rw [this]
        rfl
      · cases e
/-- the thing at n is written -/
theorem Gr.put {a : Addr} {o u : HO} (ha : H a = some u) (ht : ∀ xs, u ≠ .tup xs) (hf : ∀ x y, u ≠ .frz x y) : Gr A H A (upd H a o) :=
  ⟨⟨[], by simp⟩, fun q xs h => by
    rw [upd_ne fun z => by subst z; rw [ha] at h; exact ht xs (Option.some.inj h)]
    exact h, fun q x y h => by
    rw [upd_ne fun z => by subst z; rw [ha] at h; exact hf x y (Option.some.inj h)]
    exact h⟩
theorem HR.put {S : Sto} (h : HR G A H S) {n : Nat} {a : Addr} {o u : HO} {w : DO} (ea : A[n]? = some a) (ha : H a = some u) (ht : ∀ xs, u ≠ .tup xs) (hf : ∀ x y, u ≠ .frz x y) (r : RepO G A (upd H a o) w a) :
    HR G A (upd H a o) (S.set n w) := by
  refine ⟨by rw [List.length_set]; exact h.len, h.inj, fun m x e => ?_⟩
  by_cases hm : m = n
  · subst hm
    refine ⟨a, ea, ?_⟩
    rw [List.getElem?_set] at e
    simp only [if_true] at e
    split at e
    · cases e; exact r
    · cases e
  · rw [List.getElem?_set_ne (Ne.symm hm)] at e
    obtain ⟨b, eb, q⟩ := h.obj m x e
    refine ⟨b, eb, q.mono (Gr.put ha ht hf) (upd_ne fun z => ?_)⟩
    exact hm (h.inj m n a (z ▸ eb) ea)

/-- the slots -/
abbrev Env := List (Option D)
structure RepE (G : GX) (A : List Addr) (H : Hp) (ρ : Env) (σ : L2.St) : Prop where
  len : ρ.length = σ.length
  get : ∀ (i : Nat) (d : D), ρ[i]? = some (some d) → ∃ v, σ[i]? = some (some v) ∧ Rep G A H d v
theorem RepE.mono {ρ : Env} {σ : L2.St} (g : Gr A H A' H') (h : RepE G A H ρ σ) : RepE G A' H' ρ σ := ⟨h.len, fun i d e => by
  obtain ⟨v, e1, r⟩ := h.get i d e
  exact ⟨v, e1, r.mono g⟩⟩
theorem RepE.set {ρ : Env} {σ : L2.St} (h : RepE G A H ρ σ) {d : D} {v : V} (r : Rep G A H d v) (i : Nat) : RepE G A H (ρ.set i (some d)) (σ.set i (some v)) := ⟨by rw [List.length_set, List.length_set]; exact h.len, fun j e hj => by
  rw [List.getElem?_set] at hj
  split at hj
  · rename_i hij
    subst hij
    split at hj
    · rename_i hl
      cases hj
      exact ⟨v, by rw [List.getElem?_set_self (by rw [← h.len]; exact hl)], r⟩
    · cases hj
  · rename_i hij
    obtain ⟨w, e1, q⟩ := h.get j e hj
    exact ⟨w, by rw [List.getElem?_set_ne hij]; exact e1, q⟩⟩
end
end TD

set_option Elab.async false
set_option linter.all false
set_option maxRecDepth 100000
set_option maxHeartbeats 2000000
/-! TD1: denotations, canonical readings, the rules for expressions, tests, arguments, plain statements. -/
namespace TD
open PySem PySem.Spec PyProof.Rows L2

abbrev FE := Env → Sto → Res D
abbrev FT := Env → Sto → Res Bool
abbrev FA := Env → Sto → Res (List D)
inductive SR where
  | bad
  | nx (ρ : Env) (S : Sto)
  | bk (ρ : Env) (S : Sto)
  | ct (ρ : Env) (S : Sto)
  | rt (d : D) (S : Sto)
  | exc (x : Exc) (ρ : Env) (S : Sto)
abbrev FS := Env → Sto → SR

/-- an exception in the air -/
def RepX (G : GX) (A : List Addr) (H : Hp) (x : Exc) (c : Value) (dd : Option Addr) : Prop :=
  ∃ C, G.mg x.cls = some (.ref C) ∧ c = .ref C ∧ match x.fld with
    | none => dd = none
    | some (f, d) => ∃ p v, dd = some p ∧ H p = some (.xd [(f, v)]) ∧ Rep G A H d v

def Post {α β : Type} (G : GX) (W : WX) (σ : L2.St) (R : List Addr → Hp → α → β → Prop) (A : List Addr) (H : Hp) (Q : β → Hp → Prop) : Res α → Prop
  | .bad => False
  | .ok d S' => ∀ A' H' v, Gr A H A' H' → R A' H' d v → HR G A' H' S' → Q v H'
  | .exc x S' => ∀ A' H' c dd, Gr A H A' H' → HR G A' H' S' → RepX G A' H' x c dd → W c dd σ H'
def SPost (G : GX) (W : WX) (E : Ends) (A : List Addr) (H : Hp) : SR → Prop
  | .bad => False
  | .nx ρ' S' => ∀ A' H' σ', Gr A H A' H' → RepE G A' H' ρ' σ' → HR G A' H' S' → E.nx σ' H'
  | .bk ρ' S' => ∀ A' H' σ', Gr A H A' H' → RepE G A' H' ρ' σ' → HR G A' H' S' → E.bk σ' H'
  | .ct ρ' S' => ∀ A' H' σ', Gr A H A' H' → RepE G A' H' ρ' σ' → HR G A' H' S' → E.ct σ' H'
  | .rt d S' => ∀ A' H' v, Gr A H A' H' → Rep G A' H' d v → HR G A' H' S' → E.rt v H'
  | .exc x ρ' S' => ∀ A' H' σ' c dd, Gr A H A' H' → RepE G A' H' ρ' σ' → HR G A' H' S' → RepX G A' H' x c dd → W c dd σ' H'

def can {α β : Type} (G : GX) (W : WX) (R : List Addr → Hp → α → β → Prop) (f : Env → Sto → Res α) : L2.St → Hp → (β → Hp → Prop) → Prop := fun σ H Q =>
  ∃ A ρ S, RepE G A H ρ σ ∧ HR G A H S ∧ Post G W σ R A H Q (f ρ S)
abbrev RB : List Addr → Hp → Bool → Bool → Prop := fun _ _ b c => c = b
abbrev cE (G : GX) (W : WX) (f : FE) : TE := can G W (Rep G) f
abbrev cT (G : GX) (W : WX) (f : FT) : TT := can G W RB f
abbrev cA (G : GX) (W : WX) (f : FA) : TA := can G W (Reps G) f
def cS (G : GX) (W : WX) (f : FS) : TS := fun E σ H => ∃ A ρ S, RepE G A H ρ σ ∧ HR G A H S ∧ SPost G W E A H (f ρ S)

section
variable {α β γ δ : Type} {G : GX} {W : WX} {σ : L2.St} {R : List Addr → Hp → α → β → Prop} {R' : List Addr → Hp → γ → δ → Prop} {A A1 : List Addr} {H H1 : Hp} {Q : β → Hp → Prop} {Q' : δ → Hp → Prop}
theorem Post.grow {r : Res α} (g : Gr A H A1 H1) (h : Post G W σ R A H Q r) : Post G W σ R A1 H1 Q r := by
  cases r with
  | bad => exact h
  | ok d S => exact fun A' H' v g' => h A' H' v (g.trans g')
  | exc x S => exact fun A' H' c dd g' => h A' H' c dd (g.trans g')
theorem SPost.grow {E : Ends} {r : SR} (g : Gr A H A1 H1) (h : SPost G W E A H r) : SPost G W E A1 H1 r := by
  cases r with
  | bad => exact h
  | nx ρ S => exact fun A' H' v g' => h A' H' v (g.trans g')
  | bk ρ S => exact fun A' H' v g' => h A' H' v (g.trans g')
  | ct ρ S => exact fun A' H' v g' => h A' H' v (g.trans g')
  | rt d S => exact fun A' H' v g' => h A' H' v (g.trans g')
  | exc x ρ S => exact fun A' H' σ' c dd g' => h A' H' σ' c dd (g.trans g')
/-- the value at hand -/
theorem Post.val {d : α} {S : Sto} {v : β} (h : Post G W σ R A H Q (.ok d S)) (r : R A H d v) (hs : HR G A H S) : Q v H := h A H v (Gr.refl _ _) r hs
/-- .. behind something new -/
theorem Post.valG {d : α} {S : Sto} {v : β} {A1 : List Addr} {H1 : Hp} (h : Post G W σ R A H Q (.ok d S)) (g : Gr A H A1 H1) (r : R A1 H1 d v) (hs : HR G A1 H1 S) : Q v H1 := h A1 H1 v g r hs
theorem can_bind {ρ : Env} {S : Sto} {f : Env → Sto → Res α} {k : α → Sto → Res γ} (he : RepE G A H ρ σ) (hs : HR G A H S) (h : Post G W σ R' A H Q' ((f ρ S).bind k))
    (hk : ∀ d S1 A1 H1 v, Gr A H A1 H1 → R A1 H1 d v → HR G A1 H1 S1 → RepE G A1 H1 ρ σ → Post G W σ R' A1 H1 Q' (k d S1) → Q v H1) : can G W R f σ H Q := by
  refine ⟨A, ρ, S, he, hs, ?_⟩
  cases e : f ρ S with
  | bad => rw [e] at h; exact h
  | ok d S1 =>
    rw [e] at h
    exact fun A' H' v g r hs' => hk d S1 A' H' v g r hs' (he.mono g) (Post.grow g h)
  | exc x S1 => rw [e] at h; exact h
end

/-! ### the functions -/
def dV (i : Nat) : FE := fun ρ S => match ρ[i]? with
  | some (some d) => .ok d S
  | _ => .bad
def dC (d : D) : FE := fun _ S => .ok d S
def dOp (g : Sto → D → D → Res D) (a b : FE) : FE := fun ρ S => (a ρ S).bind fun x S1 => (b ρ S1).bind fun y S2 => g S2 x y
def dUn (g : Sto → D → Res D) (a : FE) : FE := fun ρ S => (a ρ S).bind fun x S1 => g S1 x
def dTst (a : FE) : FT := fun ρ S => (a ρ S).bind fun x S1 => match x with
  | .bl b => .ok b S1
  | _ => .bad
def dAnd (t u : FT) : FT := fun ρ S => (t ρ S).bind fun b S1 => if b = true then u ρ S1 else .ok false S1
def dOr (t u : FT) : FT := fun ρ S => (t ρ S).bind fun b S1 => if b = true then .ok true S1 else u ρ S1
def dNot (t : FT) : FT := fun ρ S => (t ρ S).bind fun b S1 => .ok (!b) S1
/-- a test as a value -/
def dB (t : FT) : FE := fun ρ S => (t ρ S).bind fun b S1 => .ok (.bl b) S1
def dIf (t : FT) (a b : FE) : FE := fun ρ S => (t ρ S).bind fun c S1 => if c = true then a ρ S1 else b ρ S1
def dNil : FA := fun _ S => .ok [] S
def dCons (a : FE) (r : FA) : FA := fun ρ S => (a ρ S).bind fun x S1 => (r ρ S1).bind fun xs S2 => .ok (x :: xs) S2
def dTup (r : FA) : FE := fun ρ S => (r ρ S).bind fun xs S1 => if xs.length ≤ 1000 then .ok (.tup xs) S1 else .bad
def dLst (r : FA) : FE := fun ρ S => (r ρ S).bind fun xs S1 => if xs.length ≤ 1000 then .ok (.ref S1.length) (S1 ++ [.lst xs]) else .bad
/-- a call of a function of the values -/
def dCB (g : Sto → List D → Res D) (r : FA) : FE := fun ρ S => (r ρ S).bind fun xs S1 => g S1 xs

def sNext : FS := fun ρ S => .nx ρ S
def sSeq (a b : FS) : FS := fun ρ S => match a ρ S with
  | .nx ρ1 S1 => b ρ1 S1
  | r => r
def sIf (t : FT) (a b : FS) : FS := fun ρ S => match t ρ S with
  | .ok c S1 => if c = true then a ρ S1 else b ρ S1
  | .bad => .bad
  | .exc x S1 => .exc x ρ S1
def sDrop (e : FE) : FS := fun ρ S => match e ρ S with
  | .ok _ S1 => .nx ρ S1
  | .bad => .bad
  | .exc x S1 => .exc x ρ S1
def sRet (e : FE) : FS := fun ρ S => match e ρ S with
  | .ok d S1 => .rt d S1
  | .bad => .bad
  | .exc x S1 => .exc x ρ S1
def sRetN : FS := fun _ S => .rt .non S
def sSet (i : Nat) (e : FE) : FS := fun ρ S => match e ρ S with
  | .ok d S1 => .nx (ρ.set i (some d)) S1
  | .bad => .bad
  | .exc x S1 => .exc x ρ S1
def sBrk : FS := fun ρ S => .bk ρ S
def sCnt : FS := fun ρ S => .ct ρ S
def sBad : FS := fun _ _ => .bad

/-! ### the rules -/
abbrev gx (X : Cx) : GX := ⟨X.K, X.mg⟩
abbrev DE (X : Cx) (W : WX) (e : Expr) (f : FE) : Prop := PE X e (cE (gx X) W f)
abbrev DT (X : Cx) (W : WX) (e : Expr) (f : FT) : Prop := PT X e (cT (gx X) W f)
abbrev DA (X : Cx) (W : WX) (es : List Expr) (f : FA) : Prop := PA X es (cA (gx X) W f)
abbrev DS (X : Cx) (W : WX) (s : Stmt) (f : FS) : Prop := PS X s (cS (gx X) W f)
abbrev DSs (X : Cx) (W : WX) (s : List Stmt) (f : FS) : Prop := PSs X s (cS (gx X) W f)

section
variable {X : Cx} {W : WX} {e : Expr} {es : List Expr} {st : Stmt} {sts : List Stmt}
theorem _root_.L2.PE.to {t u : TE} (h : PE X e t) (k : ∀ σ H Q, u σ H Q → t σ H Q) : PE X e u := ⟨fun pins s σ H Q I q => h.run pins s σ H Q I (k σ H Q q)⟩
theorem _root_.L2.PT.to {t u : TT} (h : PT X e t) (k : ∀ σ H Q, u σ H Q → t σ H Q) : PT X e u := ⟨fun pins s σ H Q I q => h.run pins s σ H Q I (k σ H Q q)⟩
theorem _root_.L2.PW.to {t u : TT} (h : PW X e t) (k : ∀ σ H Q, u σ H Q → t σ H Q) : PW X e u := ⟨fun wh pins s σ H Q I q => h.run wh pins s σ H Q I (k σ H Q q)⟩
theorem _root_.L2.PA.to {t u : TA} (h : PA X es t) (k : ∀ σ H Q, u σ H Q → t σ H Q) : PA X es u := ⟨fun pos pins s σ H Q I q => h.run pos pins s σ H Q I (k σ H Q q)⟩
theorem _root_.L2.PS.to {t u : TS} (h : PS X st t) (k : ∀ E σ H, u E σ H → t E σ H) : PS X st u := ⟨fun pins s σ H E I q => h.run pins s σ H E I (k E σ H q)⟩
theorem _root_.L2.PSs.to {t u : TS} (h : PSs X sts t) (k : ∀ E σ H, u E σ H → t E σ H) : PSs X sts u := ⟨fun pins s σ H E I q => h.run pins s σ H E I (k E σ H q)⟩
end

section
variable {X : Cx} {W : WX} {a b c : Expr} {fa fb : FE} {ft fu : FT} {pos : Pos}
/-- a name that stands in the i-th slot -/
theorem de_v (i : Nat) {x : Str} (hN : X.N[i]? = some x := by rfl) (hv : Vis X.env.scope x := by first | exact Or.inl rfl | exact Or.inr (Or.inl rfl) | exact Or.inr (Or.inr rfl)) (hd : (x == ("__debug__" : Str)) = false := by decide)
    (hcd : (x == ("__classdict__" : Str)) = false := by decide) : DE X W (.Name x pos) (dV i) := (pe_var hN hv hd hcd).to fun σ H Q ⟨A, ρ, S, he, hs, h⟩ => by
  unfold dV at h
  split at h
  · rename_i d e
    obtain ⟨v, ev, r⟩ := he.get i d e
    exact ⟨v, ev, Post.val h r hs⟩
  · exact h.elim
theorem de_c {v : V} {d : D} (h : PE X a (tC v)) (r : ∀ A H, Rep (gx X) A H d v) : DE X W a (dC d) := h.to fun σ H Q ⟨A, ρ, S, he, hs, h⟩ => Post.val h (r A H) hs
theorem de_int {i : Int} {j : Nat} : DE X W (.Constant (.int i) j pos) (dC (.int i)) := de_c pe_int fun _ _ => rfl
theorem de_bl {b : Bool} {j : Nat} : DE X W (.Constant (.bool b) j pos) (dC (.bl b)) := de_c pe_bl fun _ _ => rfl
theorem de_non {j : Nat} : DE X W (.Constant .none j pos) (dC .non) := de_c pe_non fun _ _ => rfl
theorem de_str {x : Str} {j : Nat} : DE X W (.Constant (.str x) j pos) (dC (.str x)) := de_c pe_str fun _ _ => rfl
/-- what an operator asks, from what a function of the values gives -/
def OpS (G : GX) (W : WX) (r : R2) (g : Sto → D → D → Res D) : Prop := ∀ σ A H S d e v w Q, Rep G A H d v → Rep G A H e w → HR G A H S → Post G W σ (Rep G) A H Q (g S d e) → r v w H Q
def UnS (G : GX) (W : WX) (r : V → Hp → VK → Prop) (g : Sto → D → Res D) : Prop := ∀ σ A H S d v Q, Rep G A H d v → HR G A H S → Post G W σ (Rep G) A H Q (g S d) → r v H Q
def CbS (G : GX) (W : WX) (r : List V → Hp → VK → Prop) (g : Sto → List D → Res D) : Prop := ∀ σ A H S ds vs Q, Reps G A H ds vs → HR G A H S → Post G W σ (Rep G) A H Q (g S ds) → r vs H Q
theorem op_to {ta tb : TE} {r : R2} {g : Sto → D → D → Res D} (hr : OpS (gx X) W r g) (hta : ta = cE (gx X) W fa) (htb : tb = cE (gx X) W fb) : ∀ σ H Q, cE (gx X) W (dOp g fa fb) σ H Q → tOp r ta tb σ H Q := fun σ H Q ⟨A, ρ, S, he, hs, h⟩ => by
  subst hta htb
  exact can_bind he hs h fun d S1 A1 H1 v g1 r1 hs1 he1 h1 => can_bind he1 hs1 h1 fun e S2 A2 H2 w g2 r2 hs2 he2 h2 => hr σ A2 H2 S2 d e v w Q (r1.mono g2) r2 hs2 h2
theorem de_op {op : Operator} {r : R2} {g : Sto → D → D → Res D} (ho : OpR X (binaryOp op) r) (hr : OpS (gx X) W r g) (ha : DE X W a fa) (hb : DE X W b fb) : DE X W (.BinOp a op b pos) (dOp g fa fb) := (pe_op ho ha hb).to (op_to hr rfl rfl)
theorem de_cmp {op : CmpOp} {r : R2} {g : Sto → D → D → Res D} (ho : OpR X (compareOp op) r) (hr : OpS (gx X) W r g) (ha : DE X W a fa) (hb : DE X W b fb) (hm : behindInMarks op b = false := by rfl) : DE X W (.Compare a [op] [b] pos) (dOp g fa fb) := (pe_cmpR ho ha hb hm).to (op_to hr rfl rfl)
theorem de_un {op : UnaryOp} {r : V → Hp → VK → Prop} {g : Sto → D → Res D} (ho : UnR X (unaryOp op) r) (hr : UnS (gx X) W r g) (ha : DE X W a fa) : DE X W (.UnaryOp op a pos) (dUn g fa) := (pe_un ho ha).to fun σ H Q ⟨A, ρ, S, he, hs, h⟩ =>
  can_bind he hs h fun d S1 A1 H1 v g1 r1 hs1 he1 h1 => hr σ A1 H1 S1 d v Q r1 hs1 h1

/-! tests -/
theorem dt_v (h : DE X W a fa) (he : ∀ whole, isTrue a X.env whole = (do let v ← whole; standAt a.pos; holding [v] (truthy v)) := by intro _; rfl) : DT X W a (dTst fa) := (pt_val h he).to fun σ H Q ⟨A, ρ, S, hv, hs, h⟩ =>
  can_bind hv hs h fun d S1 A1 H1 v g1 r1 hs1 he1 h1 => by
    cases d with
    | bl b => exact ⟨b, r1, Post.val h1 rfl hs1⟩
    | _ => exact h1.elim
theorem dt_cmp {op : CmpOp} {r : R2} {g : Sto → D → D → Res D} (ho : OpR X (compareOp op) r) (hr : OpS (gx X) W r g) (ha : DE X W a fa) (hb : DE X W b fb) (hm : behindInMarks op b = false := by rfl) : DT X W (.Compare a [op] [b] pos) (dTst (dOp g fa fb)) :=
  (pt_cmpR ho ha hb hm).to fun σ H Q h => op_to (fa := fa) (fb := fb) hr rfl rfl σ H (fun z H1 => ∃ c, z = .bl c ∧ Q c H1) (by
    obtain ⟨A, ρ, S, hv, hs, h⟩ := h
    exact can_bind hv hs h fun d S1 A1 H1 v g1 r1 hs1 he1 h1 => by
      cases d with
      | bl b => exact ⟨b, r1, Post.val h1 rfl hs1⟩
      | _ => exact h1.elim)
/-- BoolOp chains: PW of the rest -/
abbrev DW (X : Cx) (W : WX) (e : Expr) (f : FT) : Prop := PW X e (cT (gx X) W f)
theorem dw_and1 (ha : DT X W a ft) : DW X W (.BoolOp .And [a] pos) ft := pw_and1 ha
theorem dw_or1 (ha : DT X W a ft) : DW X W (.BoolOp .Or [a] pos) ft := pw_or1 ha
theorem dw_and {rest : List Expr} (ha : DT X W a ft) (hb : DW X W (.BoolOp .And (b :: rest) pos) fu) : DW X W (.BoolOp .And (a :: b :: rest) pos) (dAnd ft fu) := (pw_and ha hb).to fun σ H Q ⟨A, ρ, S, hv, hs, h⟩ =>
  can_bind hv hs h fun b S1 A1 H1 c g1 r1 hs1 he1 h1 => by
    cases r1
    split
    · rename_i hb
      rw [if_pos hb] at h1
      exact ⟨A1, ρ, S1, he1, hs1, h1⟩
    · rename_i hb
      rw [if_neg hb] at h1
      exact Post.val h1 rfl hs1
theorem dw_or {rest : List Expr} (ha : DT X W a ft) (hb : DW X W (.BoolOp .Or (b :: rest) pos) fu) : DW X W (.BoolOp .Or (a :: b :: rest) pos) (dOr ft fu) := (pw_or ha hb).to fun σ H Q ⟨A, ρ, S, hv, hs, h⟩ =>
  can_bind hv hs h fun b S1 A1 H1 c g1 r1 hs1 he1 h1 => by
    cases r1
    split
    · rename_i hb
      rw [if_pos hb] at h1
      exact Post.val h1 rfl hs1
    · rename_i hb
      rw [if_neg hb] at h1
      exact ⟨A1, ρ, S1, he1, hs1, h1⟩
theorem dt_w (h : DW X W a ft) : DT X W a ft := h.pt
theorem dt_not (ha : DT X W a ft) : DT X W (.UnaryOp .Not a pos) (dNot ft) := (pt_not ha).to fun σ H Q ⟨A, ρ, S, hv, hs, h⟩ =>
  can_bind hv hs h fun b S1 A1 H1 c g1 r1 hs1 he1 h1 => by
    cases r1
    exact Post.val h1 rfl hs1
/-! tests as values -/
def dAndV (a b : FE) : FE := fun ρ S => (a ρ S).bind fun x S1 => match x with
  | .bl true => b ρ S1
  | .bl false => .ok (.bl false) S1
  | _ => .bad
def dOrV (a b : FE) : FE := fun ρ S => (a ρ S).bind fun x S1 => match x with
  | .bl true => .ok (.bl true) S1
  | .bl false => b ρ S1
  | _ => .bad
def dNotV (a : FE) : FE := fun ρ S => (a ρ S).bind fun x S1 => match x with
  | .bl b => .ok (.bl (!b)) S1
  | _ => .bad
theorem de_one {op : PySem.BoolOp} (ha : DE X W a fa) : DE X W (.BoolOp op [a] pos) fa := pe_one ha
theorem de_and {rest : List Expr} (ha : DE X W a fa) (hb : DE X W (.BoolOp .And (b :: rest) pos) fb) : DE X W (.BoolOp .And (a :: b :: rest) pos) (dAndV fa fb) := (pe_and ha hb).to fun σ H Q ⟨A, ρ, S, hv, hs, h⟩ =>
  can_bind hv hs h fun d S1 A1 H1 v g1 r1 hs1 he1 h1 => by
    cases d with
    | bl b =>
      refine ⟨b, r1, ?_⟩
      cases b with
      | true => rw [if_pos rfl]; exact ⟨A1, ρ, S1, he1, hs1, h1⟩
      | false => rw [if_neg Bool.false_ne_true]; exact Post.val h1 rfl hs1
    | _ => exact h1.elim
theorem de_or {rest : List Expr} (ha : DE X W a fa) (hb : DE X W (.BoolOp .Or (b :: rest) pos) fb) : DE X W (.BoolOp .Or (a :: b :: rest) pos) (dOrV fa fb) := (pe_or ha hb).to fun σ H Q ⟨A, ρ, S, hv, hs, h⟩ =>
  can_bind hv hs h fun d S1 A1 H1 v g1 r1 hs1 he1 h1 => by
    cases d with
    | bl b =>
      refine ⟨b, r1, ?_⟩
      cases b with
      | true => rw [if_pos rfl]; exact Post.val h1 rfl hs1
      | false => rw [if_neg Bool.false_ne_true]; exact ⟨A1, ρ, S1, he1, hs1, h1⟩
    | _ => exact h1.elim
theorem de_not (ha : DE X W a fa) : DE X W (.UnaryOp .Not a pos) (dNotV fa) := (pe_not ha).to fun σ H Q ⟨A, ρ, S, hv, hs, h⟩ =>
  can_bind hv hs h fun d S1 A1 H1 v g1 r1 hs1 he1 h1 => by
    cases d with
    | bl b => exact ⟨b, r1, Post.val h1 rfl hs1⟩
    | _ => exact h1.elim
theorem de_if (hc : DT X W c ft) (ha : DE X W a fa) (hb : DE X W b fb) : DE X W (.IfExp c a b pos) (dIf ft fa fb) := (pe_ifExp hc ha hb).to fun σ H Q ⟨A, ρ, S, hv, hs, h⟩ =>
  can_bind hv hs h fun d S1 A1 H1 v g1 r1 hs1 he1 h1 => by
    cases r1
    split
    · rename_i hb
      rw [if_pos hb] at h1
      exact ⟨A1, ρ, S1, he1, hs1, h1⟩
    · rename_i hb
      rw [if_neg hb] at h1
      exact ⟨A1, ρ, S1, he1, hs1, h1⟩
/-- a <= b <= c -/
def dChain (g g' : Sto → D → D → Res D) (a b c : FE) : FE := fun ρ S => (a ρ S).bind fun x S1 => (b ρ S1).bind fun y S2 => (g S2 x y).bind fun z S3 => match z with
  | .bl true => (c ρ S3).bind fun u S4 => g' S4 y u
  | .bl false => .ok (.bl false) S3
  | _ => .bad
theorem Post.bind_of {α β γ δ : Type} {G : GX} {W : WX} {σ : L2.St} {R : List Addr → Hp → α → β → Prop} {R' : List Addr → Hp → γ → δ → Prop} {A : List Addr} {H : Hp} {Q : β → Hp → Prop} {Q' : δ → Hp → Prop} {m : Res α} {k : α → Sto → Res γ}
    (h : Post G W σ R' A H Q' (m.bind k)) (hk : ∀ d S1 A1 H1 v, Gr A H A1 H1 → R A1 H1 d v → HR G A1 H1 S1 → Post G W σ R' A1 H1 Q' (k d S1) → Q v H1) : Post G W σ R A H Q m := by
  cases m with
  | bad => exact h
  | ok d S1 => exact fun A' H' v g r hs' => hk d S1 A' H' v g r hs' (Post.grow g h)
  | exc x S1 => exact h
theorem de_chain {op op' : CmpOp} {fc : FE} {r r' : R2} {g g' : Sto → D → D → Res D} (ho : OpR X (compareOp op) r) (ho' : OpR X (compareOp op') r') (hr : OpS (gx X) W r g) (hr' : OpS (gx X) W r' g') (ha : DE X W a fa) (hb : DE X W b fb) (hc : DE X W c fc) (hm : lastMarks [op, op'] [b, c] = false := by rfl) :
    DE X W (.Compare a [op, op'] [b, c] pos) (dChain g g' fa fb fc) := (pe_chain ho ho' ha hb hc hm).to fun σ H Q ⟨A, ρ, S, hv, hs, h⟩ =>
  can_bind hv hs h fun d S1 A1 H1 v g1 r1 hs1 he1 h1 => can_bind he1 hs1 h1 fun e S2 A2 H2 w g2 r2 hs2 he2 h2 => hr σ A2 H2 S2 d e v w _ (r1.mono g2) r2 hs2 (Post.bind_of h2 fun z S3 A3 H3 y g3 r3 hs3 h3 => by
    cases z with
    | bl b =>
      refine ⟨b, r3, ?_⟩
      cases b with
      | true =>
        rw [if_pos rfl]
        exact can_bind (he2.mono g3) hs3 h3 fun u S4 A4 H4 y' g4 r4 hs4 he4 h4 => hr' σ A4 H4 S4 e u w y' Q ((r2.mono g3).mono g4) r4 hs4 h4
      | false => rw [if_neg Bool.false_ne_true]; exact Post.val h3 rfl hs3
    | _ => exact h3.elim)

/-! arguments, displays -/
theorem da_nil : DA X W [] dNil := pa_nil.to fun σ H Q ⟨A, ρ, S, hv, hs, h⟩ => Post.val h Reps.nil hs
theorem da_cons {es : List Expr} {fr : FA} (ha : DE X W a fa) (hr : DA X W es fr) (hs : starEach (a :: es) X.env = (false, eval a X.env) :: starEach es X.env := by rfl) : DA X W (a :: es) (dCons fa fr) := (pa_cons ha hr hs).to fun σ H Q ⟨A, ρ, S, hv, hs, h⟩ =>
  can_bind hv hs h fun d S1 A1 H1 v g1 r1 hs1 he1 h1 => can_bind he1 hs1 h1 fun ds S2 A2 H2 vs g2 r2 hs2 he2 h2 => Post.val h2 (Reps.cons (r1.mono g2) r2) hs2
theorem small_sz {n : Nat} (h : n ≤ 1000) : n ≤ sizeLine := Nat.le_trans h (by decide)
theorem de_tup {es : List Expr} {fr : FA} {x1} (h : DA X W es fr) : DE X W (.Tuple es x1 pos) (dTup fr) := (pe_tup h).to fun σ H Q ⟨A, ρ, S, hv, hs, h⟩ =>
  can_bind hv hs h fun ds S1 A1 H1 vs g1 r1 hs1 he1 h1 => by
    split at h1
    · rename_i hl
      refine ⟨small_sz (by rw [r1.len]; exact hl), fun p hp => ?_⟩
      exact Post.valG h1 (Gr.new hp) ⟨p, vs, rfl, upd_same, r1.mono (Gr.new hp)⟩ (hs1.new hp)
    · exact h1.elim
theorem de_lst {es : List Expr} {fr : FA} (h : DA X W es fr) : DE X W (.List es pos) (dLst fr) := (pe_lst h).to fun σ H Q ⟨A, ρ, S, hv, hs, h⟩ =>
  can_bind hv hs h fun ds S1 A1 H1 vs g1 r1 hs1 he1 h1 => by
    split at h1
    · rename_i hl
      refine ⟨small_sz (by rw [r1.len]; exact hl), fun p hp => ?_⟩
      refine Post.valG h1 (Gr.push hp) ⟨p, ?_, rfl⟩ (hs1.push hp ⟨vs, upd_same, r1.mono (Gr.push hp)⟩)
      rw [List.getElem?_append_right (by rw [hs1.len]; exact Nat.le_refl _), hs1.len, Nat.sub_self]
      rfl
    · exact h1.elim

/-! statements -/
theorem SPost_of_exp {α β : Type} {R : List Addr → Hp → α → β → Prop} {f : Env → Sto → Res α} {k : Env → Res α → SR} {G : GX} {E : Ends} {A : List Addr} {H : Hp} {ρ : Env} {σ : L2.St} {S : Sto} {Q : β → Hp → Prop}
    (he : RepE G A H ρ σ) (hs : HR G A H S) (h : SPost G W E A H (k ρ (f ρ S))) (kb : ∀ ρ, k ρ .bad = .bad) (kx : ∀ ρ x S, k ρ (.exc x S) = .exc x ρ S)
    (hk : ∀ d S1 A1 H1 v, Gr A H A1 H1 → R A1 H1 d v → HR G A1 H1 S1 → RepE G A1 H1 ρ σ → SPost G W E A1 H1 (k ρ (.ok d S1)) → Q v H1) : can G W R f σ H Q := by
  refine ⟨A, ρ, S, he, hs, ?_⟩
  cases e : f ρ S with
  | bad => rw [e, kb] at h; exact h
  | ok d S1 =>
    rw [e] at h
    exact fun A' H' v g r hs' => hk d S1 A' H' v g r hs' (he.mono g) (SPost.grow g h)
  | exc x S1 =>
    rw [e, kx] at h
    exact fun A' H' c dd g hs' rx => h A' H' σ c dd g (he.mono g) hs' rx
variable {sts : List Stmt} {st : Stmt} {f1 f2 : FS}
theorem ds_nil : DSs X W [] sNext := pss_nil.to fun E σ H ⟨A, ρ, S, hv, hs, h⟩ => h A H σ (Gr.refl _ _) hv hs
theorem ds_cons (h1 : DS X W st f1) (h2 : DSs X W sts f2) : DSs X W (st :: sts) (sSeq f1 f2) := (pss_cons h1 h2).to fun E σ H ⟨A, ρ, S, hv, hs, h⟩ => by
  refine ⟨A, ρ, S, hv, hs, ?_⟩
  unfold sSeq at h
  cases e : f1 ρ S with
  | nx ρ1 S1 =>
    rw [e] at h
    exact fun A' H' σ' g he' hs' => ⟨A', ρ1, S1, he', hs', SPost.grow g h⟩
  | bad => rw [e] at h; exact h
  | bk ρ1 S1 => rw [e] at h; exact h
  | ct ρ1 S1 => rw [e] at h; exact h
  | rt d S1 => rw [e] at h; exact h
  | exc x ρ1 S1 => rw [e] at h; exact h
theorem ds_one (h1 : DS X W st f1) : DSs X W [st] f1 := pss_one h1
theorem ds_if {l1 l2 : List Stmt} (hc : DT X W c ft) (h1 : DSs X W l1 f1) (h2 : DSs X W l2 f2) : DS X W (.If c l1 l2 pos) (sIf ft f1 f2) := (ps_if hc h1 h2).to fun E σ H ⟨A, ρ, S, hv, hs, h⟩ =>
  SPost_of_exp (k := fun ρ r => match r with | .ok c S1 => if c = true then f1 ρ S1 else f2 ρ S1 | .bad => .bad | .exc x S1 => .exc x ρ S1) hv hs h (fun _ => rfl) (fun _ _ _ => rfl) fun d S1 A1 H1 v g1 r1 hs1 he1 h1 => by
    cases r1
    dsimp only at h1
    split
    · rename_i hb
      rw [if_pos hb] at h1
      exact ⟨A1, ρ, S1, he1, hs1, h1⟩
    · rename_i hb
      rw [if_neg hb] at h1
      exact ⟨A1, ρ, S1, he1, hs1, h1⟩
theorem ds_drop (ha : DE X W a fa) (hs : swapsWith a none pos.line X.env = pure false := by rfl) : DS X W (.Expr a pos) (sDrop fa) := (ps_expr ha hs).to fun E σ H ⟨A, ρ, S, hv, hs, h⟩ =>
  SPost_of_exp (k := fun ρ r => match r with | .ok _ S1 => .nx ρ S1 | .bad => .bad | .exc x S1 => .exc x ρ S1) hv hs h (fun _ => rfl) (fun _ _ _ => rfl) fun d S1 A1 H1 v g1 r1 hs1 he1 h1 => h1 A1 H1 σ (Gr.refl _ _) he1 hs1
theorem ds_doc {x : Str} {j : Nat} {pos' : Pos} : DS X W (.Expr (.Constant (.str x) j pos) pos') sNext := ps_doc.to fun E σ H ⟨A, ρ, S, hv, hs, h⟩ => h A H σ (Gr.refl _ _) hv hs
theorem ds_ret (ha : DE X W a fa) : DS X W (.Return (some a) pos) (sRet fa) := (ps_ret ha).to fun E σ H ⟨A, ρ, S, hv, hs, h⟩ =>
  SPost_of_exp (k := fun ρ r => match r with | .ok d S1 => .rt d S1 | .bad => .bad | .exc x S1 => .exc x ρ S1) hv hs h (fun _ => rfl) (fun _ _ _ => rfl) fun d S1 A1 H1 v g1 r1 hs1 he1 h1 => h1 A1 H1 v (Gr.refl _ _) r1 hs1
theorem ds_retN : DS X W (.Return none pos) sRetN := ps_retN.to fun E σ H ⟨A, ρ, S, hv, hs, h⟩ => h A H .non (Gr.refl _ _) rfl hs
theorem ds_pass : DS X W (.Pass pos) sNext := ps_pass.to fun E σ H ⟨A, ρ, S, hv, hs, h⟩ => h A H σ (Gr.refl _ _) hv hs
theorem ds_brk : DS X W (.Break pos) sBrk := ps_break.to fun E σ H ⟨A, ρ, S, hv, hs, h⟩ => h A H σ (Gr.refl _ _) hv hs
theorem ds_cnt : DS X W (.Continue pos) sCnt := ps_continue.to fun E σ H ⟨A, ρ, S, hv, hs, h⟩ => h A H σ (Gr.refl _ _) hv hs
theorem ds_bad : DS X W st sBad := ps_never.to fun E σ H ⟨A, ρ, S, hv, hs, h⟩ => h.elim
theorem ds_set {i : Nat} {x : Str} {pos' : Pos} (hN : X.N.Nodup) (ha : DE X W a fa) (hi : X.N[i]? = some x := by rfl) (hx : Loc X.env.scope x := by first | exact Or.inl rfl | exact Or.inr rfl) (hs : swapsWith a (some (.Name x pos')) pos.line X.env = pure false := by rfl) (hf : X.fn x = true ∨ X.env.scope.names.lookup x = some .local := by first | exact .inl rfl | exact .inr rfl) :
    DS X W (.Assign [.Name x pos'] a pos) (sSet i fa) := (ps_set hN hi hx ha hs hf).to fun E σ H ⟨A, ρ, S, hv, hs, h⟩ =>
  SPost_of_exp (k := fun ρ r => match r with | .ok d S1 => .nx (ρ.set i (some d)) S1 | .bad => .bad | .exc x S1 => .exc x ρ S1) hv hs h (fun _ => rfl) (fun _ _ _ => rfl) fun d S1 A1 H1 v g1 r1 hs1 he1 h1 => h1 A1 H1 _ (Gr.refl _ _) (he1.set r1 i) hs1
end
end TD

set_option Elab.async false
set_option linter.all false
set_option maxRecDepth 100000
set_option maxHeartbeats 2000000
/-! TD2: operations by values. -/
namespace TD
open PySem PySem.Spec PyProof.Rows L2

/-! ### lists and tuples -/
def listOf (S : Sto) : D → Option (List D)
  | .fls xs => some xs
  | .ref n => match S[n]? with
    | some (.lst xs) => some xs
    | _ => none
  | _ => none
def tupOf : D → Option (List D)
  | .tup xs => some xs
  | .ktp xs => some xs
  | _ => none
section
variable {G : GX} {W : WX} {A : List Addr} {H : Hp} {S : Sto} {d : D} {v : V} {xs : List D}
theorem listOf_at (hs : HR G A H S) (r : Rep G A H d v) (h : listOf S d = some xs) : ∃ a vs, v = .ref a ∧ SqL G.K H a vs ∧ Reps G A H xs vs := by
  unfold listOf at h
  split at h
  · cases h
    obtain ⟨a, vs, e, h1, h2⟩ := r
    exact ⟨a, vs, e, h1.sqL, h2⟩
  · rename_i n
    split at h
    · rename_i ys e
      cases h
      obtain ⟨a, ea, rfl⟩ := r
      obtain ⟨vs, h1, h2⟩ := hs.at ea e
      exact ⟨a, vs, rfl, SqL.of h1, h2⟩
    · cases h
  · cases h
theorem tupOf_at (r : Rep G A H d v) (h : tupOf d = some xs) : ∃ a vs, v = .ref a ∧ SqT G.K H a vs ∧ Reps G A H xs vs := by
  unfold tupOf at h
  split at h
  · cases h
    obtain ⟨a, vs, e, h1, h2⟩ := r
    exact ⟨a, vs, e, SqT.of h1, h2⟩
  · cases h
    obtain ⟨a, vs, e, h1, h2⟩ := r
    exact ⟨a, vs, e, h1 H, h2⟩
  · cases h
end

/-! ### ints -/
def gInt (g : Int → Int → Res D) : Sto → D → D → Res D := fun _ x y => match x, y with
  | .int i, .int j => g i j
  | _, _ => .bad
def big : Nat := 16777216
/-- + -/
def gAdd : Sto → D → D → Res D := fun S x y => match x, y with
  | .int i, .int j => .ok (.int (i + j)) S
  | .str a, .str b => if a.length + b.length ≤ 1000000 then .ok (.str (a ++ b)) S else .bad
  | .tup xs, .tup ys => if xs.length + ys.length ≤ 1000000 then .ok (.tup (xs ++ ys)) S else .bad
  | .ref n, .ref m => match S[n]?, S[m]? with
    | some (.lst xs), some (.lst ys) => if xs.length + ys.length ≤ 1000000 then .ok (.ref S.length) (S ++ [.lst (xs ++ ys)]) else .bad
    | _, _ => .bad
  | _, _ => .bad
def gSub : Sto → D → D → Res D := fun S x y => match x, y with
  | .int i, .int j => .ok (.int (i - j)) S
  | _, _ => .bad
def gMul : Sto → D → D → Res D := fun S x y => match x, y with
  | .int i, .int j => if (-18446744073709551616 < i ∧ i < 18446744073709551616) ∨ (-18446744073709551616 < j ∧ j < 18446744073709551616) then .ok (.int (i * j)) S else .bad
  | _, _ => .bad
def gMod : Sto → D → D → Res D := fun S x y => match x, y with
  | .int i, .int j => if 0 < j then .ok (.int (i % j)) S else .bad
  | _, _ => .bad
def gDiv : Sto → D → D → Res D := fun S x y => match x, y with
  | .int i, .int j => if 0 < j ∧ j < 1073741824 then .ok (.int (i / j)) S else .bad
  | _, _ => .bad
def gPow : Sto → D → D → Res D := fun S x y => match x, y with
  | .int i, .int j => if 0 ≤ j ∧ j ≤ 1000 ∧ i.natAbs < 1000 then .ok (.int (i ^ j.toNat)) S else .bad
  | _, _ => .bad
def gLt : Sto → D → D → Res D := fun S x y => match x, y with
  | .int i, .int j => .ok (.bl (decide (i < j))) S
  | _, _ => .bad
def gLe : Sto → D → D → Res D := fun S x y => match x, y with
  | .int i, .int j => .ok (.bl (decide (i ≤ j))) S
  | _, _ => .bad
def gGt : Sto → D → D → Res D := fun S x y => match x, y with
  | .int i, .int j => .ok (.bl (decide (j < i))) S
  | _, _ => .bad
def gGe : Sto → D → D → Res D := fun S x y => match x, y with
  | .int i, .int j => .ok (.bl (decide (j ≤ i))) S
  | _, _ => .bad
def gNeg : Sto → D → Res D := fun S x => match x with
  | .int i => .ok (.int (-i)) S
  | _ => .bad

section
variable {G : GX} {W : WX}
/-- two ints -/
theorem opS_int {C : Int → Int → Prop} {f : Int → Int → V} {g : Sto → D → D → Res D}
    (hg : ∀ σ A H S d e Q, Post G W σ (Rep G) A H Q (g S d e) → ∃ i j, d = .int i ∧ e = .int j ∧ C i j ∧ ∃ z, Post G W σ (Rep G) A H Q (.ok z S) ∧ ∀ A H, Rep G A H z (f i j)) : OpS G W (rI C f) g := fun σ A H S d e v w Q r1 r2 hs h => by
  obtain ⟨i, j, rfl, rfl, hc, z, q, rz⟩ := hg σ A H S d e Q h
  exact ⟨i, j, r1, r2, hc, Post.val q (rz A H) hs⟩
theorem opS_int0 {f : Int → Int → V} {g : Sto → D → D → Res D}
    (hg : ∀ σ A H S d e Q, Post G W σ (Rep G) A H Q (g S d e) → ∃ i j, d = .int i ∧ e = .int j ∧ ∃ z, Post G W σ (Rep G) A H Q (.ok z S) ∧ ∀ A H, Rep G A H z (f i j)) : OpS G W (rI0 f) g := fun σ A H S d e v w Q r1 r2 hs h => by
  obtain ⟨i, j, rfl, rfl, z, q, rz⟩ := hg σ A H S d e Q h
  exact ⟨i, j, r1, r2, Post.val q (rz A H) hs⟩
theorem os_sub : OpS G W (rI0 fun i j => .int (i - j)) gSub := opS_int0 fun σ A H S d e Q h => by
  unfold gSub at h
  split at h
  · exact ⟨_, _, rfl, rfl, _, h, fun _ _ => rfl⟩
  · exact h.elim
theorem os_lt : OpS G W (rI0 fun i j => .bl (decide (i < j))) gLt := opS_int0 fun σ A H S d e Q h => by
  unfold gLt at h
  split at h
  · exact ⟨_, _, rfl, rfl, _, h, fun _ _ => rfl⟩
  · exact h.elim
theorem os_le : OpS G W (rI0 fun i j => .bl (decide (i ≤ j))) gLe := opS_int0 fun σ A H S d e Q h => by
  unfold gLe at h
  split at h
  · exact ⟨_, _, rfl, rfl, _, h, fun _ _ => rfl⟩
  · exact h.elim
theorem os_gt : OpS G W (rI0 fun i j => .bl (decide (j < i))) gGt := opS_int0 fun σ A H S d e Q h => by
  unfold gGt at h
  split at h
  · exact ⟨_, _, rfl, rfl, _, h, fun _ _ => rfl⟩
  · exact h.elim
theorem os_ge : OpS G W (rI0 fun i j => .bl (decide (j ≤ i))) gGe := opS_int0 fun σ A H S d e Q h => by
  unfold gGe at h
  split at h
  · exact ⟨_, _, rfl, rfl, _, h, fun _ _ => rfl⟩
  · exact h.elim
theorem os_mul : OpS G W (rI CMul fun i j => .int (i * j)) gMul := opS_int fun σ A H S d e Q h => by
  unfold gMul at h
  split at h
  · split at h
    · rename_i hc
      exact ⟨_, _, rfl, rfl, by simpa [CMul] using hc, _, h, fun _ _ => rfl⟩
    · exact h.elim
  · exact h.elim
theorem os_mod : OpS G W (rI (fun _ j => 0 < j) fun i j => .int (i % j)) gMod := opS_int fun σ A H S d e Q h => by
  unfold gMod at h
  split at h
  · split at h
    · rename_i hc
      exact ⟨_, _, rfl, rfl, hc, _, h, fun _ _ => rfl⟩
    · exact h.elim
  · exact h.elim
theorem os_div : OpS G W (rI CDiv fun i j => .int (i / j)) gDiv := opS_int fun σ A H S d e Q h => by
  unfold gDiv at h
  split at h
  · split at h
    · rename_i hc
      exact ⟨_, _, rfl, rfl, hc, _, h, fun _ _ => rfl⟩
    · exact h.elim
  · exact h.elim
theorem os_pow : OpS G W (rI CPow fun i j => .int (i ^ j.toNat)) gPow := opS_int fun σ A H S d e Q h => by
  unfold gPow at h
  split at h
  · split at h
    · rename_i hc
      exact ⟨_, _, rfl, rfl, ⟨hc.1, by omega, Nat.lt_trans hc.2.2 (by decide)⟩, _, h, fun _ _ => rfl⟩
    · exact h.elim
  · exact h.elim
theorem us_neg : UnS G W (rU fun i => .int (-i)) gNeg := fun σ A H S d v Q r hs h => by
  unfold gNeg at h
  split at h
  · exact ⟨_, r, Post.val h rfl hs⟩
  · exact h.elim
theorem big_sz {n : Nat} (h : n ≤ 1000000) : n ≤ sizeLine := Nat.le_trans h (by decide)
theorem os_add : OpS G W (fun x y H Q => (fun x y H Q => (fun x y H Q => rI0 (fun i j => .int (i + j)) x y H Q ∨ (fun x y H Q => ∃ i j, x = .str i ∧ y = .str j ∧ i.length + j.length ≤ sizeLine ∧ Q (.str (i ++ j)) H) x y H Q) x y H Q ∨ rCatA G.K x y H Q) x y H Q ∨ rCat x y H Q) gAdd := fun σ A H S d e v w Q r1 r2 hs h => by
  unfold gAdd at h
  split at h
  · exact .inl (.inl (.inl ⟨_, _, r1, r2, Post.val h rfl hs⟩))
  · split at h
    · rename_i hl
      exact .inl (.inl (.inr ⟨_, _, r1, r2, big_sz hl, Post.val h rfl hs⟩))
    · exact h.elim
  · rename_i xs ys
    split at h
    · rename_i hl
      obtain ⟨a, vs, rfl, h1, k1⟩ := r1
      obtain ⟨b, ws, rfl, h2, k2⟩ := r2
      refine .inl (.inr ⟨a, b, vs, ws, rfl, rfl, SqT.of h1, SqT.of h2, big_sz (by rw [k1.len, k2.len]; exact hl), fun e => ?_, fun _ e => ?_, fun _ _ p hp => ?_⟩)
      · subst e
        exact Post.val h ⟨b, ws, rfl, h2, by simpa using k1.append k2⟩ hs
      · subst e
        exact Post.val h ⟨a, vs, rfl, h1, by simpa using k1.append k2⟩ hs
      · exact Post.valG h (Gr.new hp) ⟨p, _, rfl, upd_same, (k1.append k2).mono (Gr.new hp)⟩ (hs.new hp)
    · exact h.elim
  · rename_i n m
    split at h
    · rename_i xs ys e1 e2
      split at h
      · rename_i hl
        obtain ⟨a, ea, rfl⟩ := r1
        obtain ⟨b, eb, rfl⟩ := r2
        obtain ⟨vs, h1, k1⟩ := hs.at ea e1
        obtain ⟨ws, h2, k2⟩ := hs.at eb e2
        refine .inr ⟨a, b, vs, ws, rfl, rfl, h1, h2, big_sz (by rw [k1.len, k2.len]; exact hl), fun p hp => ?_⟩
        refine Post.valG h (Gr.push hp) ⟨p, ?_, rfl⟩ (hs.push hp ⟨_, upd_same, (k1.append k2).mono (Gr.push hp)⟩)
        rw [List.getElem?_append_right (by rw [hs.len]; exact Nat.le_refl _), hs.len, Nat.sub_self]
        rfl
      · exact h.elim
    · exact h.elim
  · exact h.elim
end
section
variable {X : Cx} {W : WX} {a b c : Expr} {fa fb fc : FE} {pos : Pos}
theorem de_add (ha : DE X W a fa) (hb : DE X W b fb) : DE X W (.BinOp a .Add b pos) (dOp gAdd fa fb) := de_op (((op_add.or op_add_str).or op_catA).or op_cat) os_add ha hb
theorem de_sub (ha : DE X W a fa) (hb : DE X W b fb) : DE X W (.BinOp a .Sub b pos) (dOp gSub fa fb) := de_op op_sub os_sub ha hb
theorem de_mul (ha : DE X W a fa) (hb : DE X W b fb) : DE X W (.BinOp a .Mult b pos) (dOp gMul fa fb) := de_op op_mul os_mul ha hb
theorem de_mod (ha : DE X W a fa) (hb : DE X W b fb) : DE X W (.BinOp a .Mod b pos) (dOp gMod fa fb) := de_op op_mod os_mod ha hb
theorem de_div (ha : DE X W a fa) (hb : DE X W b fb) : DE X W (.BinOp a .FloorDiv b pos) (dOp gDiv fa fb) := de_op op_fdiv os_div ha hb
theorem de_pow (ha : DE X W a fa) (hb : DE X W b fb) : DE X W (.BinOp a .Pow b pos) (dOp gPow fa fb) := de_op op_pow os_pow ha hb
theorem de_neg (ha : DE X W a fa) : DE X W (.UnaryOp .USub a pos) (dUn gNeg fa) := de_un un_neg us_neg ha
end

/-! ### flat values: ==, in -/
def flatD : D → Bool
  | .non => true
  | .bl _ => true
  | .int _ => true
  | .str _ => true
  | _ => false
def eqFD : D → D → Bool
  | .non, .non => true
  | .bl a, .bl b => a == b
  | .bl a, .int b => (if a then 1 else 0) == b
  | .int a, .bl b => a == (if b then 1 else 0)
  | .int a, .int b => a == b
  | .str a, .str b => a == b
  | _, _ => false
mutual
/-- data without places of the store, as the library's data -/
def pyD (S : Sto) : D → Option PyData
  | .non => some .none
  | .bl b => some (.bool b)
  | .int i => some (.int i)
  | .str x => some (.str x)
  | .tup xs => (pyDs S xs).map .tuple
  | .ktp xs => (pyDs S xs).map .tuple
  | .fls xs => (pyDs S xs).map .list
  | .ref _ => none
  | .glo _ => none
  | .ty _ => none
def pyDs (S : Sto) : List D → Option (List PyData)
  | [] => some []
  | d :: ds => match pyD S d, pyDs S ds with
    | some x, some xs => some (x :: xs)
    | _, _ => none
end
/-- .. a list of the store on top -/
def pyT (S : Sto) (d : D) : Option PyData := match d with
  | .ref n => match S[n]? with
    | some (.lst xs) => (pyDs S xs).map .list
    | _ => none
  | d => pyD S d
section
variable {G : GX} {W : WX} {A : List Addr} {H : Hp} {S : Sto}
theorem flat_rep {d : D} {v : V} (r : Rep G A H d v) (h : flatD d = true) : flatV v = true := by
  cases d with
  | non => cases (show v = .non from r); rfl
  | bl b => cases (show v = .bl b from r); rfl
  | int b => cases (show v = .int b from r); rfl
  | str b => cases (show v = .str b from r); rfl
  | _ => cases h
theorem flat_all : ∀ {ds : List D} {vs : List V}, Reps G A H ds vs → ds.all flatD = true → vs.all flatV = true
  | [], _, r, _ => by cases r; rfl
  | d :: ds, _, r, h => by
    obtain ⟨v, t, rfl, r1, r2⟩ := r
    rw [List.all_cons, Bool.and_eq_true] at h
    rw [List.all_cons, flat_rep r1 h.1, flat_all r2 h.2]
    rfl
theorem eqFD_rep {d e : D} {v w : V} (r : Rep G A H d v) (q : Rep G A H e w) (h : flatD d = true) (k : flatD e = true) : eqV v w = eqFD d e := by
  cases d with
  | non => cases (show v = .non from r); cases e with
    | non => cases (show w = .non from q); rfl
    | bl b => cases (show w = .bl b from q); rfl
    | int b => cases (show w = .int b from q); rfl
    | str b => cases (show w = .str b from q); rfl
    | _ => cases k
  | bl a => cases (show v = .bl a from r); cases e with
    | non => cases (show w = .non from q); rfl
    | bl b => cases (show w = .bl b from q); rfl
    | int b => cases (show w = .int b from q); rfl
    | str b => cases (show w = .str b from q); rfl
    | _ => cases k
  | int a => cases (show v = .int a from r); cases e with
    | non => cases (show w = .non from q); rfl
    | bl b => cases (show w = .bl b from q); rfl
    | int b => cases (show w = .int b from q); rfl
    | str b => cases (show w = .str b from q); rfl
    | _ => cases k
  | str a => cases (show v = .str a from r); cases e with
    | non => cases (show w = .non from q); rfl
    | bl b => cases (show w = .bl b from q); rfl
    | int b => cases (show w = .int b from q); rfl
    | str b => cases (show w = .str b from q); rfl
    | _ => cases k
  | _ => cases h
theorem inV_rep {d : D} {v : V} (r : Rep G A H d v) (h : flatD d = true) : ∀ {ds : List D} {vs : List V}, Reps G A H ds vs → ds.all flatD = true → inV v vs = ds.any fun y => eqFD y d
  | [], _, q, _ => by cases q; rfl
  | e :: ds, _, q, k => by
    obtain ⟨w, t, rfl, r1, r2⟩ := q
    rw [List.all_cons, Bool.and_eq_true] at k
    unfold inV
    rw [List.any_cons, List.any_cons, eqFD_rep r1 r k.1 h]
    have := inV_rep r h r2 k.2
    unfold inV at this
    rw [this]
theorem dpAll_of : ∀ {ds : List D} {vs : List V} {ps : List PyData}, (∀ (d : D), d ∈ ds → ∀ (v : V) (p : PyData), Rep G A H d v → pyD S d = some p → Dp G.K H v p) → Reps G A H ds vs → pyDs S ds = some ps → DpAll G.K H vs ps
  | [], _, _, _, r, h => by
    cases r
    rw [pyDs] at h
    cases h
    exact .nil
  | d :: ds, _, _, ih, r, h => by
    obtain ⟨v, t, rfl, r1, r2⟩ := r
    rw [pyDs] at h
    split at h
    · rename_i x xs e1 e2
      cases h
      exact .cons (ih d List.mem_cons_self v x r1 e1) (dpAll_of (fun d hd => ih d (List.mem_cons_of_mem _ hd)) r2 e2)
    · cases h
theorem dp_of : ∀ (n : Nat) {d : D} {v : V} {p : PyData}, sizeOf d < n → Rep G A H d v → pyD S d = some p → Dp G.K H v p := by
  intro n
  induction n with
  | zero => intro d v p hn; omega
  | succ n ih =>
    intro d v p hn r h
    cases d with
    | non => rw [pyD] at h; cases h; cases (show v = .non from r); exact .non
    | bl b => rw [pyD] at h; cases h; cases (show v = .bl b from r); exact .bl b
    | int b => rw [pyD] at h; cases h; cases (show v = .int b from r); exact .int b
    | str b => rw [pyD] at h; cases h; cases (show v = .str b from r); exact .str b
    | tup xs =>
      rw [pyD] at h
      obtain ⟨a, vs, rfl, h1, h2⟩ := r
      cases e : pyDs S xs with
      | none => rw [e] at h; cases h
      | some ps =>
        rw [e] at h
        cases h
        refine .tup (SqT.of h1) (dpAll_of (fun d hd v p r q => ih ?_ r q) h2 e)
        have := List.sizeOf_lt_of_mem hd
        simp only [D.tup.sizeOf_spec] at hn
        omega
    | ktp xs =>
      rw [pyD] at h
      obtain ⟨a, vs, rfl, h1, h2⟩ := r
      cases e : pyDs S xs with
      | none => rw [e] at h; cases h
      | some ps =>
        rw [e] at h
        cases h
        refine .tup (h1 H) (dpAll_of (fun d hd v p r q => ih ?_ r q) h2 e)
        have := List.sizeOf_lt_of_mem hd
        simp only [D.ktp.sizeOf_spec] at hn
        omega
    | fls xs =>
      rw [pyD] at h
      obtain ⟨a, vs, rfl, h1, h2⟩ := r
      cases e : pyDs S xs with
      | none => rw [e] at h; cases h
      | some ps =>
        rw [e] at h
        cases h
        refine .lst h1.sqL (dpAll_of (fun d hd v p r q => ih ?_ r q) h2 e)
        have := List.sizeOf_lt_of_mem hd
        simp only [D.fls.sizeOf_spec] at hn
        omega
    | ref n => rw [pyD] at h; cases h
    | glo x => rw [pyD] at h; cases h
    | ty x => rw [pyD] at h; cases h
theorem dpT_of {d : D} {v : V} {p : PyData} (hs : HR G A H S) (r : Rep G A H d v) (h : pyT S d = some p) : Dp G.K H v p := by
  unfold pyT at h
  split at h
  · rename_i n
    split at h
    · rename_i xs e
      obtain ⟨a, ea, rfl⟩ := r
      obtain ⟨vs, h1, h2⟩ := hs.at ea e
      cases e2 : pyDs S xs with
      | none => rw [e2] at h; cases h
      | some ps =>
        rw [e2] at h
        cases h
        exact .lst (SqL.of h1) (dpAll_of (fun d hd v p r q => dp_of _ (Nat.lt_succ_self _) r q) h2 e2)
    · cases h
  · exact dp_of _ (Nat.lt_succ_self _) r h
end
/-- == where nothing of the store lies within -/
def eqPy (S : Sto) (x y : D) : Option Bool := match pyT S x, pyT S y with
  | some p, some q => if SeqAt.shaped p = true ∧ SeqAt.shaped q = true then some (PyData.eqv p q) else none
  | _, _ => none
def eqD (S : Sto) (x y : D) : Option Bool := match x, y with
  | .int i, .int j => some (decide (i = j))
  | .str a, .str b => some (decide (a = b))
  | .bl a, .bl b => some (decide (a = b))
  | .non, .non => some true
  | .non, .int _ => some false
  | .int _, .non => some false
  | .non, .str _ => some false
  | .str _, .non => some false
  | .int _, .str _ => some false
  | .str _, .int _ => some false
  | .bl _, .str _ => some false
  | .str _, .bl _ => some false
  | .non, .bl _ => some false
  | .bl _, .non => some false
  | x, y => eqPy S x y
def gEq : Sto → D → D → Res D := fun S x y => match eqD S x y with
  | some b => .ok (.bl b) S
  | none => .bad
def gNe : Sto → D → D → Res D := fun S x y => match eqD S x y with
  | some b => .ok (.bl (!b)) S
  | none => .bad
def gIn (neg : Bool) : Sto → D → D → Res D := fun S x y => match y with
  | .str z => match x with
    | .str c => if c.cps.size = 1 then .ok (.bl (if neg then !decide (c.cps.getD 0 0 ∈ z.cps.toList) else decide (c.cps.getD 0 0 ∈ z.cps.toList))) S else .bad
    | _ => .bad
  | y => match (listOf S y).or (tupOf y) with
    | some ys => if flatD x = true ∧ ys.all flatD = true then .ok (.bl (if neg then !(ys.any fun y => eqFD y x) else ys.any fun y => eqFD y x)) S else .bad
    | none => .bad
def gIs (neg : Bool) : Sto → D → D → Res D := fun S x y => match y with
  | .non => .ok (.bl (match x with | .non => !neg | _ => neg)) S
  | _ => .bad
section
variable {G : GX} {W : WX} {A : List Addr} {H : Hp} {S : Sto}
theorem eqD_rep {d e : D} {v w : V} {b : Bool} (hs : HR G A H S) (r : Rep G A H d v) (q : Rep G A H e w) (h : eqD S d e = some b) :
    (scal v w = true ∧ decide (v = w) = b) ∨ ∃ p t, Dp G.K H v p ∧ Dp G.K H w t ∧ SeqAt.shaped p = true ∧ SeqAt.shaped t = true ∧ PyData.eqv p t = b := by
  unfold eqD at h
  split at h
  case h_15 =>
    unfold eqPy at h
    split at h
    · rename_i p t e1 e2
      split at h
      · rename_i hc
        cases h
        exact .inr ⟨p, t, dpT_of hs r e1, dpT_of hs q e2, hc.1, hc.2, rfl⟩
      · cases h
    · cases h
  all_goals (cases h; cases r; cases q; exact .inl ⟨rfl, by simp⟩)
theorem os_eq : OpS G W (fun x y H Q => rEq x y H Q ∨ rEqD G.K x y H Q) gEq := fun σ A H S d e v w Q r1 r2 hs h => by
  unfold gEq at h
  split at h
  · rename_i b hb
    rcases eqD_rep hs r1 r2 hb with ⟨h1, h2⟩ | ⟨p, t, h1, h2, h3, h4, h5⟩
    · exact .inl ⟨h1, by rw [h2]; exact Post.val h rfl hs⟩
    · exact .inr ⟨p, t, h1, h2, h3, h4, by rw [h5]; exact Post.val h rfl hs⟩
  · exact h.elim
theorem os_ne : OpS G W (fun x y H Q => rNe x y H Q ∨ rNeD G.K x y H Q) gNe := fun σ A H S d e v w Q r1 r2 hs h => by
  unfold gNe at h
  split at h
  · rename_i b hb
    rcases eqD_rep hs r1 r2 hb with ⟨h1, h2⟩ | ⟨p, t, h1, h2, h3, h4, h5⟩
    · exact .inl ⟨h1, by rw [h2]; exact Post.val h rfl hs⟩
    · exact .inr ⟨p, t, h1, h2, h3, h4, by rw [h5]; exact Post.val h rfl hs⟩
  · exact h.elim
theorem one_sign (c : Str) (h : c.cps.size = 1) : c = ⟨#[c.cps.getD 0 0]⟩ := by
  obtain ⟨⟨l⟩⟩ := c
  match l, h with
  | [x], _ => rfl
theorem os_in0 : OpS G W (fun x y H Q => (∃ (c : Nat) (z : Str), x = .str ⟨#[c]⟩ ∧ y = .str z ∧ Q (.bl (decide (c ∈ z.cps.toList))) H) ∨ rIn G.K false x y H Q) (gIn false) := fun σ A H S d e v w Q r1 r2 hs h => by
  unfold gIn at h
  split at h
  · split at h
    · split at h
      · rename_i z _ c hc
        refine .inl ⟨c.cps.getD 0 0, z, ?_, r2, Post.val h rfl hs⟩
        rw [← one_sign c hc]
        exact r1
      · exact h.elim
    · exact h.elim
  · split at h
    · rename_i ys hy
      split at h
      · rename_i hf
        refine .inr ?_
        have key : ∃ p vs, w = .ref p ∧ (SqL G.K H p vs ∨ SqT G.K H p vs) ∧ Reps G A H ys vs := by
          cases e1 : listOf S e with
          | some zs =>
            rw [e1] at hy
            cases hy
            obtain ⟨a, vs, rfl, k1, k2⟩ := listOf_at hs r2 e1
            exact ⟨a, vs, rfl, .inl k1, k2⟩
          | none =>
            rw [e1] at hy
            obtain ⟨a, vs, rfl, k1, k2⟩ := tupOf_at r2 (show tupOf e = some ys from hy)
            exact ⟨a, vs, rfl, .inr k1, k2⟩
        obtain ⟨p, vs, rfl, k1, k2⟩ := key
        refine ⟨p, vs, rfl, k1, flat_rep r1 hf.1, flat_all k2 hf.2, ?_⟩
        rw [inV_rep r1 hf.1 k2 hf.2]
        exact Post.val h rfl hs
      · exact h.elim
    · exact h.elim
theorem os_in1 : OpS G W (fun x y H Q => (∃ (c : Nat) (z : Str), x = .str ⟨#[c]⟩ ∧ y = .str z ∧ Q (.bl (!decide (c ∈ z.cps.toList))) H) ∨ rIn G.K true x y H Q) (gIn true) := fun σ A H S d e v w Q r1 r2 hs h => by
  unfold gIn at h
  split at h
  · split at h
    · split at h
      · rename_i z _ c hc
        refine .inl ⟨c.cps.getD 0 0, z, ?_, r2, Post.val h rfl hs⟩
        rw [← one_sign c hc]
        exact r1
      · exact h.elim
    · exact h.elim
  · split at h
    · rename_i ys hy
      split at h
      · rename_i hf
        refine .inr ?_
        have key : ∃ p vs, w = .ref p ∧ (SqL G.K H p vs ∨ SqT G.K H p vs) ∧ Reps G A H ys vs := by
          cases e1 : listOf S e with
          | some zs =>
            rw [e1] at hy
            cases hy
            obtain ⟨a, vs, rfl, k1, k2⟩ := listOf_at hs r2 e1
            exact ⟨a, vs, rfl, .inl k1, k2⟩
          | none =>
            rw [e1] at hy
            obtain ⟨a, vs, rfl, k1, k2⟩ := tupOf_at r2 (show tupOf e = some ys from hy)
            exact ⟨a, vs, rfl, .inr k1, k2⟩
        obtain ⟨p, vs, rfl, k1, k2⟩ := key
        refine ⟨p, vs, rfl, k1, flat_rep r1 hf.1, flat_all k2 hf.2, ?_⟩
        rw [inV_rep r1 hf.1 k2 hf.2]
        exact Post.val h rfl hs
      · exact h.elim
    · exact h.elim
theorem non_rep {d : D} {v : V} (r : Rep G A H d v) : decide (v = .non) = (match d with | .non => true | _ => false) := by
  cases d with
  | non => cases (show v = .non from r); rfl
  | bl b => cases (show v = .bl b from r); rfl
  | int b => cases (show v = .int b from r); rfl
  | str b => cases (show v = .str b from r); rfl
  | ty b => cases (show v = .ty b from r); rfl
  | ref n => obtain ⟨a, _, rfl⟩ := r; rfl
  | glo n => obtain ⟨a, _, rfl⟩ := r; rfl
  | tup n => obtain ⟨a, _, rfl, _⟩ := r; rfl
  | ktp n => obtain ⟨a, _, rfl, _⟩ := r; rfl
  | fls n => obtain ⟨a, _, rfl, _⟩ := r; rfl
theorem os_is : OpS G W (fun x y H Q => y = .non ∧ Q (.bl (decide (x = .non))) H) (gIs false) := fun σ A H S d e v w Q r1 r2 hs h => by
  unfold gIs at h
  split at h
  · refine ⟨r2, ?_⟩
    rw [non_rep r1]
    cases d <;> exact Post.val h rfl hs
  · exact h.elim
theorem os_isnot : OpS G W (fun x y H Q => y = .non ∧ Q (.bl (!decide (x = .non))) H) (gIs true) := fun σ A H S d e v w Q r1 r2 hs h => by
  unfold gIs at h
  split at h
  · refine ⟨r2, ?_⟩
    rw [non_rep r1]
    cases d <;> exact Post.val h rfl hs
  · exact h.elim
end
end TD

set_option Elab.async false
set_option linter.all false
set_option maxRecDepth 100000
set_option maxHeartbeats 2000000
/-! TD3: comparisons, subscripts, built-in functions, methods, dicts, fields. -/
namespace TD
open PySem PySem.Spec PyProof.Rows L2

section
variable {X : Cx} {W : WX} {a b c : Expr} {fa fb fc : FE} {pos : Pos}
/-! comparisons as values and as tests -/
abbrev Cm (X : Cx) (W : WX) (op : CmpOp) (g : Sto → D → D → Res D) : Prop := ∃ r, OpR X (compareOp op) r ∧ OpS (gx X) W r g
theorem cm_lt : Cm X W .Lt gLt := ⟨_, op_lt, os_lt⟩
theorem cm_le : Cm X W .LtE gLe := ⟨_, op_le, os_le⟩
theorem cm_gt : Cm X W .Gt gGt := ⟨_, op_gt, os_gt⟩
theorem cm_ge : Cm X W .GtE gGe := ⟨_, op_ge, os_ge⟩
theorem cm_eq {k : Nat} (hr : Room k X.A) : Cm X W .Eq gEq := ⟨_, op_eq.or (op_eqD (by have := hr.un; omega)), os_eq⟩
theorem cm_ne {k : Nat} (hr : Room k X.A) : Cm X W .NotEq gNe := ⟨_, op_ne.or (op_neD (by have := hr.un; omega)), os_ne⟩
theorem cm_in : Cm X W .In (gIn false) := ⟨_, op_in_sign.or op_in_seq, os_in0⟩
theorem cm_notin : Cm X W .NotIn (gIn true) := ⟨_, op_notIn_sign.or op_notIn_seq, os_in1⟩
theorem cm_is : Cm X W .Is (gIs false) := ⟨_, op_isN, os_is⟩
theorem cm_isnot : Cm X W .IsNot (gIs true) := ⟨_, op_notN, os_isnot⟩
theorem de_cm {op : CmpOp} {g : Sto → D → D → Res D} (k : Cm X W op g) (ha : DE X W a fa) (hb : DE X W b fb) (hm : behindInMarks op b = false := by rfl) : DE X W (.Compare a [op] [b] pos) (dOp g fa fb) := by
  obtain ⟨r, h1, h2⟩ := k
  exact de_cmp h1 h2 ha hb hm
theorem dt_cm {op : CmpOp} {g : Sto → D → D → Res D} (k : Cm X W op g) (ha : DE X W a fa) (hb : DE X W b fb) (hm : behindInMarks op b = false := by rfl) : DT X W (.Compare a [op] [b] pos) (dTst (dOp g fa fb)) := by
  obtain ⟨r, h1, h2⟩ := k
  exact dt_cmp h1 h2 ha hb hm
theorem de_cm2 {op op' : CmpOp} {g g' : Sto → D → D → Res D} (k : Cm X W op g) (k' : Cm X W op' g') (ha : DE X W a fa) (hb : DE X W b fb) (hc : DE X W c fc) (hm : lastMarks [op, op'] [b, c] = false := by rfl) : DE X W (.Compare a [op, op'] [b, c] pos) (dChain g g' fa fb fc) := by
  obtain ⟨r, h1, h2⟩ := k
  obtain ⟨r', h1', h2'⟩ := k'
  exact de_chain h1 h1' h2 h2' ha hb hc hm
end

/-! ### subscripts, slices -/
def gIx : Sto → D → D → Res D := fun S x y => match y with
  | .int i => match x with
    | .str z => if z.length ≤ 1000000 then match atI z.cps.toList i with
      | some c => .ok (.str ⟨#[c]⟩) S
      | none => .bad
      else .bad
    | x => match (listOf S x).or (tupOf x) with
      | some xs => match atI xs i with
        | some d => .ok d S
        | none => .bad
      | none => .bad
  | _ => .bad
def cutD (xs : List D) (lo hi : Option Int) : List D := (xs.drop (HT.sIx xs.length 0 lo)).take (HT.sIx xs.length xs.length hi - HT.sIx xs.length 0 lo)
abbrev FO := Env → Sto → Res (Option Int)
def dO0 : FO := fun _ S => .ok none S
def dO1 (a : FE) : FO := fun ρ S => (a ρ S).bind fun x S1 => match x with
  | .int i => .ok (some i) S1
  | _ => .bad
def gSl (S : Sto) (x : D) (lo hi : Option Int) : Res D := match x with
  | .str z => if z.length ≤ 1000000 then .ok (.str (cutS z lo hi)) S else .bad
  | .tup xs => .ok (.tup (cutD xs lo hi)) S
  | x => match listOf S x with
      | some xs => .ok (.ref S.length) (S ++ [.lst (cutD xs lo hi)])
      | none => .bad
def dSl (a : FE) (l u : FO) : FE := fun ρ S => (a ρ S).bind fun x S1 => (l ρ S1).bind fun lo S2 => (u ρ S2).bind fun hi S3 => gSl S3 x lo hi
section
variable {G : GX} {W : WX} {A : List Addr} {H : Hp} {S : Sto}
theorem atI_rep {xs : List D} {vs : List V} {i : Int} {d : D} (r : Reps G A H xs vs) (h : atI xs i = some d) : ∃ v, atI vs i = some v ∧ Rep G A H d v := by
  unfold atI at h ⊢
  rw [r.len]
  cases e : ixN xs.length i with
  | none => rw [e] at h; cases h
  | some j =>
    rw [e] at h
    exact r.get h
theorem seq_at {d : D} {v : V} {xs : List D} (hs : HR G A H S) (r : Rep G A H d v) (h : (listOf S d).or (tupOf d) = some xs) : ∃ a vs, v = .ref a ∧ (SqL G.K H a vs ∨ SqT G.K H a vs) ∧ Reps G A H xs vs := by
  cases e1 : listOf S d with
  | some zs =>
    rw [e1] at h
    cases h
    obtain ⟨a, vs, rfl, k1, k2⟩ := listOf_at hs r e1
    exact ⟨a, vs, rfl, .inl k1, k2⟩
  | none =>
    rw [e1] at h
    obtain ⟨a, vs, rfl, k1, k2⟩ := tupOf_at r (show tupOf d = some xs from h)
    exact ⟨a, vs, rfl, .inr k1, k2⟩
theorem os_ix : OpS G W (rIx G.K) gIx := fun σ A H S d e v w Q r1 r2 hs h => by
  unfold gIx at h
  split at h
  · rename_i i
    split at h
    · rename_i z
      split at h
      · rename_i hl
        split at h
        · rename_i c hc
          exact .inr (.inr ⟨z, i, c, r1, r2, big_sz hl, hc, Post.val h rfl hs⟩)
        · exact h.elim
      · exact h.elim
    · split at h
      · rename_i xs hx
        split at h
        · rename_i y hy
          obtain ⟨a, vs, rfl, k1, k2⟩ := seq_at hs r1 hx
          obtain ⟨u, hu, ru⟩ := atI_rep k2 hy
          rcases k1 with k1 | k1
          · exact .inl ⟨a, vs, i, u, rfl, r2, k1, hu, Post.val h ru hs⟩
          · exact .inr (.inl ⟨a, vs, i, u, rfl, r2, k1, hu, Post.val h ru hs⟩)
        · exact h.elim
      · exact h.elim
  · exact h.elim
theorem cutD_rep {xs : List D} {vs : List V} (r : Reps G A H xs vs) (lo hi : Option Int) : Reps G A H (cutD xs lo hi) (cutV vs lo hi) := by
  unfold cutD cutV
  rw [r.len]
  exact (r.drop _).take _
end
section
variable {X : Cx} {W : WX} {a b c : Expr} {fa fb fc : FE} {pos : Pos}
theorem de_ix (ha : DE X W a fa) (hb : DE X W b fb) (hs : PlainIx b := by intro _ _; rfl) : DE X W (.Subscript a b pos) (dOp gIx fa fb) := (pe_ix ix_seq ha hb hs).to (op_to os_ix rfl rfl)
abbrev DO_ (X : Cx) (W : WX) (o : Option Expr) (f : FO) : Prop := PO X o (can (gx X) W (fun _ _ a b => b = a) f)
theorem do_0 : DO_ X W none dO0 := ⟨fun pins s σ H Q I ⟨A, ρ, S, he, hs, h⟩ => po_none.run pins s σ H Q I (Post.val h rfl hs)⟩
theorem do_1 (ha : DE X W a fa) : DO_ X W (some a) (dO1 fa) := ⟨fun pins s σ H Q I ⟨A, ρ, S, he, hs, h⟩ => (po_some ha).run pins s σ H Q I (can_bind he hs h fun d S1 A1 H1 v g1 r1 hs1 he1 h1 => by
  cases d with
  | int i => exact ⟨i, r1, Post.val h1 rfl hs1⟩
  | _ => exact h1.elim)⟩
theorem de_sl {lo hi : Option Expr} {fl fu : FO} {p2 : Pos} (ha : DE X W a fa) (hl : DO_ X W lo fl) (hu : DO_ X W hi fu) : DE X W (.Subscript a (.Slice lo hi none p2) pos) (dSl fa fl fu) :=
  (pe_slice ((sl_list.or sl_tupA).or sl_str) ha hl hu).to fun σ H Q ⟨A, ρ, S, he, hs, h⟩ =>
    can_bind he hs h fun d S1 A1 H1 v g1 r1 hs1 he1 h1 => can_bind he1 hs1 h1 fun l S2 A2 H2 lo g2 r2 hs2 he2 h2 => can_bind he2 hs2 h2 fun u S3 A3 H3 hi g3 r3 hs3 he3 h3 => by
      subst r2 r3
      have r := (r1.mono g2).mono g3
      unfold gSl at h3
      split at h3
      · split at h3
        · rename_i z hl
          exact .inr ⟨z, r, big_sz hl, Post.val h3 rfl hs3⟩
        · exact h3.elim
      · obtain ⟨a, vs, rfl, k1, k2⟩ := r
        refine .inl (.inr ⟨a, vs, rfl, SqT.of k1, fun hw => ?_, fun _ p hp => ?_⟩)
        · rename_i xs
          have e : cutD xs lo hi = xs := by
            unfold cutD
            rw [← k2.len, hw.1, hw.2]
            rw [List.drop_zero, Nat.sub_zero, k2.len, List.take_length]
          rw [e] at h3
          exact Post.val h3 ⟨a, vs, rfl, k1, k2⟩ hs3
        · exact Post.valG h3 (Gr.new hp) ⟨p, _, rfl, upd_same, (cutD_rep k2 lo hi).mono (Gr.new hp)⟩ (hs3.new hp)
      · split at h3
        · rename_i xs hx
          obtain ⟨a, vs, rfl, k1, k2⟩ := listOf_at hs3 r hx
          refine .inl (.inl ⟨a, vs, rfl, k1, fun p hp => ?_⟩)
          refine Post.valG h3 (Gr.push hp) ⟨p, ?_, rfl⟩ (hs3.push hp ⟨_, upd_same, (cutD_rep k2 lo hi).mono (Gr.push hp)⟩)
          rw [List.getElem?_append_right (by rw [hs3.len]; exact Nat.le_refl _), hs3.len, Nat.sub_self]
          rfl
        · exact h3.elim
end

/-! ### built-in functions -/
def one (g : Sto → D → Res D) : Sto → List D → Res D := fun S ds => match ds with
  | [d] => g S d
  | _ => .bad
def gLen : Sto → D → Res D := fun S d => match d with
  | .str z => if z.length ≤ 1000000 then .ok (.int z.length) S else .bad
  | .ref n => match S[n]? with
    | some (.lst xs) => .ok (.int xs.length) S
    | some (.dct kvs) => .ok (.int kvs.length) S
    | _ => .bad
  | d => match (listOf S d).or (tupOf d) with
    | some xs => .ok (.int xs.length) S
    | none => .bad
def gIntOf : Sto → D → Res D := fun S d => match d with
  | .int i => .ok (.int i) S
  | .bl b => .ok (.int (if b then 1 else 0)) S
  | _ => .bad
def gAbs : Sto → D → Res D := fun S d => match d with
  | .int i => .ok (.int (if i < 0 then -i else i)) S
  | _ => .bad
def gMax2 : Sto → List D → Res D := fun S ds => match ds with
  | [.int i, .int j] => .ok (.int (if j > i then j else i)) S
  | _ => .bad
def gMin2 : Sto → List D → Res D := fun S ds => match ds with
  | [.int i, .int j] => .ok (.int (if j < i then j else i)) S
  | _ => .bad
/-- list(x) -/
def gList : Sto → D → Res D := fun S d => match (listOf S d).or (tupOf d) with
  | some xs => .ok (.ref S.length) (S ++ [.lst xs])
  | none => .bad
/-- tuple(x) -/
def gTuple : Sto → D → Res D := fun S d => match d with
  | .tup xs => .ok (.tup xs) S
  | d => match listOf S d with
    | some xs => .ok (.tup xs) S
    | none => .bad
def blOf : D → Option Bool
  | .bl b => some b
  | _ => none
def blsOf : List D → Option (List Bool)
  | [] => some []
  | d :: ds => match blOf d, blsOf ds with
    | some b, some bs => some (b :: bs)
    | _, _ => none
def gAny : Sto → D → Res D := fun S d => match listOf S d with
  | some xs => match blsOf xs with
    | some bs => .ok (.bl (bs.any id)) S
    | none => .bad
  | none => .bad
def gAll : Sto → D → Res D := fun S d => match listOf S d with
  | some xs => match blsOf xs with
    | some bs => .ok (.bl (bs.all id)) S
    | none => .bad
  | none => .bad
def gStr : Sto → D → Res D := fun S d => match d with
  | .int i => if i.natAbs < 1000000000000000000 then .ok (.str (toString i)) S else .bad
  | .str x => .ok (.str x) S
  | _ => .bad
/-- the built-in class of a value -/
def tyOf (S : Sto) : D → Option String
  | .non => some "NoneType"
  | .bl _ => some "bool"
  | .int _ => some "int"
  | .str _ => some "str"
  | .tup _ => some "tuple"
  | .fls _ => some "list"
  | .ref n => match S[n]? with
    | some (.lst _) => some "list"
    | some (.dct _) => some "dict"
    | some (.dtt _) => some "dict"
    | _ => none
  | _ => none
def tySub (t c : String) : Bool := t == c || (t == "bool" && c == "int")
/-- isinstance(x, c), c a built-in class -/
def gIsi : Sto → List D → Res D := fun S ds => match ds with
  | [d, .ty c] => match tyOf S d with
    | some t => if c = "int" ∨ c = "str" ∨ c = "tuple" ∨ c = "list" ∨ c = "bool" ∨ c = "dict" then .ok (.bl (tySub t c)) S else .bad
    | none => .bad
  | [d, .tup [.ty c, .ty c']] => match tyOf S d with
    | some t => if (c = "int" ∨ c = "str" ∨ c = "tuple" ∨ c = "list" ∨ c = "bool" ∨ c = "dict") ∧ (c' = "int" ∨ c' = "str" ∨ c' = "tuple" ∨ c' = "list" ∨ c' = "bool" ∨ c' = "dict") then .ok (.bl (tySub t c || tySub t c')) S else .bad
    | none => .bad
  | _ => .bad
section
variable {G : GX} {W : WX} {A : List Addr} {H : Hp} {S : Sto}
theorem cb_one {r : List V → Hp → VK → Prop} {g : Sto → D → Res D} (h : ∀ σ A H S d v Q, Rep G A H d v → HR G A H S → Post G W σ (Rep G) A H Q (g S d) → r [v] H Q) : CbS G W r (one g) := fun σ A H S ds vs Q r1 hs hp => by
  unfold one at hp
  split at hp
  · obtain ⟨v, t, rfl, r2, r3⟩ := r1
    cases r3
    exact h σ A H S _ v Q r2 hs hp
  · exact hp.elim
theorem cs_len : CbS G W (fun xs H Q => (fun xs H Q => ∃ x n, xs = [x] ∧ LenV G.K x H n ∧ Q (.int n) H) xs H Q ∨ (fun xs H Q => ∃ a kvs, xs = [V.ref a] ∧ H a = some (.dK kvs) ∧ Q (.int kvs.length) H) xs H Q) (one gLen) := cb_one fun σ A H S d v Q r hs h => by
  unfold gLen at h
  split at h
  · split at h
    · rename_i z hl
      exact .inl ⟨v, z.length, rfl, by cases (show v = _ from r); exact ⟨big_sz hl, rfl⟩, Post.val h rfl hs⟩
    · exact h.elim
  · split at h
    · rename_i n xs e
      obtain ⟨a, ea, rfl⟩ := r
      obtain ⟨vs, h1, k1⟩ := hs.at ea e
      exact .inl ⟨_, vs.length, rfl, .inl ⟨vs, SqL.of h1, rfl⟩, by rw [k1.len]; exact Post.val h rfl hs⟩
    · rename_i n xs e
      obtain ⟨a, ea, rfl⟩ := r
      obtain ⟨vs, h1, k1⟩ := hs.at ea e
      have : vs.length = xs.length := (Paired.length k1).symm
      exact .inr ⟨a, vs, rfl, h1, by rw [this]; exact Post.val h rfl hs⟩
    · exact h.elim
  · split at h
    · rename_i xs e
      obtain ⟨a, vs, rfl, k1, k2⟩ := seq_at hs r e
      refine .inl ⟨_, vs.length, rfl, ?_, by rw [k2.len]; exact Post.val h rfl hs⟩
      rcases k1 with k1 | k1
      · exact .inl ⟨vs, k1, rfl⟩
      · exact .inr ⟨vs, k1, rfl⟩
    · exact h.elim
theorem cs_int : CbS G W (fun xs H Q => (∃ i, xs = [.int i] ∧ Q (.int i) H) ∨ ∃ k, xs = [.bl k] ∧ Q (.int (if k then 1 else 0)) H) (one gIntOf) := cb_one fun σ A H S d v Q r hs h => by
  unfold gIntOf at h
  split at h
  · cases (show v = _ from r)
    exact .inl ⟨_, rfl, Post.val h rfl hs⟩
  · cases (show v = _ from r)
    exact .inr ⟨_, rfl, Post.val h rfl hs⟩
  · exact h.elim
theorem cs_abs : CbS G W (fun xs H Q => ∃ i, xs = [.int i] ∧ Q (.int (if i < 0 then -i else i)) H) (one gAbs) := cb_one fun σ A H S d v Q r hs h => by
  unfold gAbs at h
  split at h
  · cases (show v = _ from r)
    exact ⟨_, rfl, Post.val h rfl hs⟩
  · exact h.elim
theorem cs_max2 : CbS G W (fun xs H Q => ∃ i j, xs = [.int i, .int j] ∧ Q (.int (if j > i then j else i)) H) gMax2 := fun σ A H S ds vs Q r hs h => by
  unfold gMax2 at h
  split at h
  · obtain ⟨v, t, rfl, r1, v2, t2, rfl, r2, r3⟩ := r
    cases r1; cases r2; cases r3
    exact ⟨_, _, rfl, Post.val h rfl hs⟩
  · exact h.elim
theorem cs_min2 : CbS G W (fun xs H Q => ∃ i j, xs = [.int i, .int j] ∧ Q (.int (if j < i then j else i)) H) gMin2 := fun σ A H S ds vs Q r hs h => by
  unfold gMin2 at h
  split at h
  · obtain ⟨v, t, rfl, r1, v2, t2, rfl, r2, r3⟩ := r
    cases r1; cases r2; cases r3
    exact ⟨_, _, rfl, Post.val h rfl hs⟩
  · exact h.elim
theorem cs_list : CbS G W (fun xs H Q => ∃ p ys, xs = [.ref p] ∧ (SqL G.K H p ys ∨ SqT G.K H p ys) ∧ ∀ l, H l = none → Q (.ref l) (upd H l (.lst ys))) (one gList) := cb_one fun σ A H S d v Q r hs h => by
  unfold gList at h
  split at h
  · rename_i xs e
    obtain ⟨a, vs, rfl, k1, k2⟩ := seq_at hs r e
    refine ⟨a, vs, rfl, k1, fun p hp => ?_⟩
    refine Post.valG h (Gr.push hp) ⟨p, ?_, rfl⟩ (hs.push hp ⟨_, upd_same, k2.mono (Gr.push hp)⟩)
    rw [List.getElem?_append_right (by rw [hs.len]; exact Nat.le_refl _), hs.len, Nat.sub_self]
    rfl
  · exact h.elim
theorem cs_tuple : CbS G W (fun xs H Q => ∃ p ys, xs = [.ref p] ∧ ((SqL G.K H p ys ∧ ∀ l, H l = none → Q (.ref l) (upd H l (.tup ys))) ∨ (SqT G.K H p ys ∧ Q (.ref p) H))) (one gTuple) := cb_one fun σ A H S d v Q r hs h => by
  unfold gTuple at h
  split at h
  · obtain ⟨a, vs, rfl, k1, k2⟩ := r
    exact ⟨a, vs, rfl, .inr ⟨SqT.of k1, Post.val h ⟨a, vs, rfl, k1, k2⟩ hs⟩⟩
  · split at h
    · rename_i xs e
      obtain ⟨a, vs, rfl, k1, k2⟩ := listOf_at hs r e
      exact ⟨a, vs, rfl, .inl ⟨k1, fun p hp => Post.valG h (Gr.new hp) ⟨p, _, rfl, upd_same, k2.mono (Gr.new hp)⟩ (hs.new hp)⟩⟩
    · exact h.elim
theorem bls_rep : ∀ {xs : List D} {vs : List V} {bs : List Bool}, Reps G A H xs vs → blsOf xs = some bs → vs = bs.map V.bl
  | [], _, _, r, h => by cases r; cases h; rfl
  | d :: ds, _, _, r, h => by
    obtain ⟨v, t, rfl, r1, r2⟩ := r
    unfold blsOf at h
    split at h
    · rename_i b bs e1 e2
      cases h
      unfold blOf at e1
      split at e1
      · cases e1
        cases (show v = _ from r1)
        rw [List.map_cons, bls_rep r2 e2]
      · cases e1
    · cases h
theorem cs_any : CbS G W (rAny G.K) (one gAny) := cb_one fun σ A H S d v Q r hs h => by
  unfold gAny at h
  split at h
  · rename_i xs e
    split at h
    · rename_i bs eb
      obtain ⟨a, vs, rfl, k1, k2⟩ := listOf_at hs r e
      exact ⟨a, bs, rfl, by rw [← bls_rep k2 eb]; exact k1, Post.val h rfl hs⟩
    · exact h.elim
  · exact h.elim
theorem cs_all : CbS G W (rAll G.K) (one gAll) := cb_one fun σ A H S d v Q r hs h => by
  unfold gAll at h
  split at h
  · rename_i xs e
    split at h
    · rename_i bs eb
      obtain ⟨a, vs, rfl, k1, k2⟩ := listOf_at hs r e
      exact ⟨a, bs, rfl, by rw [← bls_rep k2 eb]; exact k1, Post.val h rfl hs⟩
    · exact h.elim
  · exact h.elim
theorem log2_small {n : Nat} (h : n < 1000000000000000000) : n.log2 < 1920 := by
  by_cases h0 : n = 0
  · subst h0; decide
  · exact (Nat.log2_lt h0).mpr (Nat.lt_of_lt_of_le h (Nat.le_trans (by decide : 1000000000000000000 ≤ 2 ^ 60) (Nat.pow_le_pow_right (by decide) (by decide))))
theorem cs_str : CbS G W (fun xs H Q => (fun xs H Q => ∃ i, xs = [.int i] ∧ i.natAbs.log2 < 1920 ∧ Q (.str (toString i)) H) xs H Q ∨ (fun xs H Q => ∃ a, xs = [.str a] ∧ Q (.str a) H) xs H Q) (one gStr) := cb_one fun σ A H S d v Q r hs h => by
  unfold gStr at h
  split at h
  · split at h
    · rename_i hl
      cases (show v = _ from r)
      exact .inl ⟨_, rfl, log2_small hl, Post.val h rfl hs⟩
    · exact h.elim
  · cases (show v = _ from r)
    exact .inr ⟨_, rfl, Post.val h rfl hs⟩
  · exact h.elim
theorem tyOf_rep {d : D} {v : V} {t : String} (hs : HR G A H S) (r : Rep G A H d v) (h : tyOf S d = some t) : TyX G.K H v (.type t) := by
  unfold tyOf at h
  split at h
  · cases h; cases (show v = _ from r); exact .base .non
  · cases h; cases (show v = _ from r); exact .base (.bl _)
  · cases h; cases (show v = _ from r); exact .base (.int _)
  · cases h; cases (show v = _ from r); exact .base (.str _)
  · cases h; obtain ⟨a, vs, rfl, k1, k2⟩ := r; exact .base (.tup k1)
  · cases h
    obtain ⟨a, vs, rfl, k1, k2⟩ := r
    rcases k1 with ⟨o, k1⟩ | ⟨o, its, n, k1, k3, _⟩
    · exact .base (.frz k1)
    · exact .kList k1 k3
  · split at h
    · rename_i e
      cases h
      obtain ⟨a, ea, rfl⟩ := r
      obtain ⟨vs, h1, k1⟩ := hs.at ea e
      exact .base (.lst h1)
    · rename_i e
      cases h
      obtain ⟨a, ea, rfl⟩ := r
      obtain ⟨vs, h1, k1⟩ := hs.at ea e
      exact .base (.dK h1)
    · rename_i e
      cases h
      obtain ⟨a, ea, rfl⟩ := r
      obtain ⟨vs, h1, k1⟩ := hs.at ea e
      exact .base (.dT h1)
    · cases h
  · cases h
def isTyN (t : String) : Prop := t = "NoneType" ∨ t = "bool" ∨ t = "int" ∨ t = "str" ∨ t = "tuple" ∨ t = "list" ∨ t = "dict"
theorem tyOf_n {d : D} {t : String} (h : tyOf S d = some t) : isTyN t := by
  unfold tyOf at h
  unfold isTyN
  split at h <;> first | (cases h; done) | (cases h; simp; done) | (split at h <;> first | (cases h; done) | (cases h; simp; done))
theorem kit_sub {K : PySem.W.Frag} {t c : String} (h : isTyN t) (hc : c = "int" ∨ c = "str" ∨ c = "tuple" ∨ c = "list" ∨ c = "bool" ∨ c = "dict") : PySem.W.kitOne K (.type t) (.type c) = some (tySub t c) := by
  refine kit_ty ?_
  rcases h with rfl | rfl | rfl | rfl | rfl | rfl | rfl <;> rcases hc with rfl | rfl | rfl | rfl | rfl | rfl <;> decide +kernel
theorem cs_isi : CbS G W (fun xs H Q => rIsi G.K xs H Q ∨ rIsiT G.K xs H Q) gIsi := fun σ A H S ds vs Q r hs h => by
  unfold gIsi at h
  split at h
  · split at h
    · rename_i t ht
      split at h
      · rename_i hc
        obtain ⟨v, u, rfl, r1, v2, t2, rfl, r2, r3⟩ := r
        cases r2; cases r3
        exact .inl ⟨_, _, _, _, _, rfl, .ty _, tyOf_rep hs r1 ht, kit_sub (tyOf_n ht) hc, Post.val h rfl hs⟩
      · exact h.elim
    · exact h.elim
  · split at h
    · rename_i t ht
      split at h
      · rename_i hc
        obtain ⟨v, u, rfl, r1, v2, t2, rfl, r2, r3⟩ := r
        cases r3
        obtain ⟨p, cs, rfl, hp, w1, w2, rfl, q1, w3, w4, rfl, q2, q3⟩ := r2
        cases q1; cases q2; cases q3
        refine .inr ⟨_, p, _, .type t, [.type _, .type _], _, rfl, hp, .cons (.ty _) (.cons (.ty _) .nil), tyOf_rep hs r1 ht, kitAny_cons (r := tySub t _ || tySub t _) (kit_sub (tyOf_n ht) hc.1) (fun e => ?_) (fun e => ?_), Post.val h rfl hs⟩
        · rw [e, Bool.false_or]
          refine kitAny_cons (kit_sub (tyOf_n ht) hc.2) (fun e => ?_) (fun e => e)
          rw [e]
          exact kitAny_nil
        · rw [e, Bool.true_or]
      · exact h.elim
    · exact h.elim
  · exact h.elim
end
section
variable {X : Cx} {W : WX} {e : Expr} {es : List Expr} {fr : FA} {p pos : Pos} {x : Str}
theorem cb_to {r : List V → Hp → VK → Prop} {g : Sto → List D → Res D} (hr : CbS (gx X) W r g) : ∀ σ H Q, cE (gx X) W (dCB g fr) σ H Q → tCB r (cA (gx X) W fr) σ H Q := fun σ H Q ⟨A, ρ, S, he, hs, h⟩ =>
  can_bind he hs h fun ds S1 A1 H1 vs g1 r1 hs1 he1 h1 => hr σ A1 H1 S1 ds vs Q r1 hs1 h1
theorem de_cb {id : String} {r : List V → Hp → VK → Prop} {g : Sto → List D → Res D} (hc : CallR X (.builtin id) r) (hr : CbS (gx X) W r g) (hg : Gl X x) (hm : X.mg x = none) (hv : bootBuiltins x = some (.builtin id)) (ha : DA X W (e :: es) fr) (hn : x ≠ "__name__" := by decide) (hdb : (x == ("__debug__" : Str)) = false := by decide)
    (he : starEach (e :: es) X.env = (false, eval e X.env) :: starEach es X.env := by rfl) (hpl : (backTo pos (starEach es X.env)).any (·.1) = false := by rfl) : DE X W (.Call (.Name x p) (e :: es) [] pos) (dCB g fr) :=
  (pe_callB hc hg hm hv ha hn hdb he hpl).to (cb_to hr)
theorem de_ct {id : String} {r : List V → Hp → VK → Prop} {g : Sto → List D → Res D} (hc : CallR X (.type id) r) (hr : CbS (gx X) W r g) (hg : Gl X x) (hm : X.mg x = none) (hv : bootBuiltins x = some (.type id)) (ha : DA X W (e :: es) fr) (hn : x ≠ "__name__" := by decide) (hdb : (x == ("__debug__" : Str)) = false := by decide)
    (he : starEach (e :: es) X.env = (false, eval e X.env) :: starEach es X.env := by rfl) (hpl : (backTo pos (starEach es X.env)).any (·.1) = false := by rfl) : DE X W (.Call (.Name x p) (e :: es) [] pos) (dCB g fr) :=
  (pe_callTy hc hg hm hv ha hn hdb he hpl).to (cb_to hr)
theorem de_len (hm : X.mg "len" = none) (ha : DA X W [e] fr) (hg : Gl X "len" := by rfl) (he : starEach [e] X.env = (false, eval e X.env) :: starEach [] X.env := by rfl) : DE X W (.Call (.Name "len" p) [e] [] pos) (dCB (one gLen) fr) := de_cb (call_len.or call_lenD) cs_len hg hm (by decide +kernel) ha (he := he) (hpl := rfl)
theorem de_intof (hm : X.mg "int" = none) (ha : DA X W [e] fr) (hg : Gl X "int" := by rfl) (he : starEach [e] X.env = (false, eval e X.env) :: starEach [] X.env := by rfl) : DE X W (.Call (.Name "int" p) [e] [] pos) (dCB (one gIntOf) fr) := de_ct call_int1 cs_int hg hm (by decide +kernel) ha (he := he) (hpl := rfl)
theorem de_abs (hm : X.mg "abs" = none) (ha : DA X W [e] fr) (hg : Gl X "abs" := by rfl) (he : starEach [e] X.env = (false, eval e X.env) :: starEach [] X.env := by rfl) : DE X W (.Call (.Name "abs" p) [e] [] pos) (dCB (one gAbs) fr) := de_cb call_abs cs_abs hg hm (by decide +kernel) ha (he := he) (hpl := rfl)
theorem de_max2 {e2 : Expr} (hc : X.calm = true) (hm : X.mg "max" = none) (ha : DA X W [e, e2] fr) (hg : Gl X "max" := by rfl) (he : starEach [e, e2] X.env = (false, eval e X.env) :: starEach [e2] X.env := by rfl) (hpl : (backTo pos (starEach [e2] X.env)).any (·.1) = false := by rfl) : DE X W (.Call (.Name "max" p) [e, e2] [] pos) (dCB gMax2 fr) := de_cb (call_max2 hc) cs_max2 hg hm (by decide +kernel) ha (he := he) (hpl := hpl)
theorem de_min2 {e2 : Expr} (hc : X.calm = true) (hm : X.mg "min" = none) (ha : DA X W [e, e2] fr) (hg : Gl X "min" := by rfl) (he : starEach [e, e2] X.env = (false, eval e X.env) :: starEach [e2] X.env := by rfl) (hpl : (backTo pos (starEach [e2] X.env)).any (·.1) = false := by rfl) : DE X W (.Call (.Name "min" p) [e, e2] [] pos) (dCB gMin2 fr) := de_cb (call_min2 hc) cs_min2 hg hm (by decide +kernel) ha (he := he) (hpl := hpl)
theorem de_list (hm : X.mg "list" = none) (ha : DA X W [e] fr) (hg : Gl X "list" := by rfl) (he : starEach [e] X.env = (false, eval e X.env) :: starEach [] X.env := by rfl) : DE X W (.Call (.Name "list" p) [e] [] pos) (dCB (one gList) fr) := de_ct call_list_of cs_list hg hm (by decide +kernel) ha (he := he) (hpl := rfl)
theorem de_tuple (hm : X.mg "tuple" = none) (ha : DA X W [e] fr) (hg : Gl X "tuple" := by rfl) (he : starEach [e] X.env = (false, eval e X.env) :: starEach [] X.env := by rfl) : DE X W (.Call (.Name "tuple" p) [e] [] pos) (dCB (one gTuple) fr) := de_ct call_tuple_of cs_tuple hg hm (by decide +kernel) ha (he := he) (hpl := rfl)
theorem de_any (hc : X.calm = true) (hm : X.mg "any" = none) (ha : DA X W [e] fr) (hg : Gl X "any" := by rfl) (he : starEach [e] X.env = (false, eval e X.env) :: starEach [] X.env := by rfl) : DE X W (.Call (.Name "any" p) [e] [] pos) (dCB (one gAny) fr) := de_cb (cr_any hc) cs_any hg hm (by decide +kernel) ha (he := he) (hpl := rfl)
theorem de_all (hc : X.calm = true) (hm : X.mg "all" = none) (ha : DA X W [e] fr) (hg : Gl X "all" := by rfl) (he : starEach [e] X.env = (false, eval e X.env) :: starEach [] X.env := by rfl) : DE X W (.Call (.Name "all" p) [e] [] pos) (dCB (one gAll) fr) := de_cb (cr_all hc) cs_all hg hm (by decide +kernel) ha (he := he) (hpl := rfl)
theorem de_strof (hm : X.mg "str" = none) (ha : DA X W [e] fr) (hg : Gl X "str" := by rfl) (he : starEach [e] X.env = (false, eval e X.env) :: starEach [] X.env := by rfl) : DE X W (.Call (.Name "str" p) [e] [] pos) (dCB (one gStr) fr) := de_ct (call_str_int.or SkE.call_str_str) cs_str hg hm (by decide +kernel) ha (he := he) (hpl := rfl)
theorem de_isi {e2 : Expr} (hm : X.mg "isinstance" = none) (ha : DA X W [e, e2] fr) (hg : Gl X "isinstance" := by rfl) (he : starEach [e, e2] X.env = (false, eval e X.env) :: starEach [e2] X.env := by rfl) (hpl : (backTo pos (starEach [e2] X.env)).any (·.1) = false := by rfl) : DE X W (.Call (.Name "isinstance" p) [e, e2] [] pos) (dCB gIsi fr) := de_cb (call_isi.or call_isiT) cs_isi hg hm (by decide +kernel) ha (he := he) (hpl := hpl)
/-- a built-in class by name -/
theorem de_ty {t : String} (hm : X.mg x = none) (hv : bootBuiltins x = some (.type t)) (hg : Gl X x := by rfl) (hn : x ≠ "__name__" := by decide) (hd : (x == ("__debug__" : Str)) = false := by decide) : DE X W (.Name x pos) (dC (.ty t)) := de_c (v := .ty t) (pe_bltn hg hm hv rfl hn hd) fun _ _ => rfl
/-- a constant of the module -/
theorem de_gl {u : Value} {v : V} {d : D} (hm : X.mg x = some u) (r : RelV v u) (q : ∀ A H, Rep (gx X) A H d v) (hg : Gl X x := by rfl) (hd : (x == ("__debug__" : Str)) = false := by decide) : DE X W (.Name x pos) (dC d) := de_c (pe_glob hg hm r hd) q
end
end TD

set_option Elab.async false
set_option linter.all false
set_option maxRecDepth 100000
set_option maxHeartbeats 2000000
/-! TD4: loops, comprehensions. -/
namespace TD
open PySem PySem.Spec PyProof.Rows L2

/-! ### targets -/
abbrev FG := D → Env → Option Env
def bName (i : Nat) : FG := fun d ρ => some (ρ.set i (some d))
abbrev FGs := List D → Env → Option Env
def bNil : FGs := fun ds ρ => match ds with
  | [] => some ρ
  | _ => none
def bCons (g : FG) (r : FGs) : FGs := fun ds ρ => match ds with
  | d :: t => (g d ρ).bind (r t)
  | [] => none
def bTup (n : Nat) (r : FGs) : FG := fun d ρ => match tupOf d with
  | some xs => if xs.length = n then r xs ρ else none
  | none => none
/-- the slots that are set -/
def Sets (is : List Nat) (σ σ' : L2.St) : Prop := σ'.length = σ.length ∧ ∀ j : Nat, j ∉ is → σ'[j]? = σ[j]?
def cG (G : GX) (is : List Nat) (b : FG) : TG := fun v σ H Q => ∃ A ρ d ρ', Rep G A H d v ∧ RepE G A H ρ σ ∧ b d ρ = some ρ' ∧ ∀ σ', RepE G A H ρ' σ' → Sets is σ σ' → Q σ' H
def cGs (G : GX) (is : List Nat) (b : FGs) : TGs := fun vs σ H Q => ∃ A ρ ds ρ', Reps G A H ds vs ∧ RepE G A H ρ σ ∧ b ds ρ = some ρ' ∧ ∀ σ', RepE G A H ρ' σ' → Sets is σ σ' → Q σ' H
abbrev DG (X : Cx) (tg : Expr) (is : List Nat) (b : FG) : Prop := PG X tg (cG (gx X) is b)
abbrev DGs (X : Cx) (tg : List Expr) (is : List Nat) (b : FGs) : Prop := PGs X tg (cGs (gx X) is b)
theorem _root_.L2.PG.to {X : Cx} {e : Expr} {t u : TG} (h : PG X e t) (k : ∀ v σ H Q, u v σ H Q → t v σ H Q) : PG X e u := ⟨fun pins s σ H v w Q I r q => h.run pins s σ H v w Q I r (k v σ H Q q)⟩
theorem _root_.L2.PGs.to {X : Cx} {e : List Expr} {t u : TGs} (h : PGs X e t) (k : ∀ v σ H Q, u v σ H Q → t v σ H Q) : PGs X e u := ⟨fun pins s σ H v w Q I r q => h.run pins s σ H v w Q I r (k v σ H Q q)⟩
section
variable {X : Cx} {e : Expr} {es : List Expr} {pos : Pos}
theorem Sets.refl (σ : L2.St) : Sets [] σ σ := ⟨rfl, fun _ _ => rfl⟩
theorem Sets.trans {is js : List Nat} {σ σ1 σ2 : L2.St} (a : Sets is σ σ1) (b : Sets js σ1 σ2) : Sets (is ++ js) σ σ2 := ⟨b.1.trans a.1, fun j hj => by
  rw [List.mem_append] at hj
  exact (b.2 j fun z => hj (.inr z)).trans (a.2 j fun z => hj (.inl z))⟩
theorem dg_name (i : Nat) {x : Str} (hN : X.N.Nodup) (hi : X.N[i]? = some x := by rfl) (hx : Loc X.env.scope x := by first | exact Or.inl rfl | exact Or.inr rfl) (hf : X.fn x = true ∨ X.env.scope.names.lookup x = some .local := by first | exact .inl rfl | exact .inr rfl) : DG X (.Name x pos) [i] (bName i) :=
  (pg_name hN hi hx hf).to fun v σ H Q ⟨A, ρ, d, ρ', r, he, hb, q⟩ => by
    cases hb
    exact q _ (he.set r i) ⟨List.length_set, fun j hj => List.getElem?_set_ne (fun z => hj (by simp [z]))⟩
theorem dgs_nil : DGs X [] [] bNil := pgs_nil.to fun v σ H Q ⟨A, ρ, ds, ρ', r, he, hb, q⟩ => by
  unfold bNil at hb
  split at hb
  · cases hb
    cases r
    exact ⟨rfl, q _ he (Sets.refl _)⟩
  · cases hb
theorem dgs_cons {is js : List Nat} {b : FG} {c : FGs} (h1 : DG X e is b) (h2 : DGs X es js c) (hs : (assignEach (e :: es) X.env).map (·.2) = assign e X.env :: (assignEach es X.env).map (·.2) := by rfl) : DGs X (e :: es) (is ++ js) (bCons b c) := (pgs_cons h1 h2 hs).to fun vs σ H Q ⟨A, ρ, ds, ρ', r, he, hb, q⟩ => by
  cases ds with
  | nil => cases hb
  | cons d t =>
    obtain ⟨v, vt, rfl, r1, r2⟩ := r
    have hb' : (b d ρ).bind (c t) = some ρ' := hb
    cases e1 : b d ρ with
    | none => rw [e1] at hb'; cases hb'
    | some ρ1 =>
      rw [e1] at hb'
      exact ⟨v, vt, rfl, A, ρ, d, ρ1, r1, he, e1, fun σ1 he1 s1 => ⟨A, ρ1, t, ρ', r2, he1, hb', fun σ2 he2 s2 => q σ2 he2 (s1.trans s2)⟩⟩
theorem dg_tup {is : List Nat} {b : FGs} {k n : Nat} (hc : X.calm = true) (h : DGs X es is b) (hn : (assignEach es X.env).length = n := by rfl) (hst : (assignEach es X.env).findIdx? (·.1) = none := by rfl) : DG X (.Tuple es k pos) is (bTup n b) := (pg_tup hc h hn hst).to fun v σ H Q ⟨A, ρ, d, ρ', r, he, hb, q⟩ => by
  unfold bTup at hb
  split at hb
  · rename_i xs e1
    split at hb
    · rename_i hl
      obtain ⟨a, vs, rfl, k1, k2⟩ := tupOf_at r e1
      exact ⟨a, vs, rfl, k1, by rw [k2.len]; exact hl, A, ρ, xs, ρ', k2, he, hb, q⟩
    · cases hb
  · cases hb
end

/-! ### what is walked -/
/-- the items, and the place of the list that is to stay -/
abbrev FI := Env → Sto → Res (List D × Option (Nat × List D))
def guardOk (p : List D × Option (Nat × List D)) (S : Sto) : Prop := match p.2 with
  | none => True
  | some (n, xs) => S[n]? = some (.lst xs)
structure RI (G : GX) (A : List Addr) (H : Hp) (p : List D × Option (Nat × List D)) (J : It) : Prop where
  go : ∀ A' H' S' i, Gr A H A' H' → HR G A' H' S' → guardOk p S' → i < p.1.length → J.go i H'
  stop : ∀ A' H' S', Gr A H A' H' → HR G A' H' S' → guardOk p S' → J.stop p.1.length H'
  yld : ∀ A' H' S' i x H'', Gr A H A' H' → HR G A' H' S' → guardOk p S' → i < p.1.length → J.yld i H' x H'' → ∃ d, p.1[i]? = some d ∧ Gr A' H' A' H'' ∧ HR G A' H'' S' ∧ Rep G A' H'' d x
abbrev cI (G : GX) (W : WX) (f : FI) : TI := can G W (RI G) f
abbrev DI (X : Cx) (W : WX) (tg iter : Expr) (f : FI) : Prop := PI X tg iter (cI (gx X) W f)
theorem _root_.L2.PI.to {X : Cx} {tg iter : Expr} {t u : TI} (h : PI X tg iter t) (k : ∀ σ H R, u σ H R → t σ H R) : PI X tg iter u := ⟨fun pins s σ H R I q => h.run pins s σ H R I (k σ H R q)⟩
def guardOf (xs : List D) : D → Option (Nat × List D)
  | .ref n => some (n, xs)
  | _ => none
/-- a list or a tuple -/
def iSeq (a : FE) : FI := fun ρ S => (a ρ S).bind fun x S1 => match tupOf x with
  | some xs => .ok (xs, none) S1
  | none => match listOf S1 x with
    | some xs => .ok (xs, guardOf xs x) S1
    | none => .bad
/-- a list alone -/
def iLst (a : FE) : FI := fun ρ S => (a ρ S).bind fun x S1 => match listOf S1 x with
    | some xs => .ok (xs, guardOf xs x) S1
    | none => .bad
def iTpl (a : FE) : FI := fun ρ S => (a ρ S).bind fun x S1 => match tupOf x with
    | some xs => .ok (xs, none) S1
    | none => .bad
def rgD (lo : Int) : Nat → List D
  | 0 => []
  | n + 1 => .int lo :: rgD (lo + 1) n
theorem rgD_get : ∀ (n : Nat) (lo : Int) (i : Nat), i < n → (rgD lo n)[i]? = some (.int (lo + i))
  | 0, _, _, h => by omega
  | n + 1, lo, 0, _ => by simp [rgD]
  | n + 1, lo, i + 1, h => by
    rw [rgD, List.getElem?_cons_succ, rgD_get n (lo + 1) i (by omega)]
    congr 2
    push_cast
    omega
theorem rgD_len : ∀ (n : Nat) (lo : Int), (rgD lo n).length = n
  | 0, _ => rfl
  | n + 1, lo => by rw [rgD, List.length_cons, rgD_len n]
def rngOk (j : Int) : Prop := -1000000000000 < j ∧ j < 1000000000000
instance (j : Int) : Decidable (rngOk j) := inferInstanceAs (Decidable (_ ∧ _))
def iRg1 (a : FA) : FI := fun ρ S => (a ρ S).bind fun ds S1 => match ds with
  | [.int j] => if rngOk j then .ok (rgD 0 j.toNat, none) S1 else .bad
  | _ => .bad
def iRg2 (a : FA) : FI := fun ρ S => (a ρ S).bind fun ds S1 => match ds with
  | [.int i, .int j] => if rngOk i ∧ rngOk j then .ok (rgD i (j - i).toNat, none) S1 else .bad
  | _ => .bad
/-- the signs of a text -/
def signs (z : Str) : List D := z.cps.toList.map fun c => .str ⟨#[c]⟩
def iTxt (a : FE) : FI := fun ρ S => (a ρ S).bind fun x S1 => match x with
  | .str z => .ok (signs z, none) S1
  | _ => .bad
section
variable {G : GX} {W : WX} {A : List Addr} {H : Hp} {S : Sto}
/-- the list at hand stays one -/
theorem list_stays {d : D} {v : V} {xs : List D} (hs : HR G A H S) (r : Rep G A H d v) (h : listOf S d = some xs) : ∃ a, v = .ref a ∧ ∀ A' H' S', Gr A H A' H' → HR G A' H' S' → guardOk (xs, guardOf xs d) S' → ∃ vs, SqL G.K H' a vs ∧ Reps G A' H' xs vs := by
  obtain ⟨a, vs, rfl, k1, k2⟩ := listOf_at hs r h
  refine ⟨a, rfl, fun A' H' S' g hs' hg => ?_⟩
  have h' : listOf S' d = some xs := by
    unfold listOf at h ⊢
    unfold guardOf guardOk at hg
    cases d with
    | ref n =>
      dsimp only at hg ⊢
      rw [hg]
    | fls ys => exact h
    | _ => cases h
  obtain ⟨b, ws, e, k3, k4⟩ := listOf_at hs' (r.mono g) h'
  cases e
  exact ⟨ws, k3, k4⟩
theorem ri_list {d : D} {a : Addr} {xs : List D} (hs : HR G A H S) (r : Rep G A H d (.ref a)) (h : listOf S d = some xs) : RI G A H (xs, guardOf xs d) (Itl G.K a) := by
  obtain ⟨b, e, k⟩ := list_stays hs r h
  cases e
  refine ⟨fun A' H' S' i g hs' hg hi => ?_, fun A' H' S' g hs' hg => ?_, fun A' H' S' i x H'' g hs' hg hi y => ?_⟩
  · obtain ⟨vs, k1, k2⟩ := k A' H' S' g hs' hg
    obtain ⟨v, e, _⟩ := k2.get (List.getElem?_eq_getElem hi)
    exact ⟨vs, v, k1, e⟩
  · obtain ⟨vs, k1, k2⟩ := k A' H' S' g hs' hg
    exact ⟨vs, k1, Nat.le_of_eq k2.len⟩
  · obtain ⟨vs, k1, k2⟩ := k A' H' S' g hs' hg
    obtain ⟨e, y⟩ := y
    subst e
    obtain ⟨d, e, q⟩ := k2.nth (y vs k1)
    exact ⟨d, e, Gr.refl _ _, hs', q⟩
theorem ri_tup {d : D} {a : Addr} {xs : List D} (r : Rep G A H d (.ref a)) (h : tupOf d = some xs) : RI G A H (xs, none) (Itt G.K a) := by
  have k : ∀ A' H', Gr A H A' H' → ∃ vs, SqT G.K H' a vs ∧ Reps G A' H' xs vs := fun A' H' g => by
    obtain ⟨b, vs, e, k1, k2⟩ := tupOf_at (r.mono g) h
    cases e
    exact ⟨vs, k1, k2⟩
  refine ⟨fun A' H' S' i g hs' hg hi => ?_, fun A' H' S' g hs' hg => ?_, fun A' H' S' i x H'' g hs' hg hi y => ?_⟩
  · obtain ⟨vs, k1, k2⟩ := k A' H' g
    obtain ⟨v, e, _⟩ := k2.get (List.getElem?_eq_getElem hi)
    exact ⟨vs, v, k1, e⟩
  · obtain ⟨vs, k1, k2⟩ := k A' H' g
    exact ⟨vs, k1, Nat.le_of_eq k2.len⟩
  · obtain ⟨vs, k1, k2⟩ := k A' H' g
    obtain ⟨e, y⟩ := y
    subst e
    obtain ⟨d, e, q⟩ := k2.nth (y vs k1)
    exact ⟨d, e, Gr.refl _ _, hs', q⟩
theorem ri_fn {J : It} {xs : List D} (h1 : ∀ i H, i < xs.length → J.go i H) (h2 : ∀ H, J.stop xs.length H) (h3 : ∀ i H x H', i < xs.length → J.yld i H x H' → H' = H ∧ ∃ d, xs[i]? = some d ∧ ∀ A H, Rep G A H d x) : RI G A H (xs, none) J := by
  refine ⟨fun A' H' S' i g hs' hg hi => h1 i H' hi, fun A' H' S' g hs' hg => h2 H', fun A' H' S' i x H'' g hs' hg hi y => ?_⟩
  obtain ⟨e, d, e2, r⟩ := h3 i H' x H'' hi y
  subst e
  exact ⟨d, e2, Gr.refl _ _, hs', r _ _⟩
end
section
variable {X : Cx} {W : WX} {tg a b c : Expr} {fa fb fc : FE} {fr : FA} {pos p : Pos}
theorem di_lst (ha : DE X W a fa) : DI X W tg a (iLst fa) := (pi_list ha).to fun σ H R ⟨A, ρ, S, he, hs, h⟩ => can_bind he hs h fun d S1 A1 H1 v g1 r1 hs1 he1 h1 => by
  split at h1
  · rename_i xs e
    obtain ⟨a, vs, rfl, k1, k2⟩ := listOf_at hs1 r1 e
    refine ⟨a, rfl, ⟨vs, k1⟩, ?_⟩
    exact Post.val h1 (ri_list hs1 r1 e) hs1
  · exact h1.elim
theorem di_tpl (ha : DE X W a fa) : DI X W tg a (iTpl fa) := (pi_tup ha).to fun σ H R ⟨A, ρ, S, he, hs, h⟩ => can_bind he hs h fun d S1 A1 H1 v g1 r1 hs1 he1 h1 => by
  split at h1
  · rename_i xs e
    obtain ⟨a, vs, rfl, k1, k2⟩ := tupOf_at r1 e
    exact ⟨a, rfl, ⟨vs, k1⟩, Post.val h1 (ri_tup r1 e) hs1⟩
  · exact h1.elim
theorem ri_range {G : GX} {A : List Addr} {H : Hp} {lo : Int} {n : Nat} : RI G A H (rgD lo n, none) (Itr lo n) := by
  have hl : (rgD lo n).length = n := rgD_len n lo
  refine ri_fn (fun i H hi => ?_) (fun H => ?_) (fun i H x H' hi y => ?_)
  · rw [hl] at hi
    exact hi
  · rw [hl]
    exact Nat.le_refl _
  · rw [hl] at hi
    obtain ⟨e1, e2⟩ := y
    exact ⟨e1, .int (lo + i), rgD_get n lo i hi, fun _ _ => e2⟩
theorem di_rg1 (hm : X.mg "range" = none) (ha : DA X W [a] fr) (hg : Gl X "range" := by rfl) (hs : starEach [a] X.env = [(false, eval a X.env)] := by rfl) : DI X W tg (.Call (.Name "range" p) [a] [] pos) (iRg1 fr) := (pi_range1 hg hm ha hs).to fun σ H R ⟨A, ρ, S, he, hs, h⟩ => can_bind he hs h fun ds S1 A1 H1 vs g1 r1 hs1 he1 h1 => by
  split at h1
  · rename_i j
    split at h1
    · rename_i hj
      obtain ⟨v, t, rfl, r2, r3⟩ := r1
      cases r2; cases r3
      obtain ⟨hj1, hj2⟩ := hj
      exact ⟨j, rfl, by omega, by omega, Post.val h1 ri_range hs1⟩
    · exact h1.elim
  · exact h1.elim
theorem di_rg2 (hm : X.mg "range" = none) (ha : DA X W [a, b] fr) (hg : Gl X "range" := by rfl) (hs : starEach [a, b] X.env = [(false, eval a X.env), (false, eval b X.env)] := by rfl) (hs2 : starEach [b] X.env = [(false, eval b X.env)] := by rfl) : DI X W tg (.Call (.Name "range" p) [a, b] [] pos) (iRg2 fr) := (pi_range2 hg hm ha hs hs2).to fun σ H R ⟨A, ρ, S, he, hs, h⟩ => can_bind he hs h fun ds S1 A1 H1 vs g1 r1 hs1 he1 h1 => by
  split at h1
  · rename_i i j
    split at h1
    · rename_i hj
      obtain ⟨v, t, rfl, r2, v2, t2, rfl, r4, r3⟩ := r1
      cases r2; cases r3; cases r4
      obtain ⟨⟨hi1, hi2⟩, hj1, hj2⟩ := hj
      exact ⟨i, j, rfl, ⟨by omega, by omega, by omega, by omega⟩, Post.val h1 ri_range hs1⟩
    · exact h1.elim
  · exact h1.elim
theorem di_txt (ha : DE X W a fa) : DI X W tg a (iTxt fa) := (pi_str ha).to fun σ H R ⟨A, ρ, S, he, hs, h⟩ => can_bind he hs h fun d S1 A1 H1 v g1 r1 hs1 he1 h1 => by
  split at h1
  · rename_i z
    have hl : (signs z).length = z.cps.size := by simp [signs]
    refine ⟨z, r1, Post.val h1 (ri_fn (fun i H hi => ?_) (fun H => ?_) (fun i H x H' hi y => ?_)) hs1⟩
    · rw [hl] at hi
      exact hi
    · rw [hl]
      exact Nat.le_refl _
    · rw [hl] at hi
      obtain ⟨e1, c, e2, e3⟩ := walk_str.yields i H x H' hi trivial y
      refine ⟨e1, .str ⟨#[c]⟩, ?_, fun _ _ => e3⟩
      unfold signs
      rw [List.getElem?_map, Array.getElem?_toList, e2]
      rfl
  · exact h1.elim
end

/-! ### for -/
open Classical in
noncomputable def forL (p : List D × Option (Nat × List D)) (bd : FG) (body : FS) : List D → Env → Sto → SR
  | [], ρ, S => if guardOk p S then .nx ρ S else .bad
  | d :: ds, ρ, S => if guardOk p S then match bd d ρ with
    | some ρ1 => match body ρ1 S with
      | .nx ρ2 S2 => forL p bd body ds ρ2 S2
      | .ct ρ2 S2 => forL p bd body ds ρ2 S2
      | .bk ρ2 S2 => .nx ρ2 S2
      | r => r
    | none => .bad
    else .bad
noncomputable def sFor (fi : FI) (bd : FG) (body : FS) : FS := fun ρ S => match fi ρ S with
  | .ok p S1 => forL p bd body p.1 ρ S1
  | .bad => .bad
  | .exc x S1 => .exc x ρ S1
theorem forL_guard {G : GX} {W : WX} {E : Ends} {A : List Addr} {H : Hp} {p : List D × Option (Nat × List D)} {bd : FG} {body : FS} {ds : List D} {ρ : Env} {S : Sto} (h : SPost G W E A H (forL p bd body ds ρ S)) : guardOk p S := by
  cases ds with
  | nil =>
    unfold forL at h
    split at h
    · assumption
    · exact h.elim
  | cons d ds =>
    unfold forL at h
    split at h
    · assumption
    · exact h.elim
theorem ds_for {X : Cx} {W : WX} {tg iter : Expr} {body : List Stmt} {fi : FI} {is : List Nat} {bd : FG} {fb : FS} {pos : Pos} (hp : PassesOwn (model X.prog X.w) X.A X.env X.xe) (hc : X.calm = true) (hi : DI X W tg iter fi) (hg : DG X tg is bd) (hb : DSs X W body fb)
    (hs : ∀ x, foldedSetIterable iter X.env x = pure x := by intro _; rfl) : DS X W (.For tg iter body [] pos) (sFor fi bd fb) := (ps_for hp hc hi hg hb hs).to fun E σ H ⟨A, ρ, S, he, hs, h⟩ => by
  refine SPost_of_exp (k := fun ρ r => match r with | .ok p S1 => forL p bd fb p.1 ρ S1 | .bad => .bad | .exc x S1 => .exc x ρ S1) he hs h (fun _ => rfl) (fun _ _ _ => rfl) fun p S1 A1 H1 J g1 r1 hs1 he1 h1 => ?_
  dsimp only at h1
  let Pv : Nat → L2.St → Hp → Prop := fun i σ' H' => ∃ A' ρ' S', Gr A1 H1 A' H' ∧ RepE (gx X) A' H' ρ' σ' ∧ HR (gx X) A' H' S' ∧ SPost (gx X) W E A' H' (forL p bd fb (p.1.drop i) ρ' S')
  have wk : Walk J p.1.length (fun H' => ∃ A' S', Gr A1 H1 A' H' ∧ HR (gx X) A' H' S' ∧ guardOk p S') (fun i H' x H'' => J.yld i H' x H'') :=
    ⟨fun i H' hi ⟨A', S', g, hs', hg⟩ => r1.go A' H' S' i g hs' hg hi, fun H' ⟨A', S', g, hs', hg⟩ => r1.stop A' H' S' g hs' hg, fun _ _ _ _ _ _ y => y⟩
  refine for_it wk Pv ⟨A1, ρ, S1, Gr.refl _ _, he1, hs1, by simpa using h1⟩ (fun i σ' H' _ ⟨A', ρ', S', g, he', hs', h'⟩ => ⟨A', S', g, hs', forL_guard h'⟩) (fun i x σ' H' H'' hi ⟨A', ρ', S', g, he', hs', h'⟩ y => ?_) (fun σ' H' ⟨A', ρ', S', g, he', hs', h'⟩ => ?_)
  · obtain ⟨d, ed, g2, hs2, rd⟩ := r1.yld A' H' S' i x H'' g hs' (forL_guard h') hi y
    have hdrop : p.1.drop i = d :: p.1.drop (i + 1) := by
      rw [List.drop_eq_getElem_cons hi]
      congr 1
      rw [List.getElem?_eq_getElem hi] at ed
      exact Option.some.inj ed
    rw [hdrop] at h'
    unfold forL at h'
    split at h'
    · split at h'
      · rename_i ρ1 hbd
        refine ⟨A', ρ', d, ρ1, rd, he'.mono g2, hbd, fun σ1 he1' _ => ⟨A', ρ1, S', he1', hs2, ?_⟩⟩
        have h' := SPost.grow g2 h'
        cases ebody : fb ρ1 S' with
        | nx ρ2 S2 => rw [ebody] at h'; exact fun A3 H3 σ3 g3 he3 hs3 => ⟨A3, ρ2, S2, (g.trans g2).trans g3, he3, hs3, SPost.grow g3 h'⟩
        | ct ρ2 S2 => rw [ebody] at h'; exact fun A3 H3 σ3 g3 he3 hs3 => ⟨A3, ρ2, S2, (g.trans g2).trans g3, he3, hs3, SPost.grow g3 h'⟩
        | bk ρ2 S2 => rw [ebody] at h'; exact h'
        | rt d2 S2 => rw [ebody] at h'; exact h'
        | exc x2 ρ2 S2 => rw [ebody] at h'; exact h'
        | bad => rw [ebody] at h'; exact h'
      · exact h'.elim
    · exact h'.elim
  · rw [List.drop_length] at h'
    unfold forL at h'
    split at h'
    · exact h' A' H' σ' (Gr.refl _ _) he' hs'
    · exact h'.elim

/-! ### while -/
def whileL (t : FT) (body : FS) : Nat → Env → Sto → SR
  | 0, _, _ => .bad
  | n + 1, ρ, S => match t ρ S with
    | .ok c S1 => if c = true then match body ρ S1 with
      | .nx ρ2 S2 => whileL t body n ρ2 S2
      | .ct ρ2 S2 => whileL t body n ρ2 S2
      | .bk ρ2 S2 => .nx ρ2 S2
      | r => r
      else .nx ρ S1
    | .bad => .bad
    | .exc x S1 => .exc x ρ S1
def sWhile (n : Nat) (t : FT) (body : FS) : FS := fun ρ S => whileL t body n ρ S
theorem ds_while {X : Cx} {W : WX} {c : Expr} {body : List Stmt} {ft : FT} {fb : FS} {pos : Pos} (n : Nat) (hp : PassesOwn (model X.prog X.w) X.A X.env X.xe) (hc : DT X W c ft) (hb : DSs X W body fb) : DS X W (.While c body [] pos) (sWhile n ft fb) := (ps_while hp hc hb).to fun E σ H ⟨A, ρ, S, he, hs, h⟩ => by
  refine ⟨fun m σ' H' => ∃ A' ρ' S', RepE (gx X) A' H' ρ' σ' ∧ HR (gx X) A' H' S' ∧ SPost (gx X) W E A' H' (whileL ft fb m ρ' S'), ⟨n, A, ρ, S, he, hs, h⟩, fun m σ' H' ⟨A', ρ', S', he', hs', h'⟩ => ?_⟩
  cases m with
  | zero => exact h'.elim
  | succ m =>
    unfold whileL at h'
    refine SPost_of_exp (k := fun ρ r => match r with
      | .ok c S1 => if c = true then match fb ρ S1 with
        | .nx ρ2 S2 => whileL ft fb m ρ2 S2
        | .ct ρ2 S2 => whileL ft fb m ρ2 S2
        | .bk ρ2 S2 => .nx ρ2 S2
        | r => r
        else .nx ρ S1
      | .bad => .bad
      | .exc x S1 => .exc x ρ S1) he' hs' h' (fun _ => rfl) (fun _ _ _ => rfl) fun b S1 A1 H1 v g1 r1 hs1 he1 h1 => ?_
    cases r1
    dsimp only at h1
    cases b with
    | true =>
      rw [if_pos rfl] at h1
      refine ⟨fun σ2 H2 => ∃ A2 ρ2 S2, RepE (gx X) A2 H2 ρ2 σ2 ∧ HR (gx X) A2 H2 S2 ∧ SPost (gx X) W E A2 H2 (whileL ft fb m ρ2 S2), fun σ2 H2 w => ⟨m, Nat.lt_succ_self _, w⟩, A1, ρ', S1, he1, hs1, ?_⟩
      cases ebody : fb ρ' S1 with
      | nx ρ2 S2 => rw [ebody] at h1; exact fun A3 H3 σ3 g3 he3 hs3 => ⟨A3, ρ2, S2, he3, hs3, SPost.grow g3 h1⟩
      | ct ρ2 S2 => rw [ebody] at h1; exact fun A3 H3 σ3 g3 he3 hs3 => ⟨A3, ρ2, S2, he3, hs3, SPost.grow g3 h1⟩
      | bk ρ2 S2 => rw [ebody] at h1; exact h1
      | rt d2 S2 => rw [ebody] at h1; exact h1
      | exc x2 ρ2 S2 => rw [ebody] at h1; exact h1
      | bad => rw [ebody] at h1; exact h1
    | false =>
      rw [if_neg Bool.false_ne_true] at h1
      exact h1 A1 H1 σ' (Gr.refl _ _) he1 hs1
end TD

set_option Elab.async false
set_option linter.all false
set_option maxRecDepth 100000
set_option maxHeartbeats 2000000
/-! TD5: comprehensions, dicts, fields, methods of lists and texts, stores. -/
namespace TD
open PySem PySem.Spec PyProof.Rows L2

/-! ### comprehensions -/
def wipeD (ρ : Env) : List Nat → Env
  | [] => ρ
  | v :: vs => (wipeD ρ vs).set v none
theorem wipe_len (σ : L2.St) : ∀ vs : List Nat, (wipe σ vs).length = σ.length
  | [] => rfl
  | v :: vs => by
    show ((wipe σ vs).set v none).length = _
    rw [List.length_set, wipe_len σ vs]
theorem wipe_get (σ : L2.St) : ∀ (vs : List Nat) (j : Nat), (wipe σ vs)[j]? = if j ∈ vs then (if j < σ.length then some none else none) else σ[j]?
  | [], j => by simp [wipe]
  | v :: vs, j => by
    show ((wipe σ vs).set v none)[j]? = _
    rw [List.getElem?_set, wipe_len, wipe_get σ vs j]
    by_cases h : v = j
    · subst h
      rw [if_pos rfl, if_pos List.mem_cons_self]
    · rw [if_neg h]
      by_cases h2 : j ∈ vs
      · rw [if_pos h2, if_pos (List.mem_cons_of_mem _ h2)]
      · rw [if_neg h2, if_neg (fun z => (List.mem_cons.mp z).elim (fun e => h e.symm) h2)]
theorem wipeD_len (ρ : Env) : ∀ vs : List Nat, (wipeD ρ vs).length = ρ.length
  | [] => rfl
  | v :: vs => by
    show ((wipeD ρ vs).set v none).length = _
    rw [List.length_set, wipeD_len ρ vs]
theorem wipeD_get (ρ : Env) : ∀ (vs : List Nat) (j : Nat) (d : D), (wipeD ρ vs)[j]? = some (some d) → j ∉ vs ∧ ρ[j]? = some (some d)
  | [], j, d, h => ⟨by simp, h⟩
  | v :: vs, j, d, h => by
    have h : ((wipeD ρ vs).set v none)[j]? = some (some d) := h
    rw [List.getElem?_set] at h
    by_cases hv : v = j
    · rw [if_pos hv] at h
      split at h <;> simp at h
    · rw [if_neg hv] at h
      obtain ⟨h1, h2⟩ := wipeD_get ρ vs j d h
      exact ⟨fun z => (List.mem_cons.mp z).elim (fun e => hv e.symm) h1, h2⟩
theorem RepE.wipe {G : GX} {A : List Addr} {H : Hp} {ρ : Env} {σ : L2.St} (h : RepE G A H ρ σ) (vs : List Nat) : RepE G A H (wipeD ρ vs) (wipe σ vs) := ⟨by rw [wipeD_len, wipe_len]; exact h.len, fun i d e => by
  obtain ⟨h1, h2⟩ := wipeD_get ρ vs i d e
  obtain ⟨v, e1, r⟩ := h.get i d h2
  exact ⟨v, by rw [wipe_get, if_neg h1]; exact e1, r⟩⟩
theorem wipe_sets {is vs : List Nat} {σ σ' : L2.St} (h : Sets is (wipe σ vs) σ') (hs : ∀ i ∈ is, i ∈ vs) : wipe σ' vs = wipe σ vs := by
  apply List.ext_getElem?
  intro j
  have hl : σ'.length = σ.length := h.1.trans (wipe_len σ vs)
  rw [wipe_get, wipe_get, hl]
  by_cases hj : j ∈ vs
  · rw [if_pos hj, if_pos hj]
  · rw [if_neg hj, if_neg hj, h.2 j (fun z => hj (hs j z)), wipe_get, if_neg hj]
abbrev WF : WX := fun _ _ _ _ => False
theorem takesF {X : Cx} : Takes X WF := fun _ _ ⟨_, _, _, _, _, _, _, _, _, _, _, _, _, _, _, _, z⟩ => z.elim
abbrev DTs (X : Cx) (W : WX) (ifs : List Expr) (f : FT) : Prop := PTs X ifs (cT (gx X) W f)
def tTrue : FT := fun _ S => .ok true S
section
variable {X : Cx} {W : WX}
theorem dts_nil : DTs X W [] tTrue := ⟨fun pins s σ H Q I ⟨A, ρ, S, he, hs, h⟩ => pts_nil.run pins s σ H Q I (Post.val h rfl hs)⟩
theorem dts_one {c : Expr} {f : FT} (h : DT X W c f) : DTs X W [c] f := pts_one h
end
open Classical in
noncomputable def lcL (p : List D × Option (Nat × List D)) (bd : FG) (t : FT) (e : FE) (n : Nat) (ρ0 : Env) : List D → Sto → Res D
  | [], S => if guardOk p S then .ok (.ref n) S else .bad
  | d :: ds, S => if guardOk p S then match bd d ρ0 with
    | some ρ1 => match t ρ1 S with
      | .ok b S1 => if b = true then match e ρ1 S1 with
        | .ok y S2 => match S2[n]? with
          | some (.lst acc) => if acc.length < 1000000 then lcL p bd t e n ρ0 ds (S2.set n (.lst (acc ++ [y]))) else .bad
          | _ => .bad
        | _ => .bad
        else lcL p bd t e n ρ0 ds S1
      | _ => .bad
    | none => .bad
    else .bad
noncomputable def dLc (fi : FI) (bd : FG) (t : FT) (e : FE) (own : List Nat) : FE := fun ρ S => (fi ρ S).bind fun p S1 => lcL p bd t e S1.length (wipeD ρ own) p.1 (S1 ++ [.lst []])
theorem lcL_guard {G : GX} {W : WX} {σ : L2.St} {A : List Addr} {H : Hp} {Q : VK} {p : List D × Option (Nat × List D)} {bd : FG} {t : FT} {e : FE} {n : Nat} {ρ0 : Env} {ds : List D} {S : Sto} (h : Post G W σ (Rep G) A H Q (lcL p bd t e n ρ0 ds S)) : guardOk p S := by
  cases ds with
  | nil =>
    unfold lcL at h
    split at h
    · assumption
    · exact h.elim
  | cons d ds =>
    unfold lcL at h
    split at h
    · assumption
    · exact h.elim
section
variable {X : Cx} {W : WX} {tg iter elt : Expr} {ifs : List Expr} {scope : Scope} {own : List (Str × Nat)} {pos : Pos} {fi : FI} {is : List Nat} {bd : FG} {ft : FT} {fe : FE}
theorem lc_read (hs : ∀ i ∈ is, i ∈ own.map (·.2)) : ∀ σ H Q, cE (gx X) W (dLc fi bd ft fe (own.map (·.2))) σ H Q → tLc (cI (gx X) W fi) (cG (gx X) is bd) (cT (gx X) WF ft) (cE (gx X) WF fe) (own.map (·.2)) σ H Q := fun σ H Q ⟨A, ρ, S, he, hs0, h⟩ => can_bind he hs0 h fun p S1 A1 H1 J g1 r1 hs1 he1 h1 => by
  intro L hL
  have hn : (A1 ++ [L])[S1.length]? = some L := by
    rw [List.getElem?_append_right (by rw [hs1.len]; exact Nat.le_refl _), hs1.len, Nat.sub_self]
    rfl
  let Pv : Nat → Hp → Prop := fun i H' => ∃ A' S', Gr (A1 ++ [L]) (upd H1 L (.lst [])) A' H' ∧ HR (gx X) A' H' S' ∧ Post (gx X) W σ (Rep (gx X)) A' H' Q (lcL p bd ft fe S1.length (wipeD ρ (own.map (·.2))) (p.1.drop i) S')
  have gp : Gr A1 H1 (A1 ++ [L]) (upd H1 L (.lst [])) := Gr.push hL
  have wk : Walk J p.1.length (fun H' => ∃ A' S', Gr A1 H1 A' H' ∧ HR (gx X) A' H' S' ∧ guardOk p S') (fun i H' x H'' => J.yld i H' x H'') :=
    ⟨fun i H' hi ⟨A', S', g, hs', hg⟩ => r1.go A' H' S' i g hs' hg hi, fun H' ⟨A', S', g, hs', hg⟩ => r1.stop A' H' S' g hs' hg, fun _ _ _ _ _ _ y => y⟩
  refine lc_it wk Pv ⟨A1 ++ [L], S1 ++ [.lst []], Gr.refl _ _, hs1.push (u := .lst []) hL ⟨[], upd_same, Reps.nil⟩, ?_⟩ (fun i H' _ ⟨A', S', g, hs', h'⟩ => ⟨A', S', gp.trans g, hs', lcL_guard h'⟩) (fun i x H' H'' hi ⟨A', S', g, hs', h'⟩ y => ?_) (fun H' ⟨A', S', g, hs', h'⟩ => ?_)
  · rw [List.drop_zero]
    exact Post.grow gp h1
  · obtain ⟨d, ed, g2, hs2, rd⟩ := r1.yld A' H' S' i x H'' (gp.trans g) hs' (lcL_guard h') hi y
    have hdrop : p.1.drop i = d :: p.1.drop (i + 1) := by
      rw [List.drop_eq_getElem_cons hi]
      congr 1
      rw [List.getElem?_eq_getElem hi] at ed
      exact Option.some.inj ed
    rw [hdrop] at h'
    unfold lcL at h'
    have he2 : RepE (gx X) A' H'' (wipeD ρ (own.map (·.2))) (wipe σ (own.map (·.2))) := ((he1.mono gp).mono (g.trans g2)).wipe _
    split at h'
    · split at h'
      · rename_i ρ1 hbd
        refine ⟨A', _, d, ρ1, rd, he2, hbd, fun σ1 he1' st => ⟨wipe_sets st hs, ?_⟩⟩
        have h' := Post.grow g2 h'
        refine ⟨A', ρ1, S', he1', hs2, ?_⟩
        cases et : ft ρ1 S' with
        | bad => rw [et] at h'; exact h'
        | exc x S2 => rw [et] at h'; exact h'.elim
        | ok b S2 =>
          rw [et] at h'
          intro A3 H3 c g3 rb hs3
          cases rb
          have h' := Post.grow g3 h'
          dsimp only at h'
          cases b with
          | false =>
            rw [if_neg Bool.false_ne_true] at h' ⊢
            exact ⟨A3, S2, (g.trans g2).trans g3, hs3, h'⟩
          | true =>
            rw [if_pos rfl] at h' ⊢
            refine ⟨A3, ρ1, S2, he1'.mono g3, hs3, ?_⟩
            cases ee : fe ρ1 S2 with
            | bad => rw [ee] at h'; exact h'
            | exc x S2 => rw [ee] at h'; exact h'.elim
            | ok yd S4 =>
              rw [ee] at h'
              intro A4 H4 yv g4 ry hs4
              have h' := Post.grow g4 h'
              dsimp only at h'
              split at h'
              · rename_i acc eacc
                split at h'
                · rename_i hlen
                  have gg := ((g.trans g2).trans g3).trans g4
                  obtain ⟨vs, hv, rv⟩ := hs4.at (gg.get hn) eacc
                  have gput : Gr A4 H4 A4 (upd H4 L (.lst (vs ++ [yv]))) := Gr.put hv (fun _ z => nomatch z) (fun _ _ z => nomatch z)
                  refine ⟨vs, hv, Nat.lt_of_lt_of_le (by rw [rv.len]; exact hlen) (by decide), A4, _, gg.trans gput, hs4.put (w := .lst (acc ++ [yd])) (gg.get hn) hv (fun _ z => nomatch z) (fun _ _ z => nomatch z) ⟨_, upd_same, (rv.snoc ry).mono gput⟩, Post.grow gput h'⟩
                · exact h'.elim
              · exact h'.elim
      · exact h'.elim
    · exact h'.elim
  · rw [List.drop_length] at h'
    unfold lcL at h'
    split at h'
    · exact Post.val h' ⟨L, g.get hn, rfl⟩ hs'
    · exact h'.elim
theorem de_lc (hc : X.calm = true) (hN : X.N.Nodup) (hi : DI X W tg iter fi) (ok : BlkOk X.N X.env.scope scope own)
    (hg : ∀ (s : Shared) (H : Hp) (C : Addr) (cl : List (Str × Addr)) (fp : List Addr), DG (X.blk s H scope (compEnvC scope cl C X.env) fp) tg is bd) (ht : ∀ (s : Shared) (H : Hp) (C : Addr) (cl : List (Str × Addr)) (fp : List Addr), DTs (X.blk s H scope (compEnvC scope cl C X.env) fp) WF ifs ft)
    (he : ∀ (s : Shared) (H : Hp) (C : Addr) (cl : List (Str × Addr)) (fp : List Addr), DE (X.blk s H scope (compEnvC scope cl C X.env) fp) WF elt fe) (hin : ∀ i ∈ is, i ∈ own.map (·.2) := by decide) (hs : ∀ x, foldedSetIterable iter X.env x = pure x := by intro _; rfl) :
    DE X W (.ListComp elt [⟨tg, iter, ifs, 0⟩] scope pos) (dLc fi bd ft fe (own.map (·.2))) := (pe_lc hc hN hi ok hg ht he hs).to (lc_read hin)
/-- name = [..] on one line -/
theorem ds_setLc {i : Nat} {y : Str} {py spos : Pos} (hc : X.calm = true) (hN : X.N.Nodup) (hi : DI X W tg iter fi) (ok : BlkOk X.N X.env.scope scope own)
    (hg : ∀ (s : Shared) (H : Hp) (C : Addr) (cl : List (Str × Addr)) (fp : List Addr), DG (X.blk s H scope (compEnvC scope cl C X.env) fp) tg is bd) (ht : ∀ (s : Shared) (H : Hp) (C : Addr) (cl : List (Str × Addr)) (fp : List Addr), DTs (X.blk s H scope (compEnvC scope cl C X.env) fp) WF ifs ft)
    (he : ∀ (s : Shared) (H : Hp) (C : Addr) (cl : List (Str × Addr)) (fp : List Addr), DE (X.blk s H scope (compEnvC scope cl C X.env) fp) WF elt fe) (hsw : swapsWith (.ListComp elt [⟨tg, iter, ifs, 0⟩] scope pos) (some (.Name y py)) spos.line X.env = pure true) (hy : X.N[i]? = some y := by rfl) (hyl : X.env.scope.names.lookup y = some .local := by rfl) (hin : ∀ i ∈ is, i ∈ own.map (·.2) := by decide) (hs : ∀ x, foldedSetIterable iter X.env x = pure x := by intro _; rfl) :
    DS X W (.Assign [.Name y py] (.ListComp elt [⟨tg, iter, ifs, 0⟩] scope pos) spos) (sSet i (dLc fi bd ft fe (own.map (·.2)))) := (ps_setLc hc hN hy hyl hsw hi ok hg ht he hs).to fun E σ H ⟨A, ρ, S, hv, hs, h⟩ =>
  lc_read (W := W) hin σ H _ (SPost_of_exp (k := fun ρ r => match r with | .ok d S1 => .nx (ρ.set i (some d)) S1 | .bad => .bad | .exc x S1 => .exc x ρ S1) hv hs h (fun _ => rfl) (fun _ _ _ => rfl) fun d S1 A1 H1 v g1 r1 hs1 he1 h1 => h1 A1 H1 _ (Gr.refl _ _) (he1.set r1 i) hs1)
end

/-! ### dicts with keys that are ints and texts -/
def keyOf : D → Option Key
  | .int i => some (.inl i)
  | .str x => some (.inr x)
  | _ => none
section
variable {κ : Type} [DecidableEq κ]
def valD (kvs : List (κ × D)) (k : κ) : Option D := (kvs.find? fun kv => decide (kv.1 = k)).map (·.2)
def putD (kvs : List (κ × D)) (k : κ) (v : D) : List (κ × D) := if (kvs.any fun kv => decide (kv.1 = k)) = true then kvs.map (fun kv => if kv.1 = k then (kv.1, v) else kv) else kvs ++ [(k, v)]
end
section
variable {κ : Type} [DecidableEq κ] {G : GX} {A : List Addr} {H : Hp}
theorem valD_some : ∀ {kvs : List (κ × D)} {vs : List (κ × V)} {k : κ} {d : D}, RepKV G A H kvs vs → valD kvs k = some d → ∃ v, valV vs k = some v ∧ Rep G A H d v
  | _, _, k, d, .nil, h => by simp [valD] at h
  | (k1, d1) :: kvs, (k2, v2) :: vs, k, d, .cons r t, h => by
    obtain ⟨e, r1⟩ := r
    dsimp only at e r1
    subst e
    by_cases hk : k1 = k
    · subst hk
      simp [valD] at h
      subst h
      exact ⟨v2, by simp [valV], r1⟩
    · have h' : valD kvs k = some d := by simpa [valD, List.find?_cons, hk] using h
      obtain ⟨v, e, q⟩ := valD_some t h'
      exact ⟨v, by simpa [valV, List.find?_cons, hk] using e, q⟩
theorem valD_none : ∀ {kvs : List (κ × D)} {vs : List (κ × V)} {k : κ}, RepKV G A H kvs vs → valD kvs k = none → valV vs k = none
  | _, _, k, .nil, h => rfl
  | (k1, d1) :: kvs, (k2, v2) :: vs, k, .cons r t, h => by
    obtain ⟨e, r1⟩ := r
    dsimp only at e r1
    subst e
    by_cases hk : k1 = k
    · subst hk
      simp [valD] at h
    · have h' : valD kvs k = none := by simpa [valD, List.find?_cons, hk] using h
      simpa [valV, List.find?_cons, hk] using valD_none t h'
theorem any_rep : ∀ {kvs : List (κ × D)} {vs : List (κ × V)} {k : κ}, RepKV G A H kvs vs → (vs.any fun kv => decide (kv.1 = k)) = (kvs.any fun kv => decide (kv.1 = k))
  | _, _, k, .nil => rfl
  | (k1, d1) :: kvs, (k2, v2) :: vs, k, .cons r t => by
    obtain ⟨e, r1⟩ := r
    dsimp only at e r1
    subst e
    rw [List.any_cons, List.any_cons, any_rep t]
theorem mapD_rep {k : κ} {d : D} {v : V} (r : Rep G A H d v) : ∀ {kvs : List (κ × D)} {vs : List (κ × V)}, RepKV G A H kvs vs → RepKV G A H (kvs.map fun kv => if kv.1 = k then (kv.1, d) else kv) (vs.map fun kv => if kv.1 = k then (kv.1, v) else kv)
  | _, _, .nil => .nil
  | (k1, d1) :: kvs, (k2, v2) :: vs, .cons q t => by
    obtain ⟨e, r1⟩ := q
    dsimp only at e r1
    subst e
    rw [List.map_cons, List.map_cons]
    refine .cons ?_ (mapD_rep r t)
    dsimp only
    split
    · exact ⟨rfl, r⟩
    · exact ⟨rfl, r1⟩
theorem RepKV.append : ∀ {kvs kws : List (κ × D)} {vs ws : List (κ × V)}, RepKV G A H kvs vs → RepKV G A H kws ws → RepKV G A H (kvs ++ kws) (vs ++ ws)
  | _, _, _, _, .nil, t => t
  | _, _, _, _, .cons r q, t => .cons r (RepKV.append q t)
theorem putD_rep {kvs : List (κ × D)} {vs : List (κ × V)} {k : κ} {d : D} {v : V} (h : RepKV G A H kvs vs) (r : Rep G A H d v) : RepKV G A H (putD kvs k d) (putK vs k v) := by
  unfold putD putK
  rw [any_rep h]
  split
  · exact mapD_rep r h
  · exact h.append (.cons ⟨rfl, r⟩ .nil)
theorem keyOf_rep {d : D} {v : V} {k : Key} (r : Rep G A H d v) (h : keyOf d = some k) : v = kV k := by
  unfold keyOf at h
  split at h
  · cases h; exact r
  · cases h; exact r
  · cases h
end
def dctOf (S : Sto) : D → Option (Nat × List (Key × D))
  | .ref n => match S[n]? with
    | some (.dct kvs) => some (n, kvs)
    | _ => none
  | _ => none
def gDGet : Sto → D → D → Res D := fun S x y => match dctOf S x, keyOf y with
  | some (_, kvs), some k => match valD kvs k with
    | some d => .ok d S
    | none => .bad
  | _, _ => .bad
def gDIn (neg : Bool) : Sto → D → D → Res D := fun S y x => match dctOf S x, keyOf y with
  | some (_, kvs), some k => .ok (.bl (if neg then !(valD kvs k).isSome else (valD kvs k).isSome)) S
  | _, _ => .bad
theorem dct_at {G : GX} {A : List Addr} {H : Hp} {S : Sto} {d : D} {v : V} {n : Nat} {kvs : List (Key × D)} (hs : HR G A H S) (r : Rep G A H d v) (h : dctOf S d = some (n, kvs)) : ∃ a vs, d = .ref n ∧ A[n]? = some a ∧ v = .ref a ∧ H a = some (.dK vs) ∧ RepKV G A H kvs vs ∧ S[n]? = some (.dct kvs) := by
  unfold dctOf at h
  split at h
  · split at h
    · rename_i e
      cases h
      obtain ⟨a, ea, rfl⟩ := r
      obtain ⟨vs, h1, h2⟩ := hs.at ea e
      exact ⟨a, vs, rfl, ea, rfl, h1, h2, e⟩
    · cases h
  · cases h
/-- d[k] = v : the value, the dict, the key -/
def sDPutD (fo fk fv : FE) : FS := fun ρ S => match (fv ρ S).bind fun v S1 => (fo ρ S1).bind fun x S2 => (fk ρ S2).bind fun y S3 => match dctOf S3 x, keyOf y with
    | some (n, kvs), some k => if kvs.length < 1000000 then Res.ok () (S3.set n (.dct (putD kvs k v))) else .bad
    | _, _ => .bad with
  | .ok _ S1 => .nx ρ S1
  | .bad => .bad
  | .exc x S1 => .exc x ρ S1
/-- xs[i] = v : the value, the list, the place -/
def sIxPut (fo fk fv : FE) : FS := fun ρ S => match (fv ρ S).bind fun v S1 => (fo ρ S1).bind fun x S2 => (fk ρ S2).bind fun y S3 => match x, y with
    | .ref n, .int i => match S3[n]? with
      | some (.lst xs) => match ixN xs.length i with
        | some j => Res.ok () (S3.set n (.lst (xs.set j v)))
        | none => .bad
      | _ => .bad
    | _, _ => .bad with
  | .ok _ S1 => .nx ρ S1
  | .bad => .bad
  | .exc x S1 => .exc x ρ S1
section
variable {X : Cx} {W : WX} {a b o i value : Expr} {fa fb fo fk fv : FE} {pos pos' : Pos}
theorem hu_room {k : Nat} (hr : Room k X.A) : X.A.units + 1 < cLine := by have := hr.un; omega
theorem de_dget {k : Nat} (hr : Room k X.A) (ho : DE X W a fa) (hi : DE X W b fb) (hs : NoSl b := by intro _ _; rfl) : DE X W (.Subscript a b pos) (dOp gDGet fa fb) := (pe_dget (hu_room hr) ho hi hs).to fun σ H Q ⟨A, ρ, S, he, hs, h⟩ =>
  can_bind he hs h fun d S1 A1 H1 v g1 r1 hs1 he1 h1 => can_bind he1 hs1 h1 fun e S2 A2 H2 w g2 r2 hs2 he2 h2 => by
    unfold gDGet at h2
    split at h2
    · rename_i n kvs k e1 e2
      obtain ⟨a, vs, rfl, ea, rfl, h3, h4, _⟩ := dct_at hs2 (r1.mono g2) e1
      split at h2
      · rename_i d e3
        obtain ⟨v, ev, rv⟩ := valD_some h4 e3
        refine ⟨a, v, rfl, ?_, Post.val h2 rv hs2⟩
        rw [keyOf_rep r2 e2, ← ev]
        exact DGet.k h3
      · exact h2.elim
    · exact h2.elim
theorem dIn_read {neg : Bool} : ∀ σ H Q, cE (gx X) W (dOp (gDIn neg) fa fb) σ H Q → (fun σ H (Q : VK) => cE (gx X) W fa σ H fun y H1 => cE (gx X) W fb σ H1 fun x H2 => ∃ a o, x = .ref a ∧ DGet H2 a y o ∧ Q (.bl (if neg then !o.isSome else o.isSome)) H2) σ H Q := fun σ H Q ⟨A, ρ, S, he, hs, h⟩ =>
  can_bind he hs h fun d S1 A1 H1 v g1 r1 hs1 he1 h1 => can_bind he1 hs1 h1 fun e S2 A2 H2 w g2 r2 hs2 he2 h2 => by
    unfold gDIn at h2
    split at h2
    · rename_i n kvs k e1 e2
      obtain ⟨a, vs, rfl, ea, rfl, h3, h4, _⟩ := dct_at hs2 r2 e1
      refine ⟨a, valV vs k, rfl, ?_, ?_⟩
      · rw [keyOf_rep (r1.mono g2) e2]
        exact DGet.k h3
      · have : (valV vs k).isSome = (valD kvs k).isSome := by
          cases e3 : valD kvs k with
          | none => rw [valD_none h4 e3]; rfl
          | some d => obtain ⟨v, ev, _⟩ := valD_some h4 e3; rw [ev]; rfl
        rw [this]
        exact Post.val h2 rfl hs2
    · exact h2.elim
theorem dt_din {k : Nat} (hr : Room k X.A) (ha : DE X W a fa) (hb : DE X W b fb) (hm : behindInMarks .In b = false := by rfl) : DT X W (.Compare a [.In] [b] pos) (dTst (dOp (gDIn false) fa fb)) := (pt_cmp (pc_din (hu_room hr) ha hb) hm).to fun σ H Q ⟨A, ρ, S, he, hs, h⟩ =>
  dIn_read (neg := false) σ H (fun z H1 => ∃ c, z = .bl c ∧ Q c H1) (can_bind he hs h fun d S1 A1 H1 v g1 r1 hs1 he1 h1 => by
    cases d with
    | bl b => exact ⟨b, r1, Post.val h1 rfl hs1⟩
    | _ => exact h1.elim)
theorem dt_dnotin {k : Nat} (hr : Room k X.A) (ha : DE X W a fa) (hb : DE X W b fb) (hm : behindInMarks .NotIn b = false := by rfl) : DT X W (.Compare a [.NotIn] [b] pos) (dTst (dOp (gDIn true) fa fb)) := (pt_cmp (pc_dnotin (hu_room hr) ha hb) hm).to fun σ H Q ⟨A, ρ, S, he, hs, h⟩ =>
  dIn_read (neg := true) σ H (fun z H1 => ∃ c, z = .bl c ∧ Q c H1) (can_bind he hs h fun d S1 A1 H1 v g1 r1 hs1 he1 h1 => by
    cases d with
    | bl b => exact ⟨b, r1, Post.val h1 rfl hs1⟩
    | _ => exact h1.elim)
theorem de_din {k : Nat} (hr : Room k X.A) (ha : DE X W a fa) (hb : DE X W b fb) (hm : behindInMarks .In b = false := by rfl) : DE X W (.Compare a [.In] [b] pos) (dOp (gDIn false) fa fb) := (pe_cmp (pc_din (hu_room hr) ha hb) hm).to fun σ H Q h => dIn_read (neg := false) σ H Q h
theorem de_dnotin {k : Nat} (hr : Room k X.A) (ha : DE X W a fa) (hb : DE X W b fb) (hm : behindInMarks .NotIn b = false := by rfl) : DE X W (.Compare a [.NotIn] [b] pos) (dOp (gDIn true) fa fb) := (pe_cmp (pc_dnotin (hu_room hr) ha hb) hm).to fun σ H Q h => dIn_read (neg := true) σ H Q h
theorem put_bind {G : GX} {E : Ends} {A : List Addr} {H : Hp} {ρ : Env} {σ : L2.St} {S : Sto} {f : FE} {k : D → Sto → Res Unit} {Q : VK} (he : RepE G A H ρ σ) (hs : HR G A H S)
    (h : SPost G W E A H (match (f ρ S).bind k with | .ok _ S1 => .nx ρ S1 | .bad => .bad | .exc x S1 => .exc x ρ S1))
    (hk : ∀ d S1 A1 H1 v, Gr A H A1 H1 → Rep G A1 H1 d v → HR G A1 H1 S1 → RepE G A1 H1 ρ σ → SPost G W E A1 H1 (match k d S1 with | .ok _ S1 => .nx ρ S1 | .bad => .bad | .exc x S1 => .exc x ρ S1) → Q v H1) : cE G W f σ H Q :=
  SPost_of_exp (k := fun ρ r => match r.bind k with | .ok _ S1 => .nx ρ S1 | .bad => .bad | .exc x S1 => .exc x ρ S1) he hs h (fun _ => rfl) (fun _ _ _ => rfl) hk
theorem ds_dput {k : Nat} (hr : Room k X.A) (ho : DE X W o fo) (hi : DE X W i fk) (hv : DE X W value fv) (hs : swapsWith value (some (.Subscript o i pos')) pos.line X.env = pure false := by rfl) : DS X W (.Assign [.Subscript o i pos'] value pos) (sDPutD fo fk fv) := (ps_dput (hu_room hr) ho hi hv hs).to fun E σ H ⟨A, ρ, S, he, hs, h⟩ =>
  put_bind he hs h fun d S1 A1 H1 v g1 r1 hs1 he1 h1 => put_bind he1 hs1 h1 fun x S2 A2 H2 w g2 r2 hs2 he2 h2 => put_bind he2 hs2 h2 fun y S3 A3 H3 u g3 r3 hs3 he3 h3 => by
    cases e1 : dctOf S3 x with
    | none => rw [e1] at h3; exact h3.elim
    | some q =>
      obtain ⟨n, kvs⟩ := q
      cases e2 : keyOf y with
      | none => rw [e1, e2] at h3; exact h3.elim
      | some k =>
        rw [e1, e2] at h3
        dsimp only at h3
        by_cases hl : kvs.length < 1000000
        · rw [if_pos hl] at h3
          obtain ⟨a, vs, rfl, ea, rfl, h4, h5, _⟩ := dct_at hs3 (r2.mono g3) e1
          have gput : Gr A3 H3 A3 (upd H3 a (.dK (putK vs k v))) := Gr.put h4 (fun _ z => nomatch z) (fun _ _ z => nomatch z)
          have rv : Rep (gx X) A3 H3 d v := (r1.mono g2).mono g3
          refine ⟨a, _, rfl, ?_, h3 A3 _ σ gput (he3.mono gput) (hs3.put (w := .dct (putD kvs k d)) ea h4 (fun _ z => nomatch z) (fun _ _ z => nomatch z) ⟨_, upd_same, (putD_rep h5 rv).mono gput⟩)⟩
          rw [keyOf_rep r3 e2]
          refine DPut.k h4 (Nat.lt_of_lt_of_le ?_ (by decide : 1000000 ≤ sizeLine))
          rw [← Paired.length h5]
          exact hl
        · rw [if_neg hl] at h3; exact h3.elim
theorem ds_ixput (hg : PG X (.Subscript o i pos') (L2.gSub (cE (gx X) W fo) (cE (gx X) W fk) rSetL)) (hv : DE X W value fv) (hs : swapsWithSole [.Subscript o i pos'] value pos.line X.env = pure false := by rfl) (hw : swappedStores [.Subscript o i pos'] value X.env = pure none := by rfl) : DS X W (.Assign [.Subscript o i pos'] value pos) (sIxPut fo fk fv) := (ps_asg hv hg hs hw).to fun E σ H ⟨A, ρ, S, he, hs, h⟩ =>
  put_bind he hs h fun d S1 A1 H1 v g1 r1 hs1 he1 h1 => put_bind he1 hs1 h1 fun x S2 A2 H2 w g2 r2 hs2 he2 h2 => put_bind he2 hs2 h2 fun y S3 A3 H3 u g3 r3 hs3 he3 h3 => by
    cases x with
    | ref n =>
      cases y with
      | int j0 =>
        dsimp only at h3
        cases e1 : S3[n]? with
        | none => rw [e1] at h3; exact h3.elim
        | some q =>
          cases q with
          | lst xs =>
            rw [e1] at h3
            dsimp only at h3
            cases e2 : ixN xs.length j0 with
            | none => rw [e2] at h3; exact h3.elim
            | some j =>
              rw [e2] at h3
              obtain ⟨a, ea, rfl⟩ := r2
              have ea := g3.get ea
              obtain ⟨vs, h4, h5⟩ := hs3.at ea e1
              have gput : Gr A3 H3 A3 (upd H3 a (.lst (vs.set j v))) := Gr.put h4 (fun _ z => nomatch z) (fun _ _ z => nomatch z)
              have rv : Rep (gx X) A3 H3 d v := (r1.mono g2).mono g3
              exact ⟨a, vs, j0, j, rfl, r3, h4, by rw [h5.len]; exact e2, h3 A3 _ σ gput (he3.mono gput) (hs3.put (w := .lst (xs.set j d)) ea h4 (fun _ z => nomatch z) (fun _ _ z => nomatch z) ⟨_, upd_same, (h5.set j rv).mono gput⟩)⟩
          | _ => rw [e1] at h3; exact h3.elim
      | _ => exact h3.elim
    | _ => exact h3.elim
end
end TD

set_option Elab.async false
set_option linter.all false
set_option maxRecDepth 100000
set_option maxHeartbeats 2000000
/-! TD6: displays of dicts, fields, methods of lists and texts, stores with an operator. -/
namespace TD
open PySem PySem.Spec PyProof.Rows L2

/-! ### {k: v, ..} -/
def prL : List (FE × FE) → Env → Sto → Res (List (D × D))
  | [], _, S => .ok [] S
  | (k, v) :: r, ρ, S => (k ρ S).bind fun x S1 => (v ρ S1).bind fun y S2 => (prL r ρ S2).bind fun ps S3 => .ok ((x, y) :: ps) S3
def keysD : List (D × D) → Option (List (Key × D))
  | [] => some []
  | (x, y) :: r => match keyOf x, keysD r with
    | some k, some kvs => some ((k, y) :: kvs)
    | _, _ => none
def mergeD (kvs more : List (Key × D)) : List (Key × D) := more.foldl (fun acc kv => putD acc kv.1 kv.2) kvs
def dDisp (prs : List (FE × FE)) : FE := fun ρ S => (prL prs ρ (S ++ [.dct []])).bind fun ps S2 => match keysD ps with
  | some kvs => match S2[S.length]? with
    | some (.dct []) => if kvs.length ≤ 15 then .ok (.ref S.length) (S2.set S.length (.dct (mergeD [] kvs))) else .bad
    | _ => .bad
  | none => .bad
def RPs (G : GX) (A : List Addr) (H : Hp) : List (D × D) → List (V × V) → Prop := Paired fun p q => Rep G A H p.1 q.1 ∧ Rep G A H p.2 q.2
section
variable {G : GX} {W : WX} {A : List Addr} {H : Hp} {σ : L2.St}
theorem prL_read {R' : List Addr → Hp → D → V → Prop} {Q' : VK} : ∀ (prs : List (FE × FE)) {A : List Addr} {H : Hp} {ρ : Env} {S : Sto} {k : List (D × D) → Sto → Res D} {Q : List (V × V) → Hp → Prop}, RepE G A H ρ σ → HR G A H S → Post G W σ R' A H Q' ((prL prs ρ S).bind k) →
    (∀ ps S1 A1 H1 vs, Gr A H A1 H1 → RPs G A1 H1 ps vs → HR G A1 H1 S1 → Post G W σ R' A1 H1 Q' (k ps S1) → Q vs H1) → tPairs (prs.map fun p => (cE G W p.1, cE G W p.2)) σ H Q
  | [], A, H, ρ, S, k, Q, he, hs, h, hk => hk [] S A H [] (Gr.refl _ _) .nil hs h
  | (fk, fv) :: r, A, H, ρ, S, k, Q, he, hs, h, hk => by
    have h : Post G W σ R' A H Q' (((fk ρ S).bind fun x S1 => (fv ρ S1).bind fun y S2 => (prL r ρ S2).bind fun ps S3 => .ok ((x, y) :: ps) S3).bind k) := h
    show cE G W fk σ H fun x H1 => cE G W fv σ H1 fun y H2 => tPairs _ σ H2 fun ps H3 => Q ((x, y) :: ps) H3
    have e1 : ((fk ρ S).bind fun x S1 => (fv ρ S1).bind fun y S2 => (prL r ρ S2).bind fun ps S3 => Res.ok ((x, y) :: ps) S3).bind k = (fk ρ S).bind fun x S1 => (fv ρ S1).bind fun y S2 => (prL r ρ S2).bind fun ps S3 => k ((x, y) :: ps) S3 := by
      cases fk ρ S with
      | bad => rfl
      | exc x S => rfl
      | ok x S1 =>
        rw [Res.bind_ok, Res.bind_ok]
        cases fv ρ S1 with
        | bad => rfl
        | exc x S => rfl
        | ok y S2 =>
          rw [Res.bind_ok, Res.bind_ok]
          cases prL r ρ S2 with
          | bad => rfl
          | exc x S => rfl
          | ok ps S3 => rfl
    rw [e1] at h
    exact can_bind he hs h fun x S1 A1 H1 v g1 r1 hs1 he1 h1 => can_bind he1 hs1 h1 fun y S2 A2 H2 w g2 r2 hs2 he2 h2 =>
      prL_read r he2 hs2 h2 fun ps S3 A3 H3 vs g3 r3 hs3 h3 => hk _ S3 A3 H3 _ ((g1.trans g2).trans g3) (.cons ⟨(r1.mono g2).mono g3, r2.mono g3⟩ r3) hs3 h3
theorem keysD_rep : ∀ {ps : List (D × D)} {vs : List (V × V)} {kvs : List (Key × D)}, RPs G A H ps vs → keysD ps = some kvs → ∃ ws : List (Key × V), vs = ws.map (fun kv => (kV kv.1, kv.2)) ∧ RepKV G A H kvs ws
  | _, _, _, .nil, h => by cases h; exact ⟨[], rfl, .nil⟩
  | (x, y) :: ps, (v, w) :: vs, _, .cons r t, h => by
    unfold keysD at h
    split at h
    · rename_i k kvs e1 e2
      cases h
      obtain ⟨ws, e, q⟩ := keysD_rep t e2
      exact ⟨(k, w) :: ws, by
        rw [List.map_cons, e]
        have := keyOf_rep r.1 e1
        dsimp only at this ⊢
        rw [this], .cons ⟨rfl, r.2⟩ q⟩
    · cases h
theorem mergeD_rep : ∀ {more : List (Key × D)} {mv : List (Key × V)} {kvs : List (Key × D)} {vs : List (Key × V)}, RepKV G A H more mv → RepKV G A H kvs vs → RepKV G A H (mergeD kvs more) (mergeK vs mv)
  | _, _, _, _, .nil, q => q
  | (k, d) :: more, (k2, v) :: mv, kvs, vs, .cons r t, q => by
    obtain ⟨e, r⟩ := r
    dsimp only at e r
    subst e
    exact mergeD_rep (kvs := putD kvs k d) (vs := putK vs k v) t (putD_rep q r)
end
section
variable {X : Cx} {W : WX} {pos : Pos}
theorem dps_nil : PPs X pos [] [] (([] : List (FE × FE)).map fun p => (cE (gx X) W p.1, cE (gx X) W p.2)) := pps_nil
theorem dps_cons {k v : Expr} {ks : List (Option Expr)} {vs : List Expr} {fk fv : FE} {prs : List (FE × FE)} (hk : DE X W k fk) (hv : DE X W v fv) (hr : PPs X pos ks vs (prs.map fun p => (cE (gx X) W p.1, cE (gx X) W p.2))) :
    PPs X pos (some k :: ks) (v :: vs) (((fk, fv) :: prs).map fun p => (cE (gx X) W p.1, cE (gx X) W p.2)) := pps_cons hk hv hr
theorem de_disp {keys : List (Option Expr)} {values : List Expr} {prs : List (FE × FE)} (h : PPs X pos keys values (prs.map fun p => (cE (gx X) W p.1, cE (gx X) W p.2))) (hall : keys.all (·.isSome) = true := by rfl) (hl : keys.length = values.length := by rfl) (h0 : keys ≠ [] := by simp) (h15 : keys.length ≤ 15 := by decide) :
    DE X W (.Dict keys values pos) (dDisp prs) := (pe_disp h hall hl h0 h15).to fun σ H Q ⟨A, ρ, S, he, hs, h⟩ p hp => by
  have hn : (A ++ [p])[S.length]? = some p := by
    rw [List.getElem?_append_right (by rw [hs.len]; exact Nat.le_refl _), hs.len, Nat.sub_self]
    rfl
  have gp : Gr A H (A ++ [p]) (upd H p (.dK [])) := Gr.push hp
  refine prL_read (R' := Rep (gx X)) prs (he.mono gp) (hs.push (u := .dct []) hp ⟨[], upd_same, .nil⟩) (Post.grow gp h) fun ps S1 A1 H1 vs g1 r1 hs1 h1 => ?_
  split at h1
  · rename_i kvs ek
    obtain ⟨ws, ews, rw_⟩ := keysD_rep r1 ek
    split at h1
    · rename_i e0
      split at h1
      · rename_i hl
        obtain ⟨v0, h0, k0⟩ := hs1.at (g1.get hn) e0
        cases k0
        have gput : Gr A1 H1 A1 (upd H1 p (.dK (mergeK [] ws))) := Gr.put h0 (fun _ z => nomatch z) (fun _ _ z => nomatch z)
        refine ⟨h0, ws, ews, by rw [← Paired.length rw_]; exact hl, ?_⟩
        exact Post.valG h1 gput ⟨p, g1.get hn, rfl⟩ (hs1.put (w := .dct (mergeD [] kvs)) (g1.get hn) h0 (fun _ z => nomatch z) (fun _ _ z => nomatch z) ⟨_, upd_same, (mergeD_rep rw_ .nil).mono gput⟩)
      · exact h1.elim
    · exact h1.elim
  · exact h1.elim
end

/-! ### fields -/
def insOf (S : Sto) (cn : Str) : D → Option (Nat × List (Str × D))
  | .ref n => match S[n]? with
    | some (.ins c fs) => if c = cn then some (n, fs) else none
    | _ => none
  | _ => none
def putFD (f : Str) (v : D) : List (Str × D) → List (Str × D)
  | [] => [(f, v)]
  | (g, x) :: r => if g = f then (g, v) :: r else (g, x) :: putFD f v r
def dFld (cn f : Str) (a : FE) : FE := fun ρ S => (a ρ S).bind fun x S1 => match insOf S1 cn x with
  | some (_, fs) => match fs.lookup f with
    | some d => .ok d S1
    | none => .bad
  | none => .bad
def sFldS (cn f : Str) (a v : FE) : FS := fun ρ S => match (v ρ S).bind fun y S1 => (a ρ S1).bind fun x S2 => match insOf S2 cn x with
    | some (n, fs) => if fs.length < 100 then Res.ok () (S2.set n (.ins cn (putFD f y fs))) else .bad
    | none => .bad with
  | .ok _ S1 => .nx ρ S1
  | .bad => .bad
  | .exc x S1 => .exc x ρ S1
/-- e.f += v, ints -/
def sFldA (cn f : Str) (g : Int → Int → Int) (a v : FE) : FS := fun ρ S => match (a ρ S).bind fun x S1 => match insOf S1 cn x with
    | some (n, fs) => match fs.lookup f with
      | some (.int i) => (v ρ S1).bind fun y S2 => match y with
        | .int j => match insOf S2 cn x with
          | some (n, fs) => if fs.length < 100 then Res.ok () (S2.set n (.ins cn (putFD f (D.int (g i j)) fs))) else .bad
          | none => .bad
        | _ => .bad
      | _ => .bad
    | none => .bad with
  | .ok _ S1 => .nx ρ S1
  | .bad => .bad
  | .exc x S1 => .exc x ρ S1
section
variable {G : GX} {A : List Addr} {H : Hp} {S : Sto}
theorem insOf_at {cn : Str} {d : D} {v : V} {n : Nat} {fs : List (Str × D)} (hs : HR G A H S) (r : Rep G A H d v) (h : insOf S cn d = some (n, fs)) : ∃ a C dx vs, d = .ref n ∧ A[n]? = some a ∧ v = .ref a ∧ G.mg cn = some (.ref C) ∧ H a = some (.ins C dx vs) ∧ RepKV G A H fs vs := by
  unfold insOf at h
  split at h
  · split at h
    · rename_i e
      split at h
      · rename_i ec
        subst ec
        cases h
        obtain ⟨a, ea, rfl⟩ := r
        obtain ⟨C, dx, vs, h0, h1, h2⟩ := hs.at ea e
        exact ⟨a, C, dx, vs, rfl, ea, rfl, h0, h1, h2⟩
      · cases h
    · cases h
  · cases h
theorem lookup_rep {f : Str} : ∀ {fs : List (Str × D)} {vs : List (Str × V)} {d : D}, RepKV G A H fs vs → fs.lookup f = some d → ∃ v, vs.lookup f = some v ∧ Rep G A H d v
  | _, _, _, .nil, h => by simp at h
  | (k, d1) :: fs, (k2, v) :: vs, d, .cons r t, h => by
    obtain ⟨e, r⟩ := r
    dsimp only at e r
    subst e
    rw [List.lookup_cons] at h ⊢
    cases hb : f == k with
    | true =>
      rw [hb] at h
      cases h
      exact ⟨v, rfl, r⟩
    | false =>
      rw [hb] at h
      exact lookup_rep t h
theorem putFD_rep {f : Str} {d : D} {v : V} (q : Rep G A H d v) : ∀ {fs : List (Str × D)} {vs : List (Str × V)}, RepKV G A H fs vs → RepKV G A H (putFD f d fs) (putF f v vs)
  | _, _, .nil => .cons ⟨rfl, q⟩ .nil
  | (k, d1) :: fs, (k2, v1) :: vs, .cons r t => by
    obtain ⟨e, r⟩ := r
    dsimp only at e r
    subst e
    unfold putFD putF
    split
    · exact .cons ⟨rfl, q⟩ t
    · exact .cons ⟨rfl, r⟩ (putFD_rep q t)
end
section
variable {X : Cx} {W : WX} {a v : Expr} {fa fv : FE} {pos pos' : Pos} {cn f : Str} {C : Addr}
theorem de_fld (hC : X.mg cn = some (.ref C)) (hc : Cls X.K C) (hn : NoAttr X.K C f) (ha : DE X W a fa) (hb : attributeBase a f X.env (eval a X.env) = eval a X.env := by rfl) : DE X W (.Attribute a f pos) (dFld cn f fa) := (pe_fld ha hb).to fun σ H Q ⟨A, ρ, S, he, hs, h⟩ =>
  can_bind he hs h fun d S1 A1 H1 v g1 r1 hs1 he1 h1 => by
    split at h1
    · rename_i n fs e1
      split at h1
      · rename_i d e2
        obtain ⟨a, C', dx, vs, rfl, ea, rfl, h0, h2, h3⟩ := insOf_at hs1 r1 e1
        have := hC.symm.trans h0
        cases this
        obtain ⟨u, eu, ru⟩ := lookup_rep h3 e2
        exact ⟨a, C, dx, vs, u, rfl, h2, hc, hn, eu, Post.val h1 ru hs1⟩
      · exact h1.elim
    · exact h1.elim
theorem ds_fld (hC : X.mg cn = some (.ref C)) (hc : Cls X.K C) (hn : NoAttr X.K C f) (ha : DE X W a fa) (hv : DE X W v fv) (hs : swapsWith v (some (.Attribute a f pos')) pos.line X.env = pure false := by rfl) : DS X W (.Assign [.Attribute a f pos'] v pos) (sFldS cn f fa fv) := (ps_fld ha hv hs).to fun E σ H ⟨A, ρ, S, he, hs, h⟩ =>
  put_bind he hs h fun y S1 A1 H1 w g1 r1 hs1 he1 h1 => put_bind he1 hs1 h1 fun x S2 A2 H2 u g2 r2 hs2 he2 h2 => by
    cases e1 : insOf S2 cn x with
    | none => rw [e1] at h2; exact h2.elim
    | some q =>
      obtain ⟨n, fs⟩ := q
      rw [e1] at h2
      dsimp only at h2
      by_cases hl : fs.length < 100
      · rw [if_pos hl] at h2
        obtain ⟨a, C', dx, vs, rfl, ea, rfl, h0, h3, h4⟩ := insOf_at hs2 r2 e1
        have := hC.symm.trans h0
        cases this
        have gput : Gr A2 H2 A2 (upd H2 a (.ins C dx (putF f w vs))) := Gr.put h3 (fun _ z => nomatch z) (fun _ _ z => nomatch z)
        refine ⟨a, C, dx, vs, rfl, h3, hc, hn, by rw [← Paired.length h4]; omega, h2 A2 _ σ gput (he2.mono gput) (hs2.put (w := .ins cn (putFD f y fs)) ea h3 (fun _ z => nomatch z) (fun _ _ z => nomatch z) ⟨C, dx, _, h0, upd_same, (putFD_rep (r1.mono g2) h4).mono gput⟩)⟩
      · rw [if_neg hl] at h2; exact h2.elim
theorem ds_flda {op : Operator} {g : Int → Int → Int} (hop : InOp X op (fun x y H Q => ∃ i j, x = V.int i ∧ y = V.int j ∧ Q (V.int (g i j)) H)) (hC : X.mg cn = some (.ref C)) (hc : Cls X.K C) (hn : NoAttr X.K C f) (ha : DE X W a fa) (hv : DE X W v fv) : DS X W (.AugAssign (.Attribute a f pos') op v pos) (sFldA cn f g fa fv) := (ps_fldaug ha hv hop).to fun E σ H ⟨A, ρ, S, he, hs, h⟩ =>
  put_bind he hs h fun x S1 A1 H1 w g1 r1 hs1 he1 h1 => by
    cases e1 : insOf S1 cn x with
    | none => rw [e1] at h1; exact h1.elim
    | some q =>
      obtain ⟨n, fs⟩ := q
      rw [e1] at h1
      dsimp only at h1
      cases e2 : fs.lookup f with
      | none => rw [e2] at h1; exact h1.elim
      | some d =>
        rw [e2] at h1
        cases d with
        | int i =>
          obtain ⟨a, C', dx, vs, ed, ea, rfl, h0, h3, h4⟩ := insOf_at hs1 r1 e1
          have := hC.symm.trans h0
          cases this
          obtain ⟨u, eu, ru⟩ := lookup_rep h4 e2
          refine ⟨a, C, dx, vs, u, rfl, h3, hc, hn, eu, put_bind he1 hs1 h1 fun y S2 A2 H2 z g2 r2 hs2 he2 h2 => ?_⟩
          cases y with
          | int j =>
            dsimp only at h2
            cases e3 : insOf S2 cn x with
            | none => rw [e3] at h2; exact h2.elim
            | some q2 =>
              obtain ⟨n2, fs2⟩ := q2
              rw [e3] at h2
              dsimp only at h2
              by_cases hl : fs2.length < 100
              · rw [if_pos hl] at h2
                obtain ⟨a2, C2, dx2, vs2, ed2, ea2, ev2, h02, h32, h42⟩ := insOf_at hs2 (r1.mono g2) e3
                have := hC.symm.trans h02
                cases this
                cases ev2
                have gput : Gr A2 H2 A2 (upd H2 a (.ins C dx2 (putF f (V.int (g i j)) vs2))) := Gr.put h32 (fun _ z => nomatch z) (fun _ _ z => nomatch z)
                refine ⟨i, j, ru, r2, dx2, vs2, h32, by rw [← Paired.length h42]; omega, h2 A2 _ σ gput (he2.mono gput) (hs2.put (w := .ins cn (putFD f (D.int (g i j)) fs2)) ea2 h32 (fun _ z => nomatch z) (fun _ _ z => nomatch z) ⟨C, dx2, _, h02, upd_same, (putFD_rep (show Rep (gx X) A2 H2 (D.int (g i j)) (V.int (g i j)) from rfl) h42).mono gput⟩)⟩
              · rw [if_neg hl] at h2; exact h2.elim
          | _ => exact h2.elim
        | _ => exact h1.elim
/-- x += e, ints -/
def sAug (i : Nat) (g : Int → Int → Int) (e : FE) : FS := fun ρ S => match ρ[i]? with
  | some (some (.int a)) => match e ρ S with
    | .ok (D.int b) S1 => .nx (ρ.set i (some (D.int (g a b)))) S1
    | .ok _ _ => .bad
    | .bad => .bad
    | .exc x S1 => .exc x ρ S1
  | _ => .bad
theorem ds_aug {i : Nat} {x : Str} {op : Operator} {g : Int → Int → Int} (hN : X.N.Nodup) (ho : PIp X op (ipI g)) (hv : DE X W v fv) (hi : X.N[i]? = some x := by rfl) (hx : Loc X.env.scope x := by first | exact Or.inl rfl | exact Or.inr rfl) (hf : X.fn x = true ∨ X.env.scope.names.lookup x = some .local := by first | exact .inl rfl | exact .inr rfl) :
    DS X W (.AugAssign (.Name x pos') op v pos) (sAug i g fv) := (ps_aug hN hi hx hv ho hf).to fun E σ H ⟨A, ρ, S, he, hs, h⟩ => by
  unfold sAug at h
  split at h
  · rename_i a ea
    obtain ⟨va, e1, ra⟩ := he.get i _ ea
    refine ⟨va, e1, SPost_of_exp (k := fun ρ (r : Res D) => match r with | .ok (D.int b) S1 => .nx (ρ.set i (some (D.int (g a b)))) S1 | .ok _ _ => .bad | .bad => .bad | .exc x S1 => .exc x ρ S1) he hs h (fun _ => rfl) (fun _ _ _ => rfl) fun d S1 A1 H1 v g1 r1 hs1 he1 h1 => ?_⟩
    cases d with
    | int b => exact ⟨a, b, ra, r1, h1 A1 H1 _ (Gr.refl _ _) (he1.set (show Rep (gx X) A1 H1 (D.int (g a b)) (V.int (g a b)) from rfl) i) hs1⟩
    | _ => exact h1.elim
  · exact h.elim
end

/-! ### methods of built-in types -/
def isTy (T : String) (S : Sto) (d : D) : Prop := (T = "list" ∧ (listOf S d).isSome = true) ∨ (T = "str" ∧ ∃ x, d = .str x) ∨ (T = "dict" ∧ (dctOf S d).isSome = true)
open Classical in
noncomputable def dM (T : String) (g : Sto → D → List D → Res D) (o : FE) (r : FA) : FE := fun ρ S => (o ρ S).bind fun x S1 => if isTy T S1 x then (r ρ S1).bind fun ds S2 => g S2 x ds else .bad
def MtS (G : GX) (W : WX) (r : V → List V → Hp → VK → Prop) (g : Sto → D → List D → Res D) : Prop := ∀ σ A H S d v ds vs Q, Rep G A H d v → Reps G A H ds vs → HR G A H S → Post G W σ (Rep G) A H Q (g S d ds) → r v vs H Q
theorem isTy_rep {G : GX} {A : List Addr} {H : Hp} {S : Sto} {T : String} {d : D} {v : V} (hs : HR G A H S) (r : Rep G A H d v) (h : isTy T S d) : tyV G.K T v H := by
  rcases h with ⟨rfl, h⟩ | ⟨rfl, x, rfl⟩ | ⟨rfl, h⟩
  · obtain ⟨xs, e⟩ := Option.isSome_iff_exists.mp h
    obtain ⟨a, vs, rfl, k1, k2⟩ := listOf_at hs r e
    exact .inl ⟨rfl, vs, k1⟩
  · cases r; rfl
  · obtain ⟨⟨n, kvs⟩, e⟩ := Option.isSome_iff_exists.mp h
    obtain ⟨a, vs, rfl, ea, rfl, h1, h2, _⟩ := dct_at hs r e
    exact .inr (.inr (.inl ⟨rfl, .inl ⟨vs, h1⟩⟩))
/-- xs.append(y) -/
def mApp : Sto → D → List D → Res D := fun S x ds => match x, ds with
  | .ref n, [y] => match S[n]? with
    | some (.lst xs) => if xs.length < 1000000 then .ok .non (S.set n (.lst (xs ++ [y]))) else .bad
    | _ => .bad
  | _, _ => .bad
/-- xs.pop() -/
def mPop : Sto → D → List D → Res D := fun S x ds => match x, ds with
  | .ref n, [] => match S[n]? with
    | some (.lst xs) => match xs[xs.length - 1]? with
      | some y => .ok y (S.set n (.lst xs.dropLast))
      | none => .bad
    | _ => .bad
  | _, _ => .bad
/-- xs.pop(i) -/
def mPopAt : Sto → D → List D → Res D := fun S x ds => match x, ds with
  | .ref n, [.int i] => match S[n]? with
    | some (.lst xs) => if rngOk i then match seqIndex? i xs.length with
      | some k => match xs[k]? with
        | some y => .ok y (S.set n (.lst (xs.eraseIdx k)))
        | none => .bad
      | none => .bad
      else .bad
    | _ => .bad
  | _, _ => .bad
/-- xs.reverse() -/
def mRev : Sto → D → List D → Res D := fun S x ds => match x, ds with
  | .ref n, [] => match S[n]? with
    | some (.lst xs) => .ok .non (S.set n (.lst xs.reverse))
    | _ => .bad
  | _, _ => .bad
def strsOf : List D → Option (List Str)
  | [] => some []
  | .str x :: r => (strsOf r).map (x :: ·)
  | _ :: _ => none
/-- a.join(xs) -/
def mJoin : Sto → D → List D → Res D := fun S x ds => match x, ds with
  | .str a, [y] => match (listOf S y).or (tupOf y) with
    | some xs => match strsOf xs with
      | some ys => if (ys.map (·.length)).sum + ys.length * a.length ≤ 1000000 then .ok (.str (Txt.join a ys)) S else .bad
      | none => .bad
    | none => .bad
  | _, _ => .bad
section
variable {G : GX} {W : WX}
theorem Reps.nilR {A : List Addr} {H : Hp} {vs : List V} (r : Reps G A H [] vs) : vs = [] := r
theorem Reps.oneR {A : List Addr} {H : Hp} {d : D} {vs : List V} (r : Reps G A H [d] vs) : ∃ v, vs = [v] ∧ Rep G A H d v := by
  obtain ⟨v, t, rfl, r1, r2⟩ := r
  cases r2
  exact ⟨v, rfl, r1⟩
theorem erase_rep {A : List Addr} {H : Hp} : ∀ {ds : List D} {vs : List V} (k : Nat), Reps G A H ds vs → Reps G A H (ds.eraseIdx k) (vs.eraseIdx k)
  | [], _, _, r => by cases r; exact Reps.nil
  | d :: ds, _, 0, r => by
    obtain ⟨v, t, rfl, r1, r2⟩ := r
    exact r2
  | d :: ds, _, k + 1, r => by
    obtain ⟨v, t, rfl, r1, r2⟩ := r
    exact Reps.cons r1 (erase_rep k r2)
theorem reverse_rep {A : List Addr} {H : Hp} : ∀ {ds : List D} {vs : List V}, Reps G A H ds vs → Reps G A H ds.reverse vs.reverse
  | [], _, r => by cases r; exact Reps.nil
  | d :: ds, _, r => by
    obtain ⟨v, t, rfl, r1, r2⟩ := r
    rw [List.reverse_cons, List.reverse_cons]
    exact (reverse_rep r2).append (Reps.cons r1 Reps.nil)
theorem ms_app : MtS G W rAppend mApp := fun σ A H S d v ds vs Q r1 r2 hs h => by
  unfold mApp at h
  split at h
  · rename_i n y
    obtain ⟨w, rfl, rw_⟩ := r2.oneR
    split at h
    · rename_i xs e
      split at h
      · rename_i hl
        obtain ⟨a, ea, rfl⟩ := r1
        obtain ⟨us, h1, k1⟩ := hs.at ea e
        have gput : Gr A H A (upd H a (.lst (us ++ [w]))) := Gr.put h1 (fun _ z => nomatch z) (fun _ _ z => nomatch z)
        exact ⟨a, us, w, rfl, rfl, h1, Nat.lt_of_lt_of_le (by rw [k1.len]; exact hl) (by decide), Post.valG h gput rfl (hs.put (w := .lst (xs ++ [y])) ea h1 (fun _ z => nomatch z) (fun _ _ z => nomatch z) ⟨_, upd_same, (k1.snoc rw_).mono gput⟩)⟩
      · exact h.elim
    · exact h.elim
  · exact h.elim
theorem ms_pop : MtS G W rPop mPop := fun σ A H S d v ds vs Q r1 r2 hs h => by
  unfold mPop at h
  split at h
  · rename_i n
    cases r2.nilR
    split at h
    · rename_i xs e
      split at h
      · rename_i y ey
        obtain ⟨a, ea, rfl⟩ := r1
        obtain ⟨us, h1, k1⟩ := hs.at ea e
        obtain ⟨w, ew, rw_⟩ := k1.get ey
        have gput : Gr A H A (upd H a (.lst us.dropLast)) := Gr.put h1 (fun _ z => nomatch z) (fun _ _ z => nomatch z)
        refine ⟨a, us, w, rfl, rfl, h1, by rw [k1.len]; exact ew, Post.valG h gput (rw_.mono gput) (hs.put (w := .lst xs.dropLast) ea h1 (fun _ z => nomatch z) (fun _ _ z => nomatch z) ⟨_, upd_same, ?_⟩)⟩
        have kt := (k1.take (xs.length - 1)).mono gput
        rw [← k1.len] at kt
        rw [List.dropLast_eq_take (l := xs), ← k1.len]
        rw [← List.dropLast_eq_take] at kt
        exact kt
      · exact h.elim
    · exact h.elim
  · exact h.elim
theorem ms_popAt : MtS G W rPopAt mPopAt := fun σ A H S d v ds vs Q r1 r2 hs h => by
  unfold mPopAt at h
  split at h
  · rename_i n i
    obtain ⟨w, rfl, rw_⟩ := r2.oneR
    cases rw_
    split at h
    · rename_i xs e
      split at h
      · rename_i hi
        split at h
        · rename_i k hk
          split at h
          · rename_i y ey
            obtain ⟨a, ea, rfl⟩ := r1
            obtain ⟨us, h1, k1⟩ := hs.at ea e
            obtain ⟨w, ew, rw_⟩ := k1.get ey
            have gput : Gr A H A (upd H a (.lst (us.eraseIdx k))) := Gr.put h1 (fun _ z => nomatch z) (fun _ _ z => nomatch z)
            obtain ⟨hi1, hi2⟩ := hi
            exact ⟨a, us, i, k, w, rfl, rfl, h1, by omega, by omega, by rw [k1.len]; exact hk, ew, Post.valG h gput (rw_.mono gput) (hs.put (w := .lst (xs.eraseIdx k)) ea h1 (fun _ z => nomatch z) (fun _ _ z => nomatch z) ⟨_, upd_same, (erase_rep k k1).mono gput⟩)⟩
          · exact h.elim
        · exact h.elim
      · exact h.elim
    · exact h.elim
  · exact h.elim
theorem ms_rev : MtS G W rReverse mRev := fun σ A H S d v ds vs Q r1 r2 hs h => by
  unfold mRev at h
  split at h
  · rename_i n
    cases r2.nilR
    split at h
    · rename_i xs e
      obtain ⟨a, ea, rfl⟩ := r1
      obtain ⟨us, h1, k1⟩ := hs.at ea e
      have gput : Gr A H A (upd H a (.lst us.reverse)) := Gr.put h1 (fun _ z => nomatch z) (fun _ _ z => nomatch z)
      exact ⟨a, us, rfl, rfl, h1, Post.valG h gput rfl (hs.put (w := .lst xs.reverse) ea h1 (fun _ z => nomatch z) (fun _ _ z => nomatch z) ⟨_, upd_same, (reverse_rep k1).mono gput⟩)⟩
    · exact h.elim
  · exact h.elim
theorem strs_rep {A : List Addr} {H : Hp} : ∀ {xs : List D} {vs : List V} {ys : List Str}, Reps G A H xs vs → strsOf xs = some ys → vs = ys.map V.str
  | [], _, _, r, h => by cases r; cases h; rfl
  | d :: ds, _, ys, r, h => by
    obtain ⟨v, t, rfl, r1, r2⟩ := r
    cases d with
    | str x =>
      have h : (strsOf ds).map (x :: ·) = some ys := h
      cases e : strsOf ds with
      | none => rw [e] at h; cases h
      | some zs =>
        rw [e] at h
        cases h
        cases (show v = .str x from r1)
        rw [List.map_cons, strs_rep r2 e]
    | _ => cases h
theorem ms_join : MtS G W (fun x xs H Q => ∃ a p, ∃ ys : List Str, x = .str a ∧ xs = [.ref p] ∧ (SqL G.K H p (ys.map V.str) ∨ SqT G.K H p (ys.map V.str)) ∧ (ys.map (·.length)).sum + ys.length * a.length ≤ 16777216 ∧ Q (.str (Txt.join a ys)) H) mJoin := fun σ A H S d v ds vs Q r1 r2 hs h => by
  unfold mJoin at h
  split at h
  · rename_i a y
    obtain ⟨w, rfl, rw_⟩ := r2.oneR
    cases (show v = .str a from r1)
    split at h
    · rename_i xs e
      split at h
      · rename_i ys ey
        split at h
        · rename_i hl
          obtain ⟨b, us, rfl, k1, k2⟩ := seq_at hs rw_ e
          have := strs_rep k2 ey
          subst this
          exact ⟨a, b, ys, rfl, rfl, k1, Nat.le_trans hl (by decide), Post.val h rfl hs⟩
        · exact h.elim
      · exact h.elim
    · exact h.elim
  · exact h.elim
end
section
variable {X : Cx} {W : WX} {o e : Expr} {es : List Expr} {fo : FE} {fr : FA} {apos cpos : Pos} {name : Str} {T id : String}
theorem dm_read {r : V → List V → Hp → VK → Prop} {g : Sto → D → List D → Res D} (hr : MtS (gx X) W r g) : ∀ σ H Q, cE (gx X) W (dM T g fo fr) σ H Q → tBM X.K T r (cE (gx X) W fo) (cA (gx X) W fr) σ H Q := fun σ H Q ⟨A, ρ, S, he, hs, h⟩ =>
  can_bind he hs h fun d S1 A1 H1 v g1 r1 hs1 he1 h1 => by
    split at h1
    · rename_i ht
      exact ⟨isTy_rep hs1 r1 ht, can_bind he1 hs1 h1 fun ds S2 A2 H2 vs g2 r2 hs2 he2 h2 => hr σ A2 H2 S2 d v ds vs Q (r1.mono g2) r2 hs2 h2⟩
    · exact h1.elim
theorem dm0_read {r : V → List V → Hp → VK → Prop} {g : Sto → D → List D → Res D} (hr : MtS (gx X) W r g) : ∀ σ H Q, cE (gx X) W (dM T g fo dNil) σ H Q → tBM0 X.K T r (cE (gx X) W fo) σ H Q := fun σ H Q ⟨A, ρ, S, he, hs, h⟩ =>
  can_bind he hs h fun d S1 A1 H1 v g1 r1 hs1 he1 h1 => by
    split at h1
    · rename_i ht
      exact ⟨isTy_rep hs1 r1 ht, hr σ A1 H1 S1 d v [] [] Q r1 Reps.nil hs1 h1⟩
    · exact h1.elim
theorem de_app (ho : DE X W o fo) (ha : DA X W [e] fr) (hbase : attributeBase o "append" X.env (eval o X.env) = eval o X.env := by rfl)
    (hfew : ((backTo cpos (starEach [e] X.env)).all (fun x => !x.1) && (backToKw cpos (keywordEach [] X.env)).all (fun x => x.1.isSome) && decide ([e].length + ([] : List Keyword).length + (if ([] : List Keyword).isEmpty then 0 else 1) < 30)) = true := by rfl)
    (hline : (apos.endLine == cpos.line) = true := by rfl) (hs : starEach [e] X.env = (false, eval e X.env) :: starEach [] X.env := by rfl) : DE X W (.Call (.Attribute o "append" apos) [e] [] cpos) (dM "list" mApp fo fr) :=
  (pe_bm PySem.F.plainAttrs_list PySem.F.slot_list_append PySem.F.type_list_append mt_append ho ha hbase hfew hline hs rfl).to (dm_read ms_app)
theorem de_popAt (ho : DE X W o fo) (ha : DA X W [e] fr) (hbase : attributeBase o "pop" X.env (eval o X.env) = eval o X.env := by rfl)
    (hfew : ((backTo cpos (starEach [e] X.env)).all (fun x => !x.1) && (backToKw cpos (keywordEach [] X.env)).all (fun x => x.1.isSome) && decide ([e].length + ([] : List Keyword).length + (if ([] : List Keyword).isEmpty then 0 else 1) < 30)) = true := by rfl)
    (hline : (apos.endLine == cpos.line) = true := by rfl) (hs : starEach [e] X.env = (false, eval e X.env) :: starEach [] X.env := by rfl) : DE X W (.Call (.Attribute o "pop" apos) [e] [] cpos) (dM "list" mPopAt fo fr) :=
  (pe_bm PySem.F.plainAttrs_list PySem.F.slot_list_pop PySem.F.type_list_pop mt_popAt ho ha hbase hfew hline hs rfl).to (dm_read ms_popAt)
theorem de_join (ho : DE X W o fo) (ha : DA X W [e] fr) (hbase : attributeBase o "join" X.env (eval o X.env) = eval o X.env := by rfl)
    (hfew : ((backTo cpos (starEach [e] X.env)).all (fun x => !x.1) && (backToKw cpos (keywordEach [] X.env)).all (fun x => x.1.isSome) && decide ([e].length + ([] : List Keyword).length + (if ([] : List Keyword).isEmpty then 0 else 1) < 30)) = true := by rfl)
    (hline : (apos.endLine == cpos.line) = true := by rfl) (hs : starEach [e] X.env = (false, eval e X.env) :: starEach [] X.env := by rfl) : DE X W (.Call (.Attribute o "join" apos) [e] [] cpos) (dM "str" mJoin fo fr) :=
  (pe_bm PySem.F.plainAttrs_str PySem.F.slot_str_join PySem.F.type_str_join mt_join ho ha hbase hfew hline hs rfl).to (dm_read ms_join)
theorem de_pop (ho : DE X W o fo) (hbase : attributeBase o "pop" X.env (eval o X.env) = eval o X.env := by rfl) (hline : (apos.endLine == cpos.line) = true := by rfl) : DE X W (.Call (.Attribute o "pop" apos) [] [] cpos) (dM "list" mPop fo dNil) :=
  (pe_bm0 PySem.F.plainAttrs_list PySem.F.slot_list_pop PySem.F.type_list_pop mt_pop ho hbase hline).to (dm0_read ms_pop)
theorem de_rev (ho : DE X W o fo) (hbase : attributeBase o "reverse" X.env (eval o X.env) = eval o X.env := by rfl) (hline : (apos.endLine == cpos.line) = true := by rfl) : DE X W (.Call (.Attribute o "reverse" apos) [] [] cpos) (dM "list" mRev fo dNil) :=
  (pe_bm0 PySem.F.plainAttrs_list PySem.F.slot_list_reverse PySem.F.type_list_reverse mt_reverse ho hbase hline).to (dm0_read ms_rev)
end
end TD

set_option Elab.async false
set_option linter.all false
set_option maxRecDepth 100000
set_option maxHeartbeats 2000000
/-! TD7: defs: what a call leaves behind, promises, calls, instances. -/
namespace TD
open PySem PySem.Spec PyProof.Rows L2

mutual
/-- no place of the store from n on is named -/
def clD (n : Nat) : D → Bool
  | .ref k => decide (k < n)
  | .tup xs => clDs n xs
  | .fls xs => clDs n xs
  | .ktp xs => clDs n xs
  | .non => true
  | .bl _ => true
  | .int _ => true
  | .str _ => true
  | .glo _ => true
  | .ty _ => true
def clDs (n : Nat) : List D → Bool
  | [] => true
  | d :: ds => clD n d && clDs n ds
end
def clKV {κ : Type} (n : Nat) : List (κ × D) → Bool
  | [] => true
  | p :: r => clD n p.2 && clKV n r
def clO (n : Nat) : DO → Bool
  | .lst xs => clDs n xs
  | .dct kvs => clKV n kvs
  | .dtt kvs => clKV n kvs
  | .fdt kvs => clKV n kvs
  | .ins _ fs => clKV n fs
  | .dead => true
def clX (n : Nat) (x : Exc) : Bool := match x.fld with
  | none => true
  | some (_, d) => clD n d
section
variable {G : GX} {A t : List Addr} {H : Hp}
mutual
theorem rep_close : ∀ (d : D) {v : V}, Rep G (A ++ t) H d v → clD A.length d = true → Rep G A H d v
  | .non, _, h, _ => h
  | .bl _, _, h, _ => h
  | .int _, _, h, _ => h
  | .str _, _, h, _ => h
  | .glo _, _, h, _ => h
  | .ty _, _, h, _ => h
  | .ref k, _, h, hc => by
    obtain ⟨a, e, r⟩ := h
    rw [List.getElem?_append_left (of_decide_eq_true hc)] at e
    exact ⟨a, e, r⟩
  | .tup xs, _, h, hc => by
    obtain ⟨a, vs, e, h1, h2⟩ := h
    exact ⟨a, vs, e, h1, reps_close xs h2 hc⟩
  | .ktp xs, _, h, hc => by
    obtain ⟨a, vs, e, h1, h2⟩ := h
    exact ⟨a, vs, e, h1, reps_close xs h2 hc⟩
  | .fls xs, _, h, hc => by
    obtain ⟨a, vs, e, h1, h2⟩ := h
    exact ⟨a, vs, e, h1, reps_close xs h2 hc⟩
theorem reps_close : ∀ (ds : List D) {vs : List V}, Reps G (A ++ t) H ds vs → clDs A.length ds = true → Reps G A H ds vs
  | [], _, h, _ => h
  | d :: ds, _, h, hc => by
    obtain ⟨v, r, e, h1, h2⟩ := h
    have hc : (clD A.length d && clDs A.length ds) = true := hc
    rw [Bool.and_eq_true] at hc
    exact ⟨v, r, e, rep_close d h1 hc.1, reps_close ds h2 hc.2⟩
end
mutual
theorem rep_closed : ∀ (d : D) {v : V}, Rep G A H d v → clD A.length d = true
  | .non, _, h => rfl
  | .bl _, _, h => rfl
  | .int _, _, h => rfl
  | .str _, _, h => rfl
  | .glo _, _, h => rfl
  | .ty _, _, h => rfl
  | .ref k, _, h => by
    obtain ⟨a, e, r⟩ := h
    exact decide_eq_true (List.getElem?_eq_some_iff.mp e).1
  | .tup xs, _, h => by
    obtain ⟨a, vs, e, h1, h2⟩ := h
    exact reps_closed xs h2
  | .ktp xs, _, h => by
    obtain ⟨a, vs, e, h1, h2⟩ := h
    exact reps_closed xs h2
  | .fls xs, _, h => by
    obtain ⟨a, vs, e, h1, h2⟩ := h
    exact reps_closed xs h2
theorem reps_closed : ∀ (ds : List D) {vs : List V}, Reps G A H ds vs → clDs A.length ds = true
  | [], _, h => rfl
  | d :: ds, _, h => by
    obtain ⟨v, r, e, h1, h2⟩ := h
    show (clD A.length d && clDs A.length ds) = true
    rw [rep_closed d h1, reps_closed ds h2]
    rfl
end
theorem kv_close {κ : Type} : ∀ {kvs : List (κ × D)} {vs : List (κ × V)}, RepKV G (A ++ t) H kvs vs → clKV A.length kvs = true → RepKV G A H kvs vs
  | _, _, .nil, _ => .nil
  | p :: kvs, q :: vs, .cons r s, hc => by
    have hc : (clD A.length p.2 && clKV A.length kvs) = true := hc
    rw [Bool.and_eq_true] at hc
    exact .cons ⟨r.1, rep_close _ r.2 hc.1⟩ (kv_close s hc.2)
theorem kv_closed {κ : Type} : ∀ {kvs : List (κ × D)} {vs : List (κ × V)}, RepKV G A H kvs vs → clKV A.length kvs = true
  | _, _, .nil => rfl
  | p :: kvs, q :: vs, .cons r s => by
    show (clD A.length p.2 && clKV A.length kvs) = true
    rw [rep_closed _ r.2, kv_closed s]
    rfl
theorem repO_close {o : DO} {a : Addr} (h : RepO G (A ++ t) H o a) (hc : clO A.length o = true) : RepO G A H o a := by
  cases o with
  | lst xs => obtain ⟨vs, e, r⟩ := h; exact ⟨vs, e, reps_close _ r hc⟩
  | dct xs => obtain ⟨vs, e, r⟩ := h; exact ⟨vs, e, kv_close r hc⟩
  | dtt xs => obtain ⟨vs, e, r⟩ := h; exact ⟨vs, e, kv_close r hc⟩
  | fdt xs => obtain ⟨o, vs, e, r⟩ := h; exact ⟨o, vs, e, kv_close r hc⟩
  | ins x fs => obtain ⟨C, dx, vs, h0, e, r⟩ := h; exact ⟨C, dx, vs, h0, e, kv_close r hc⟩
  | dead => exact h
theorem repO_closed {o : DO} {a : Addr} (h : RepO G A H o a) : clO A.length o = true := by
  cases o with
  | lst xs => obtain ⟨vs, e, r⟩ := h; exact reps_closed _ r
  | dct xs => obtain ⟨vs, e, r⟩ := h; exact kv_closed r
  | dtt xs => obtain ⟨vs, e, r⟩ := h; exact kv_closed r
  | fdt xs => obtain ⟨o, vs, e, r⟩ := h; exact kv_closed r
  | ins x fs => obtain ⟨C, dx, vs, h0, e, r⟩ := h; exact kv_closed r
  | dead => rfl
theorem repX_close {x : Exc} {c : Value} {dd : Option Addr} (h : RepX G (A ++ t) H x c dd) (hc : clX A.length x = true) : RepX G A H x c dd := by
  obtain ⟨C, e1, e2, h⟩ := h
  refine ⟨C, e1, e2, ?_⟩
  unfold clX at hc
  cases e : x.fld with
  | none => rw [e] at h; exact h
  | some p =>
    rw [e] at h hc
    obtain ⟨p, v, e3, e4, r⟩ := h
    exact ⟨p, v, e3, e4, rep_close _ r hc⟩
end

/-! ### what is no longer named is forgotten -/
def gcOk (S0 S : Sto) : Prop := S0.length ≤ S.length ∧ ∀ (i : Nat) (o : DO), i < S0.length → S[i]? = some o → S0[i]? = some o ∨ clO S0.length o = true
open Classical in
noncomputable def gc (S0 : Sto) : Res D → Res D
  | .bad => .bad
  | .exc x S => if gcOk S0 S ∧ clX S0.length x = true then .exc x (S.take S0.length) else .exc x S
  | .ok d S => if gcOk S0 S then (if clD S0.length d = true then .ok d (S.take S0.length) else match d with
      | .ref m => match S[m]? with
        | some o => if clO S0.length o = true then .ok (.ref S0.length) (S.take S0.length ++ [o]) else .ok d S
        | none => .ok d S
      | d => .ok d S) else .ok d S
section
variable {G : GX} {W : WX} {σ : L2.St} {A t : List Addr} {H H' : Hp} {S0 S : Sto}
theorem hr_take (h0 : HR G A H S0) (h : HR G (A ++ t) H' S) (ok : gcOk S0 S) : HR G A H' (S.take S0.length) := by
  refine ⟨by rw [List.length_take, Nat.min_eq_left ok.1]; exact h0.len, fun i j a e1 e2 => ?_, fun n o e => ?_⟩
  · have l1 := (List.getElem?_eq_some_iff.mp e1).1
    have l2 := (List.getElem?_eq_some_iff.mp e2).1
    exact h.inj i j a (by rw [List.getElem?_append_left l1]; exact e1) (by rw [List.getElem?_append_left l2]; exact e2)
  · rw [List.getElem?_take] at e
    split at e
    · rename_i hn
      obtain ⟨a, ea, r⟩ := h.obj n o e
      rw [List.getElem?_append_left (by rw [h0.len]; exact hn)] at ea
      refine ⟨a, ea, repO_close r ?_⟩
      rcases ok.2 n o hn e with q | q
      · obtain ⟨b, eb, rb⟩ := h0.obj n o q
        exact repO_closed rb
      · rw [h0.len]
        exact q
    · cases e
theorem gc_post {Q : VK} {r : Res D} (h0 : HR G A H S0) (h : Post G W σ (Rep G) A H Q (gc S0 r)) : Post G W σ (Rep G) A H Q r := by
  cases r with
  | bad => exact h
  | exc x S =>
    intro A' H' c dd g hs' rx
    simp only [gc] at h
    split at h
    · rename_i ok
      obtain ⟨⟨t, rfl⟩, g1, g2⟩ := g
      exact h A H' c dd ⟨⟨[], by simp⟩, g1, g2⟩ (hr_take h0 hs' ok.1) (repX_close rx (by rw [h0.len]; exact ok.2))
    · exact h A' H' c dd g hs' rx
  | ok d S =>
    intro A' H' v g rv hs'
    simp only [gc] at h
    split at h
    · rename_i ok
      split at h
      · rename_i hc
        obtain ⟨⟨t, rfl⟩, g1, g2⟩ := g
        exact h A H' v ⟨⟨[], by simp⟩, g1, g2⟩ (rep_close d rv (by rw [h0.len]; exact hc)) (hr_take h0 hs' ok)
      · rename_i hc
        split at h
        · rename_i m
          split at h
          · rename_i o eo
            split at h
            · rename_i ho
              obtain ⟨⟨t, rfl⟩, g1, g2⟩ := g
              obtain ⟨a, ea, rfl⟩ := rv
              have hm : S0.length ≤ m := Nat.le_of_not_lt fun z => hc (by simp [clD, z])
              have ro := hs'.at ea eo
              have base := hr_take h0 hs' ok
              refine h (A ++ [a]) H' (.ref a) ⟨⟨[a], rfl⟩, g1, g2⟩ ⟨a, ?_, rfl⟩ ⟨?_, fun i j b e1 e2 => ?_, fun n u e => ?_⟩
              · rw [List.getElem?_append_right (by rw [h0.len]; exact Nat.le_refl _), h0.len, Nat.sub_self]
                rfl
              · rw [List.length_append, List.length_append, base.len]
                rfl
              · have look : ∀ (i : Nat) (b : Addr), (A ++ [a])[i]? = some b → ∃ j : Nat, (A ++ t)[j]? = some b ∧ (i < A.length → j = i) ∧ (A.length ≤ i → j = m ∧ i = A.length) := fun i b e => by
                  rw [List.getElem?_append] at e
                  split at e
                  · rename_i hi
                    exact ⟨i, by rw [List.getElem?_append_left hi]; exact e, fun _ => rfl, fun z => by omega⟩
                  · rename_i hi
                    rw [List.getElem?_singleton] at e
                    split at e
                    · cases e
                      exact ⟨m, ea, fun z => absurd z hi, fun _ => ⟨rfl, by omega⟩⟩
                    · cases e
                obtain ⟨i', x1, x2, x3⟩ := look i b e1
                obtain ⟨j', y1, y2, y3⟩ := look j b e2
                have eij := hs'.inj i' j' b x1 y1
                have hA := h0.len
                by_cases hi : i < A.length
                · by_cases hj : j < A.length
                  · rw [← x2 hi, ← y2 hj, eij]
                  · have := y3 (by omega)
                    have := x2 hi
                    omega
                · by_cases hj : j < A.length
                  · have := x3 (by omega)
                    have := y2 hj
                    omega
                  · have := (x3 (by omega)).2
                    have := (y3 (by omega)).2
                    omega
              · have gA : Gr A H' (A ++ [a]) H' := ⟨⟨[a], rfl⟩, fun _ _ z => z, fun _ _ _ z => z⟩
                rw [List.getElem?_append] at e
                split at e
                · obtain ⟨b, eb, rb⟩ := base.obj n u e
                  exact ⟨b, gA.get eb, rb.mono gA rfl⟩
                · rename_i hn
                  rw [List.getElem?_singleton] at e
                  split at e
                  · cases e
                    rename_i hn2
                    have hl : (S.take S0.length).length = S0.length := by rw [List.length_take, Nat.min_eq_left ok.1]
                    rw [hl] at hn hn2
                    have hnn : n = A.length := by
                      have hA := h0.len
                      omega
                    subst hnn
                    refine ⟨a, ?_, ?_⟩
                    · rw [List.getElem?_append_right (Nat.le_refl _), Nat.sub_self]
                      rfl
                    · exact (repO_close ro (by rw [h0.len]; exact ho)).mono gA rfl
                  · cases e
            · exact h A' H' v g rv hs'
          · exact h A' H' v g rv hs'
        · exact h A' H' v g rv hs'
    · exact h A' H' v g rv hs'
end

/-! ### promises -/
abbrev DFn := List D → Sto → Res D
def spD (G : GX) (n : Nat) (F : DFn) : Sp := fun vs H Q E => ∃ A ds S, Reps G A H ds vs ∧ HR G A H S ∧ ds.length = n ∧ Post G (fun c dd _ H' => E c dd H') [] (Rep G) A H Q (F ds S)
def toRes : SR → Res D
  | .nx _ S => .ok .non S
  | .rt d S => .ok d S
  | .exc x _ S => .exc x S
  | _ => .bad
open Classical in
noncomputable def dfun (n N : Nat) (body : FS) : DFn := fun ds S => if ds.length = n then gc S (toRes (body (ds.map some ++ List.replicate (N - n) none) S)) else .bad
abbrev DFO (P : Program) (w : World) (K : PySem.W.Frag) (mg : Str → Option Value) (base : Heap) (k : Nat) (f : Addr) (fd : FuncData) (ps : List Str) (F : DFn) : Prop := FnOk P w K mg base (L2.CX P w) k f fd ps (spD ⟨K, mg⟩ ps.length F)
theorem repE_start {G : GX} {A : List Addr} {H : Hp} {ds : List D} {vs : List V} {N : List Str} {n : Nat} (r : Reps G A H ds vs) (hn : ds.length = n) : RepE G A H (ds.map some ++ List.replicate (N.length - n) none) (L2.start N vs) := by
  have hl := r.len
  unfold L2.start
  refine ⟨by simp [hl, hn], fun i d e => ?_⟩
  rw [List.getElem?_append] at e
  split at e
  · rename_i hi
    rw [List.length_map] at hi
    rw [List.getElem?_map, List.getElem?_eq_getElem hi] at e
    simp only [Option.map_some, Option.some.injEq] at e
    obtain ⟨v, ev, rv⟩ := r.get (List.getElem?_eq_getElem hi)
    refine ⟨v, ?_, by rw [← e]; exact rv⟩
    rw [List.getElem?_append_left (by rw [List.length_map, hl]; exact hi), List.getElem?_map, ev]
    rfl
  · rw [List.getElem?_replicate] at e
    split at e <;> simp at e
section
variable {P : Program} {w : World} {K : PySem.W.Frag} {mg : Str → Option Value} {base : Heap}
/-- a def: its body's function -/
theorem fn_def {x qual : Str} {st : Stmt} {f : Addr} {fd : FuncData} {N ps : List Str} {k : Nat} {body : FS} (F : Fun K x qual st f fd) (S : FnScope N ps (defScope st))
    (hb : ∀ (cdv : Value) (A : Around) (outer : List PySem.Env) (s : Shared) (H : Hp) (E : XK), Room k (A.deeper (envOfC qual (defScope st) s.heap.objs.size f cdv)) → DSs (cxOf (L2.CX P w) P w K mg base N qual (defScope st) f cdv A outer s H E) (fun c dd _ H' => E c dd H') (defBody st) body) :
    DFO P w K mg base (k + 1) f fd ps (dfun ps.length N.length body) := F.okX S (fun vs H Q E h => by
  obtain ⟨A, ds, S, r, _, hn, _⟩ := h
  rw [r.len, hn]) fun cdv A outer s H vs Q E hr h => by
  refine ⟨_, hb cdv A outer s H E hr, ?_⟩
  obtain ⟨A, ds, S, r, hs, hn, hp⟩ := h
  refine ⟨A, _, S, repE_start (N := N) r hn, hs, ?_⟩
  unfold dfun at hp
  rw [if_pos hn] at hp
  have hp := gc_post hs hp
  cases e : body (ds.map some ++ List.replicate (N.length - ps.length) none) S with
  | bad => rw [e] at hp; exact hp
  | nx ρ S' => rw [e] at hp; exact fun A' H' σ' g _ hs' => hp A' H' .non g rfl hs'
  | rt d S' => rw [e] at hp; exact hp
  | exc x ρ S' => rw [e] at hp; exact fun A' H' σ' c dd g _ hs' rx => hp A' H' c dd g hs' rx
  | bk ρ S' => rw [e] at hp; exact hp.elim
  | ct ρ S' => rw [e] at hp; exact hp.elim
theorem DFO.mono {j k : Nat} {f : Addr} {fd : FuncData} {ps : List Str} {F : DFn} (h : DFO P w K mg base j f fd ps F) (hk : j ≤ k) : DFO P w K mg base k f fd ps F := FnOk.mono h hk
end

/-! ### calls -/
section
variable {X : Cx} {W : WX} {k : Nat} {f : Addr} {fd : FuncData} {ps : List Str} {F : DFn} {x : Str} {p pos apos : Pos} {e : Expr} {es : List Expr} {fr : FA}
theorem post_WE {G : GX} {σ : L2.St} {A : List Addr} {H : Hp} {Q : VK} {r : Res D} (h : Post G W σ (Rep G) A H Q r) : Post G (fun c dd _ H' => WE W σ c dd H') [] (Rep G) A H Q r := by
  cases r <;> exact h
theorem de_call (FO : DFO X.prog X.w X.K X.mg X.base k f fd ps F) (tk : Takes X W) (hr : Room k X.A) (hm : X.mg x = some (.ref f)) (hk : PySem.W.keepIn X.K (.ref f) = true) (hb : Binds X.K fd ps []) (ha : DA X W (e :: es) fr) (hl : (e :: es).length = ps.length := by rfl) (hg : Gl X x := by rfl)
    (hdb : (x == ("__debug__" : Str)) = false := by decide) (he : starEach (e :: es) X.env = (false, eval e X.env) :: starEach es X.env := by rfl) (hpl : (backTo pos (starEach es X.env)).any (·.1) = false := by rfl) (hn : ∀ ρ S ds S', fr ρ S = .ok ds S' → ds.length = (e :: es).length) :
    DE X W (.Call (.Name x p) (e :: es) [] pos) (dCB (fun S ds => F ds S) fr) := (pe_callS FO hr hg hm hk hb (fun σ => passAt tk σ) ha hdb he hpl).to fun σ H Q ⟨A, ρ, S, hv, hs, h⟩ => by
  unfold dCB at h
  refine ⟨A, ρ, S, hv, hs, ?_⟩
  cases ee : fr ρ S with
  | bad => rw [ee] at h; exact h
  | exc y S1 => rw [ee] at h; exact h
  | ok ds S1 =>
    rw [ee] at h
    exact fun A' H' vs g r hs' => ⟨A', ds, S1, r, hs', (hn ρ S ds S1 ee).trans hl, post_WE (Post.grow g h)⟩
theorem dNil_len : ∀ ρ S ds S', dNil ρ S = .ok ds S' → ds.length = 0 := fun ρ S ds S' h => by
  unfold dNil at h
  cases h
  rfl
theorem dCons_len {a : FE} {r : FA} {n : Nat} (h : ∀ ρ S ds S', r ρ S = .ok ds S' → ds.length = n) : ∀ ρ S ds S', dCons a r ρ S = .ok ds S' → ds.length = n + 1 := fun ρ S ds S' e => by
  unfold dCons at e
  cases e1 : a ρ S with
  | bad => rw [e1] at e; cases e
  | exc x S1 => rw [e1] at e; cases e
  | ok d S1 =>
    rw [e1, Res.bind_ok] at e
    cases e2 : r ρ S1 with
    | bad => rw [e2] at e; cases e
    | exc x S1 => rw [e2] at e; cases e
    | ok es S2 =>
      rw [e2, Res.bind_ok] at e
      cases e
      rw [List.length_cons, h ρ S1 es _ e2]
/-- f(..) with defaults behind -/
theorem de_callD {dd : List D} {dvs : List V} {dus : List Value} (FO : DFO X.prog X.w X.K X.mg X.base k f fd ps F) (tk : Takes X W) (hr : Room k X.A) (hm : X.mg x = some (.ref f)) (hk : PySem.W.keepIn X.K (.ref f) = true) (hb : Binds X.K fd ps dus) (hd : Vals dvs dus) (hrep : ∀ A H, Reps (gx X) A H dd dvs) (ha : DA X W (e :: es) fr)
    (hl : (e :: es).length + dd.length = ps.length := by rfl) (hg : Gl X x := by rfl)
    (hdb : (x == ("__debug__" : Str)) = false := by decide) (he : starEach (e :: es) X.env = (false, eval e X.env) :: starEach es X.env := by rfl) (hpl : (backTo pos (starEach es X.env)).any (·.1) = false := by rfl) (hn : ∀ ρ S ds S', fr ρ S = .ok ds S' → ds.length = (e :: es).length) :
    DE X W (.Call (.Name x p) (e :: es) [] pos) (dCB (fun S ds => F (ds ++ dd) S) fr) := (pe_callSD FO hr hg hm hk hb hd (fun σ => passAt tk σ) ha hdb he hpl).to fun σ H Q ⟨A, ρ, S, hv, hs, h⟩ => by
  unfold dCB at h
  refine ⟨A, ρ, S, hv, hs, ?_⟩
  cases ee : fr ρ S with
  | bad => rw [ee] at h; exact h
  | exc y S1 => rw [ee] at h; exact h
  | ok ds S1 =>
    rw [ee] at h
    exact fun A' H' vs g r hs' => ⟨A', ds ++ dd, S1, r.append (hrep _ _), hs', by rw [List.length_append, hn ρ S ds S1 ee]; exact hl, post_WE (Post.grow g h)⟩
end
end TD

set_option Elab.async false
set_option linter.all false
set_option maxRecDepth 100000
set_option maxHeartbeats 2000000
/-! TD8: zip of a text and a tuple, comprehensions of dicts, instances, methods of own classes. -/
namespace TD
open PySem PySem.Spec PyProof.Rows L2

/-! ### zip(text, tuple) -/
def ItzS (K : PySem.W.Frag) (x : Str) (b : Addr) : It :=
  ⟨fun i H => i < x.cps.size ∧ ∃ (ys : List V) (y : V), SqT K H b ys ∧ ys[i]? = some y,
    fun i H v H' => ∃ T c y, v = .ref T ∧ H T = none ∧ H' = upd H T (.tup [.str ⟨#[c]⟩, y]) ∧ x.cps[i]? = some c ∧ ∀ ys, SqT K H b ys → ys[i]? = some y,
    fun i H => ∃ ys : List V, SqT K H b ys ∧ i = min x.cps.size ys.length⟩
theorem turn_zipS {P : Program} {w : World} {K : PySem.W.Frag} {elts : List Expr} {kk : Nat} {tpos : Pos} {x : Str} {t : Tok} {b z TI TO i1 i2 : Addr} (D : ZipSep2 z TI TO i1 i2 [i1] [i2, b]) (hne : b ≠ i2) :
    Turn P w K (.Tuple elts kk tpos) (ItzS K x b) [z, TI, TO, i1, i2] z (fun i h => IsZip h z TI TO .none ∧ IsTupOf2 h TI (.ref i1) (.ref i2) ∧ (∃ a1 a2, IsTupOf2 h TO a1 a2) ∧ h.IsStrIter i1 (strIterType x) x t i ∧ h.IsTupleIter i2 b i) where
  mem := by simp
  obj := fun i h st c hc => by
    obtain ⟨hz, hTI, ⟨x, y, hTO⟩, ⟨o1, e1, _, d1⟩, ⟨o2, e2, _, d2⟩⟩ := st
    have e' : c = z ∨ c = TI ∨ c = TO ∨ c = i1 ∨ c = i2 := by simpa using hc
    rcases e' with q | q | q | q | q <;> subst q
    · exact ⟨_, hz, fun v q => nomatch q⟩
    · exact ⟨_, hTI, fun v q => nomatch q⟩
    · exact ⟨_, hTO, fun v q => nomatch q⟩
    · exact ⟨o1, e1, fun v q => by rw [d1] at q; cases q⟩
    · exact ⟨o2, e2, fun v q => by rw [d2] at q; cases q⟩
  keep := fun i h h' st k => by
    obtain ⟨hz, hTI, ⟨x, y, hTO⟩, h1, h2⟩ := st
    exact ⟨k z (by simp) _ hz, k TI (by simp) _ hTI, ⟨x, y, k TO (by simp) _ hTO⟩, (by
      obtain ⟨o, e, c, d⟩ := h1
      exact ⟨o, k i1 (by simp) o e, c, d⟩), h2.at fun o q => k i2 (by simp) o q⟩
  item := by
    intro X hP hw hK hc i pins s σ H E I hf st hg
    subst hP hw hK
    obtain ⟨hix, ys, y, hqy, hy⟩ := hg
    obtain ⟨its, rv, p, _⟩ := I.tuple hqy
    obtain ⟨u2, hu2, ru2⟩ := rv.get hy
    have hl := rv.length
    have hiy : i < its.toArray.size := by
      have := (List.getElem?_eq_some_iff.mp hu2).1
      simpa using this
    have hh : X.A.in1.handled = none := I.ok.hd hc
    have W := GoesN.zip2 (prog := X.prog) (w := X.w) (A := X.A) (elts := elts) (x1 := kk) (pos := tpos) D (Draws.text hh i1 x t) (Draws.tuple hh i2 b hne its.toArray)
    obtain ⟨hz, hTI, hTO, h1, h2⟩ := st
    refine W.goes i s _ E (Nat.lt_min.mpr ⟨hix, hiy⟩) ⟨hz, hTI, hTO, h1, h2, p⟩ fun v h' tk hY st' hk htk => ?_
    obtain ⟨T, u, w2, rfl, hnew, ⟨c, tc, hc1, rfl⟩, hw2, hT⟩ := hY
    have e2 : w2 = u2 := by
      rw [List.getElem?_toArray] at hw2
      rw [hu2] at hw2
      exact (Option.some.inj hw2).symm
    subst e2
    obtain ⟨hz', hTI', hTO', h1', h2', _⟩ := st'
    have new : ObjOk X.prog X.w (upd H T (.tup [.str ⟨#[c]⟩, y])) h' T (.tup [.str ⟨#[c]⟩, y]) :=
      ⟨by show 2 ≤ sizeLine; decide, [.str ⟨#[c]⟩ tc, w2], .cons ⟨tc, rfl⟩ (.cons ru2 .nil), hT⟩
    have I1 : Inv X pins σ (upd H T (.tup [.str ⟨#[c]⟩, y])) { s with heap := h', toks := tk } :=
      I.turnedNew (t' := tk) (ch := [z, TI, TO, i1, i2]) (fun c o hb q => hk c o (fun q' => hb (by
        have : c = z ∨ c = TO ∨ c = i1 ∨ c = i2 := by simpa using q'
        rcases this with q | q | q | q <;> simp [q])) q) hf hnew new
    refine ⟨.ref T, _, I1, rfl, ⟨T, c, y, rfl, I.hok.fresh hnew, rfl, hc1, fun l hl => by rw [I.tuple_inj hl hqy]; exact hy⟩, ⟨hz', hTI', hTO', h1', h2'⟩, fun c' hcm => ?_⟩
    have hlt : c' < s.heap.objs.size := by
      have e' : c' = z ∨ c' = TI ∨ c' = TO ∨ c' = i1 ∨ c' = i2 := by simpa using hcm
      obtain ⟨a1, a2, hTO⟩ := hTO
      rcases e' with q | q | q | q | q <;> subst q
      · exact Heap.lt_size hz
      · exact Heap.lt_size hTI
      · exact Heap.lt_size hTO
      · obtain ⟨_, e1, _⟩ := h1; exact Heap.lt_size e1
      · obtain ⟨_, e1, _⟩ := h2; exact Heap.lt_size e1
    rw [upd_ne (Nat.ne_of_lt (Nat.lt_of_lt_of_le hlt hnew))]
    exact (hf c' hcm).1
  done := by
    intro X hP hw hK hc i pins s σ H E I hf st hg
    subst hP hw hK
    obtain ⟨ys, hqy, hend⟩ := hg
    obtain ⟨its, rv, p, _⟩ := I.tuple hqy
    have hl := rv.length
    have hh : X.A.in1.handled = none := I.ok.hd hc
    have W := GoesN.zip2 (prog := X.prog) (w := X.w) (A := X.A) (elts := elts) (x1 := kk) (pos := tpos) D (Draws.text hh i1 x t) (Draws.tuple hh i2 b hne its.toArray)
    obtain ⟨hz, hTI, hTO, h1, h2⟩ := st
    have hn : i = min x.cps.size its.toArray.size := by
      have : its.toArray.size = ys.length := by simp [hl]
      rw [this]
      exact hend
    subst hn
    exact W.stops s (fun s1 => Inv X pins σ H s1) E ⟨hz, hTI, hTO, h1, h2, p⟩ fun h' tk hk htk => I.turnedL (t' := tk) (ch := [z, TI, TO, i1, i2]) (fun c o hb q => hk c o (fun q' => hb (by
        have : c = z ∨ c = TO ∨ c = i1 ∨ c = i2 := by simpa using q'
        rcases this with q | q | q | q <;> simp [q])) q) hf
  self := fun A i s Q E st h => wpAny_pyIter_zip st.1 h
def iZipS (K : PySem.W.Frag) (ta : TA) : TI := fun σ H R => ta σ H fun vs H1 => ∃ x b ys, vs = [.str x, .ref b] ∧ SqT K H1 b ys ∧ R (ItzS K x b) H1
theorem pi_zipS {X : Cx} {e e2 : Expr} {ta : TA} {p pos tpos : Pos} {elts : List Expr} {kk : Nat} (hg : Gl X "zip") (hm : X.mg "zip" = none) (ha : PA X [e, e2] ta)
    (hs : starEach [e, e2] X.env = (false, eval e X.env) :: starEach [e2] X.env := by rfl) (hpl : (backTo pos (starEach [e2] X.env)).any (·.1) = false := by rfl) :
    PI X (.Tuple elts kk tpos) (.Call (.Name "zip" p) [e, e2] [] pos) (iZipS X.K ta) := by
  refine ⟨fun pins s σ H R I h => ?_⟩
  refine Call_ (ld_blt I hg hm PyProof.Rows.boot_zip (PyProof.Rows.callWith_type1 (thn (ha.run pos pins s σ H _ I h) fun us s1 ⟨vs, H1, I1, r1, q1⟩ => ?_) hs hpl))
  obtain ⟨x, b, ys, ex, hq, q⟩ := q1
  subst ex
  cases r1 with
  | cons r rr =>
    cases rr with
    | cons r' rr =>
      cases rr
      obtain ⟨tk, rfl⟩ := r
      cases r'
      obtain ⟨its, rv, p1, _⟩ := I1.tuple hq
      have hb : b < s1.heap.objs.size := p1.lt
      refine zip_begins2 (begins_text x tk) (begins_tuple b its.toArray) trivial p1 fun h' hz hTI hTO h1 h2 hsz hk => wpAny_pyIter_zip hz ?_
      have I2 : Inv X pins σ H1 { s1 with heap := h' } := I1.kept (t' := s1.toks) hk
      refine ⟨s1.heap.objs.size + 4, [s1.heap.objs.size + 4, s1.heap.objs.size + 2, s1.heap.objs.size + 3, s1.heap.objs.size, s1.heap.objs.size + 1], _, _, H1, rfl, I2, turn_zipS (t := tk) (zip_sep2 (fp1 := []) (fp2 := [b]) (fun _ z => nomatch z) (fun c hc => by
        have : c = b := by simpa using hc
        rw [this]
        exact hb)) (Nat.ne_of_lt (Nat.lt_succ_of_lt hb)), ⟨hz, hTI, ⟨_, _, hTO⟩, ⟨_, h1, rfl, rfl⟩, ⟨_, h2, rfl, rfl⟩⟩, fun c hcm => ?_, q⟩
      have e' : c = s1.heap.objs.size + 4 ∨ c = s1.heap.objs.size + 2 ∨ c = s1.heap.objs.size + 3 ∨ c = s1.heap.objs.size ∨ c = s1.heap.objs.size + 1 := by simpa using hcm
      have hle : s1.heap.objs.size ≤ c := by
        rcases e' with z | z | z | z | z <;> rw [z] <;> first | exact Nat.le_add_right _ _ | exact Nat.le_refl _
      exact I1.fpOk hle (I1.hok.fresh hle)
/-- pairs of two lists -/
def pairsD : List D → List D → List D
  | x :: xs, y :: ys => .tup [x, y] :: pairsD xs ys
  | _, _ => []
theorem pairsD_len : ∀ xs ys : List D, (pairsD xs ys).length = min xs.length ys.length
  | [], _ => by simp [pairsD]
  | _ :: _, [] => by simp [pairsD]
  | x :: xs, y :: ys => by
    rw [pairsD, List.length_cons, pairsD_len xs ys, List.length_cons, List.length_cons]
    omega
theorem pairsD_get : ∀ {xs ys : List D} {i : Nat} {x y : D}, xs[i]? = some x → ys[i]? = some y → (pairsD xs ys)[i]? = some (.tup [x, y])
  | [], _, _, _, _, h, _ => by simp at h
  | _ :: _, [], _, _, _, _, h => by simp at h
  | x :: xs, y :: ys, 0, _, _, h1, h2 => by
    simp at h1 h2
    subst h1 h2
    rfl
  | x :: xs, y :: ys, i + 1, _, _, h1, h2 => by
    rw [pairsD, List.getElem?_cons_succ]
    exact pairsD_get (by simpa using h1) (by simpa using h2)
def iZipST (r : FA) : FI := fun ρ S => (r ρ S).bind fun ds S1 => match ds with
  | [.str z, y] => match tupOf y with
    | some ys => .ok (pairsD (signs z) ys, none) S1
    | none => .bad
  | _ => .bad
section
variable {X : Cx} {W : WX} {e e2 : Expr} {fr : FA} {p pos tpos : Pos} {elts : List Expr} {kk : Nat}
theorem signs_get {z : Str} {i c : Nat} (h : z.cps[i]? = some c) : (signs z)[i]? = some (.str ⟨#[c]⟩) := by
  unfold signs
  rw [List.getElem?_map, Array.getElem?_toList, h]
  rfl
theorem signs_len (z : Str) : (signs z).length = z.cps.size := by simp [signs]
theorem di_zipS (hm : X.mg "zip" = none) (ha : DA X W [e, e2] fr) (hg : Gl X "zip" := by rfl) (hs : starEach [e, e2] X.env = (false, eval e X.env) :: starEach [e2] X.env := by rfl) (hpl : (backTo pos (starEach [e2] X.env)).any (·.1) = false := by rfl) :
    DI X W (.Tuple elts kk tpos) (.Call (.Name "zip" p) [e, e2] [] pos) (iZipST fr) := (pi_zipS hg hm ha hs hpl).to fun σ H R ⟨A, ρ, S, he, hs, h⟩ => can_bind he hs h fun ds S1 A1 H1 vs g1 r1 hs1 he1 h1 => by
  split at h1
  · rename_i z y
    split at h1
    · rename_i ys ey
      obtain ⟨v, t, rfl, r2, v2, t2, rfl, r3, r4⟩ := r1
      cases r2; cases r4
      obtain ⟨b, vs, rfl, k1, k2⟩ := tupOf_at r3 ey
      refine ⟨z, b, vs, rfl, k1, Post.val h1 ?_ hs1⟩
      have k : ∀ A' H', Gr A1 H1 A' H' → ∃ vs, SqT (gx X).K H' b vs ∧ Reps (gx X) A' H' ys vs := fun A' H' g => by
        obtain ⟨b', vs, e, q1, q2⟩ := tupOf_at (r3.mono g) ey
        cases e
        exact ⟨vs, q1, q2⟩
      refine ⟨fun A' H' S' i g hs' _ hi => ?_, fun A' H' S' g hs' _ => ?_, fun A' H' S' i x H'' g hs' _ hi y => ?_⟩
      · rw [pairsD_len, signs_len] at hi
        obtain ⟨vs, q1, q2⟩ := k A' H' g
        obtain ⟨u, eu, _⟩ := q2.get (List.getElem?_eq_getElem (show i < ys.length by omega))
        exact ⟨by omega, vs, u, q1, eu⟩
      · obtain ⟨vs, q1, q2⟩ := k A' H' g
        exact ⟨vs, q1, by rw [pairsD_len, signs_len, q2.len]⟩
      · obtain ⟨vs, q1, q2⟩ := k A' H' g
        obtain ⟨T, c, u, rfl, hT, rfl, hc, hu⟩ := y
        obtain ⟨d, ed, rd⟩ := q2.nth (hu vs q1)
        exact ⟨_, pairsD_get (signs_get hc) ed, Gr.new hT, hs'.new hT, T, _, rfl, upd_same, Reps.cons rfl (Reps.cons (rd.mono (Gr.new hT)) Reps.nil)⟩
    · exact h1.elim
  · exact h1.elim
end

/-! ### {k: v for ..} -/
open Classical in
noncomputable def dcL (p : List D × Option (Nat × List D)) (bd : FG) (t : FT) (ek ev : FE) (n : Nat) (ρ0 : Env) : List D → Sto → Res D
  | [], S => if guardOk p S then .ok (.ref n) S else .bad
  | d :: ds, S => if guardOk p S then match bd d ρ0 with
    | some ρ1 => match t ρ1 S with
      | .ok b S1 => if b = true then match ek ρ1 S1 with
        | .ok y S2 => match ev ρ1 S2 with
          | .ok z S3 => match S3[n]?, keyOf y with
            | some (.dct acc), some k => if acc.length < 1000000 then dcL p bd t ek ev n ρ0 ds (S3.set n (.dct (putD acc k z))) else .bad
            | _, _ => .bad
          | _ => .bad
        | _ => .bad
        else dcL p bd t ek ev n ρ0 ds S1
      | _ => .bad
    | none => .bad
    else .bad
noncomputable def dDc (fi : FI) (bd : FG) (t : FT) (ek ev : FE) (own : List Nat) : FE := fun ρ S => (fi ρ S).bind fun p S1 => dcL p bd t ek ev S1.length (wipeD ρ own) p.1 (S1 ++ [.dct []])
theorem dcL_guard {G : GX} {W : WX} {σ : L2.St} {A : List Addr} {H : Hp} {Q : VK} {p : List D × Option (Nat × List D)} {bd : FG} {t : FT} {ek ev : FE} {n : Nat} {ρ0 : Env} {ds : List D} {S : Sto} (h : Post G W σ (Rep G) A H Q (dcL p bd t ek ev n ρ0 ds S)) : guardOk p S := by
  cases ds with
  | nil =>
    unfold dcL at h
    split at h
    · assumption
    · exact h.elim
  | cons d ds =>
    unfold dcL at h
    split at h
    · assumption
    · exact h.elim
section
variable {X : Cx} {W : WX} {tg iter kx vx : Expr} {ifs : List Expr} {scope : Scope} {own : List (Str × Nat)} {pos : Pos} {fi : FI} {is : List Nat} {bd : FG} {ft : FT} {fk fv : FE}
theorem dc_read (hs : ∀ i ∈ is, i ∈ own.map (·.2)) : ∀ σ H Q, cE (gx X) W (dDc fi bd ft fk fv (own.map (·.2))) σ H Q → tDc (cI (gx X) W fi) (cG (gx X) is bd) (cT (gx X) WF ft) (cE (gx X) WF fk) (cE (gx X) WF fv) (own.map (·.2)) σ H Q := fun σ H Q ⟨A, ρ, S, he, hs0, h⟩ => can_bind he hs0 h fun p S1 A1 H1 J g1 r1 hs1 he1 h1 => by
  intro L hL
  have hn : (A1 ++ [L])[S1.length]? = some L := by
    rw [List.getElem?_append_right (by rw [hs1.len]; exact Nat.le_refl _), hs1.len, Nat.sub_self]
    rfl
  let Pv : Nat → Hp → Prop := fun i H' => ∃ A' S', Gr (A1 ++ [L]) (upd H1 L (.dK [])) A' H' ∧ HR (gx X) A' H' S' ∧ Post (gx X) W σ (Rep (gx X)) A' H' Q (dcL p bd ft fk fv S1.length (wipeD ρ (own.map (·.2))) (p.1.drop i) S')
  have gp : Gr A1 H1 (A1 ++ [L]) (upd H1 L (.dK [])) := Gr.push hL
  refine ⟨fun i m H' => m = p.1.length - i ∧ i ≤ p.1.length ∧ Pv i H', ⟨p.1.length, by simp, Nat.zero_le _, A1 ++ [L], S1 ++ [.dct []], Gr.refl _ _, hs1.push (u := .dct []) hL ⟨[], upd_same, .nil⟩, ?_⟩, ?_⟩
  · rw [List.drop_zero]
    exact Post.grow gp h1
  rintro i m H' ⟨rfl, hi', A', S', g, hs', h'⟩
  by_cases hi : i < p.1.length
  · refine .inr ⟨r1.go A' H' S' i (gp.trans g) hs' (dcL_guard h') hi, Pv (i + 1), fun H2 p2 => ⟨p.1.length - (i + 1), by omega, rfl, hi, p2⟩, fun x H'' y => ?_⟩
    obtain ⟨d, ed, g2, hs2, rd⟩ := r1.yld A' H' S' i x H'' (gp.trans g) hs' (dcL_guard h') hi y
    have hdrop : p.1.drop i = d :: p.1.drop (i + 1) := by
      rw [List.drop_eq_getElem_cons hi]
      congr 1
      rw [List.getElem?_eq_getElem hi] at ed
      exact Option.some.inj ed
    rw [hdrop] at h'
    unfold dcL at h'
    have he2 : RepE (gx X) A' H'' (wipeD ρ (own.map (·.2))) (wipe σ (own.map (·.2))) := ((he1.mono gp).mono (g.trans g2)).wipe _
    split at h'
    · split at h'
      · rename_i ρ1 hbd
        refine ⟨A', _, d, ρ1, rd, he2, hbd, fun σ1 he1' st => ⟨wipe_sets st hs, ?_⟩⟩
        have h' := Post.grow g2 h'
        refine ⟨A', ρ1, S', he1', hs2, ?_⟩
        cases et : ft ρ1 S' with
        | bad => rw [et] at h'; exact h'
        | exc x S2 => rw [et] at h'; exact h'.elim
        | ok b S2 =>
          rw [et] at h'
          intro A3 H3 c g3 rb hs3
          cases rb
          have h' := Post.grow g3 h'
          dsimp only at h'
          cases b with
          | false =>
            rw [if_neg Bool.false_ne_true] at h' ⊢
            exact ⟨A3, S2, (g.trans g2).trans g3, hs3, h'⟩
          | true =>
            rw [if_pos rfl] at h' ⊢
            refine ⟨A3, ρ1, S2, he1'.mono g3, hs3, ?_⟩
            cases ee : fk ρ1 S2 with
            | bad => rw [ee] at h'; exact h'
            | exc x S2 => rw [ee] at h'; exact h'.elim
            | ok yd S4 =>
              rw [ee] at h'
              intro A4 H4 yv g4 ry hs4
              have h' := Post.grow g4 h'
              refine ⟨A4, ρ1, S4, (he1'.mono g3).mono g4, hs4, ?_⟩
              dsimp only at h'
              cases e3 : fv ρ1 S4 with
              | bad => rw [e3] at h'; exact h'
              | exc x S2 => rw [e3] at h'; exact h'.elim
              | ok zd S5 =>
                rw [e3] at h'
                intro A5 H5 zv g5 rz hs5
                have h' := Post.grow g5 h'
                dsimp only at h'
                split at h'
                · rename_i acc k eacc ek
                  split at h'
                  · rename_i hlen
                    have gg := (((g.trans g2).trans g3).trans g4).trans g5
                    obtain ⟨vs, hv, rv⟩ := hs5.at (gg.get hn) eacc
                    have gput : Gr A5 H5 A5 (upd H5 L (.dK (putK vs k zv))) := Gr.put hv (fun _ z => nomatch z) (fun _ _ z => nomatch z)
                    refine ⟨vs, k, keyOf_rep ry ek, hv, Nat.lt_of_lt_of_le (by rw [← Paired.length rv]; exact hlen) (by decide), A5, _, gg.trans gput, hs5.put (w := .dct (putD acc k zd)) (gg.get hn) hv (fun _ z => nomatch z) (fun _ _ z => nomatch z) ⟨_, upd_same, (putD_rep rv rz).mono gput⟩, Post.grow gput h'⟩
                  · exact h'.elim
                · exact h'.elim
      · exact h'.elim
    · exact h'.elim
  · have e : i = p.1.length := by omega
    subst e
    refine .inl ⟨r1.stop A' H' S' (gp.trans g) hs' (dcL_guard h'), ?_⟩
    rw [List.drop_length] at h'
    unfold dcL at h'
    split at h'
    · exact Post.val h' ⟨L, g.get hn, rfl⟩ hs'
    · exact h'.elim
theorem de_dc (hc : X.calm = true) (hN : X.N.Nodup) (hi : DI X W tg iter fi) (ok : BlkOk X.N X.env.scope scope own)
    (hg : ∀ (s : Shared) (H : Hp) (C : Addr) (cl : List (Str × Addr)) (fp : List Addr), DG (X.blk s H scope (compEnvC scope cl C X.env) fp) tg is bd) (ht : ∀ (s : Shared) (H : Hp) (C : Addr) (cl : List (Str × Addr)) (fp : List Addr), DTs (X.blk s H scope (compEnvC scope cl C X.env) fp) WF ifs ft)
    (hk : ∀ (s : Shared) (H : Hp) (C : Addr) (cl : List (Str × Addr)) (fp : List Addr), DE (X.blk s H scope (compEnvC scope cl C X.env) fp) WF kx fk)
    (he : ∀ (s : Shared) (H : Hp) (C : Addr) (cl : List (Str × Addr)) (fp : List Addr), DE (X.blk s H scope (compEnvC scope cl C X.env) fp) WF vx fv) (hin : ∀ i ∈ is, i ∈ own.map (·.2) := by decide) (hs : ∀ x, foldedSetIterable iter X.env x = pure x := by intro _; rfl) :
    DE X W (.DictComp kx vx [⟨tg, iter, ifs, 0⟩] scope pos) (dDc fi bd ft fk fv (own.map (·.2))) := (pe_dc hc hN hi ok hg ht hk he hs).to (dc_read hin)
end

/-! ### instances and methods of own classes -/
def dMake (cn : Str) (F : DFn) (r : FA) : FE := fun ρ S => (r ρ S).bind fun ds S1 => (F (.ref S1.length :: ds) (S1 ++ [.ins cn []])).bind fun d S2 => match d with
  | .non => .ok (.ref S1.length) S2
  | _ => .bad
def dMeth (cn m : Str) (F : DFn) (o : FE) (r : FA) : FE := fun ρ S => (o ρ S).bind fun x S1 => match insOf S1 cn x with
  | some (_, fs) => match fs.lookup m with
    | none => (r ρ S1).bind fun ds S2 => F (x :: ds) S2
    | some _ => .bad
  | none => .bad
theorem lookup_none {G : GX} {A : List Addr} {H : Hp} {f : Str} : ∀ {fs : List (Str × D)} {vs : List (Str × V)}, RepKV G A H fs vs → fs.lookup f = none → vs.lookup f = none
  | _, _, .nil, h => rfl
  | (k, d1) :: fs, (k2, v) :: vs, .cons r t, h => by
    obtain ⟨e, r⟩ := r
    dsimp only at e r
    subst e
    rw [List.lookup_cons] at h ⊢
    cases hb : f == k with
    | true => rw [hb] at h; cases h
    | false =>
      rw [hb] at h
      exact lookup_none t h
section
variable {X : Cx} {W : WX} {k : Nat} {f C : Addr} {fd : FuncData} {ps : List Str} {F : DFn} {x cn m : Str} {p pos apos : Pos} {e o : Expr} {es : List Expr} {fr : FA} {fo : FE}
theorem passW (tk : Takes X W) (hW : ∀ c d σ H, W c d [] H → W c d σ H) : Passes (L2.CX X.prog X.w) X (fun c d H => W c d [] H) := passes_call tk hW
theorem post_W0 {G : GX} {σ : L2.St} {A : List Addr} {H : Hp} {Q : VK} {r : Res D} (hW : ∀ c d σ H, W c d σ H → W c d [] H) (h : Post G W σ (Rep G) A H Q r) : Post G (fun c dd _ H' => W c dd [] H') [] (Rep G) A H Q r := by
  cases r with
  | exc x S => exact fun A' H' c dd g hs rx => hW _ _ σ _ (h A' H' c dd g hs rx)
  | bad => exact h
  | ok d S => exact h
theorem de_make (M : Mk X.K C f) (FO : DFO X.prog X.w X.K X.mg X.base k f fd ps F) (tk : Takes X W) (hr : Room (k + 1) X.A) (hm : X.mg x = some (.ref C)) (hb : Binds X.K fd ps []) (ha : DA X W (e :: es) fr) (hW : ∀ c d σ H, W c d [] H → W c d σ H := by intro _ _ _ _ h; exact h) (hW' : ∀ c d σ H, W c d σ H → W c d [] H := by intro _ _ _ _ h; exact h)
    (hl : (e :: es).length + 1 = ps.length := by rfl) (hg : Gl X x := by rfl) (hdb : (x == ("__debug__" : Str)) = false := by decide) (he : starEach (e :: es) X.env = (false, eval e X.env) :: starEach es X.env := by rfl) (hpl : (backTo pos (starEach es X.env)).any (·.1) = false := by rfl) (hn : ∀ ρ S ds S', fr ρ S = .ok ds S' → ds.length = (e :: es).length) :
    DE X W (.Call (.Name x p) (e :: es) [] pos) (dMake x F fr) := (pe_make M FO hr hg hm hb .nil (passW tk hW) ha hdb he hpl).to fun σ H Q ⟨A, ρ, S, hv, hs, h⟩ => by
  refine ⟨A, ρ, S, hv, hs, ?_⟩
  unfold dMake at h
  cases ee : fr ρ S with
  | bad => rw [ee] at h; exact h
  | exc y S1 => rw [ee] at h; exact h
  | ok ds S1 =>
    rw [ee] at h
    intro A1 H1 vs g1 r1 hs1 xa dx hx hdx hne
    have h := Post.grow g1 h
    have hs2 : HR (gx X) A1 (upd H1 dx (.own xa)) S1 := hs1.new hdx
    have hx2 : (upd H1 dx (.own xa)) xa = none := by rw [upd_ne hne.symm]; exact hx
    have gA : Gr A1 H1 (A1 ++ [xa]) (upd (upd H1 dx (.own xa)) xa (.ins C dx [])) := (Gr.new hdx).trans (Gr.push hx2)
    have hn1 : (A1 ++ [xa])[S1.length]? = some xa := by
      rw [List.getElem?_append_right (by rw [hs1.len]; exact Nat.le_refl _), hs1.len, Nat.sub_self]
      rfl
    have hs3 : HR (gx X) (A1 ++ [xa]) (upd (upd H1 dx (.own xa)) xa (.ins C dx [])) (S1 ++ [.ins x []]) := hs2.push (u := .ins x []) hx2 ⟨C, dx, [], hm, upd_same, .nil⟩
    refine ⟨A1 ++ [xa], .ref S1.length :: ds, S1 ++ [.ins x []], ?_, hs3, by rw [List.length_cons, hn ρ S ds S1 ee]; exact hl, ?_⟩
    · rw [List.append_nil]
      exact Reps.cons ⟨xa, hn1, rfl⟩ (r1.mono gA)
    · refine post_W0 (σ := σ) hW' (Post.bind_of (Post.grow gA h) fun d S2 A2 H2 v g2 r2 hs4 h2 => ?_)
      cases d with
      | non => exact ⟨r2, Post.val h2 ⟨xa, g2.get hn1, rfl⟩ hs4⟩
      | _ => exact h2.elim
theorem meth_read {G : GX} (hC : G.mg cn = some (.ref C)) (hps : ps.length = n) {σ : L2.St} {H : Hp} {Q : VK} (hW' : ∀ c d σ H, W c d σ H → W c d [] H) (hn : ∀ ρ S ds S', fr ρ S = .ok ds S' → ds.length + 1 = n) (h : cE G W (dMeth cn m F fo fr) σ H Q) : tMeth C m (spD G ps.length F) [] (fun c d H => W c d [] H) (cE G W fo) (cA G W fr) σ H Q := by
  obtain ⟨A, ρ, S, he, hs, h⟩ := h
  refine can_bind he hs h fun x S1 A1 H1 v g1 r1 hs1 he1 h1 => ?_
  split at h1
  · rename_i nn fs e1
    split at h1
    · rename_i e2
      obtain ⟨a, C', dx, vs, rfl, ea, rfl, h0, h3, h4⟩ := insOf_at hs1 r1 e1
      have := hC.symm.trans h0
      cases this
      refine ⟨a, dx, vs, rfl, h3, lookup_none h4 e2, A1, ρ, S1, he1, hs1, ?_⟩
      cases ee : fr ρ S1 with
      | bad => rw [ee] at h1; exact h1
      | exc y S2 => rw [ee] at h1; exact h1
      | ok ds S2 =>
        rw [ee] at h1
        intro A2 H2 vs2 g2 r2 hs2
        refine ⟨A2, .ref nn :: ds, S2, by rw [List.append_nil]; exact Reps.cons (r1.mono g2) r2, hs2, by rw [List.length_cons, hn ρ S1 ds S2 ee, hps], post_W0 (σ := σ) hW' (Post.grow g2 h1)⟩
    · exact h1.elim
  · exact h1.elim
theorem de_meth {pl : Sem Bool} (hC : X.mg cn = some (.ref C)) (c : Cls X.K C) (hm : Meth X.K C m f) (FO : DFO X.prog X.w X.K X.mg X.base k f fd ps F) (tk : Takes X W) (hr : Room k X.A) (hb : Binds X.K fd ps []) (ho : DE X W o fo) (ha : DA X W (e :: es) fr) (hn : ∀ ρ S ds S', fr ρ S = .ok ds S' → ds.length = (e :: es).length)
    (hl : (e :: es).length + 1 = ps.length := by rfl) (hW : ∀ c d σ H, W c d [] H → W c d σ H := by intro _ _ _ _ h; exact h) (hW' : ∀ c d σ H, W c d σ H → W c d [] H := by intro _ _ _ _ h; exact h)
    (hst : starEach (e :: es) X.env = (false, eval e X.env) :: starEach es X.env := by rfl) (hpl : (backTo pos (starEach es X.env)).any (·.1) = false := by rfl)
    (ht : eval (.Call (.Attribute o m apos) (e :: es) [] pos) X.env = (do
      let ov ← eval o X.env
      standAt apos.atName
      let (f, first) ← holding [ov] (getMethod ov m pl)
      callWith pos f first (backTo pos (starEach (e :: es) X.env)) (backToKw pos (keywordEach [] X.env))) := by rfl) :
    DE X W (.Call (.Attribute o m apos) (e :: es) [] pos) (dMeth cn m F fo fr) := (pe_meth (pl := pl) ho c hm FO hr hb .nil (passW tk hW) ha hst hpl ht).to fun σ H Q h =>
  meth_read (G := gx X) hC rfl hW' (fun ρ S ds S' q => by rw [hn ρ S ds S' q]; exact hl) h
theorem de_meth0 {pl : Sem Bool} (hC : X.mg cn = some (.ref C)) (c : Cls X.K C) (hm : Meth X.K C m f) (FO : DFO X.prog X.w X.K X.mg X.base k f fd ps F) (tk : Takes X W) (hr : Room k X.A) (hb : Binds X.K fd ps []) (ho : DE X W o fo) (hl : 1 = ps.length := by rfl) (hW : ∀ c d σ H, W c d [] H → W c d σ H := by intro _ _ _ _ h; exact h) (hW' : ∀ c d σ H, W c d σ H → W c d [] H := by intro _ _ _ _ h; exact h)
    (ht : eval (.Call (.Attribute o m apos) [] [] pos) X.env = (do
      let ov ← eval o X.env
      standAt apos.atName
      let (f, first) ← holding [ov] (getMethod ov m pl)
      callWith pos f first (backTo pos (starEach [] X.env)) (backToKw pos (keywordEach [] X.env))) := by rfl) :
    DE X W (.Call (.Attribute o m apos) [] [] pos) (dMeth cn m F fo dNil) := (pe_meth0 (pl := pl) ho c hm FO hr hb .nil (passW tk hW) ht).to fun σ H Q h => by
  obtain ⟨A, ρ, S, he, hs, h⟩ := h
  refine can_bind he hs h fun x S1 A1 H1 v g1 r1 hs1 he1 h1 => ?_
  split at h1
  · rename_i nn fs e1
    split at h1
    · rename_i e2
      obtain ⟨a, C', dx, vs, rfl, ea, rfl, h0, h3, h4⟩ := insOf_at hs1 r1 e1
      have := hC.symm.trans h0
      cases this
      exact ⟨a, dx, vs, rfl, h3, lookup_none h4 e2, A1, [.ref nn], S1, Reps.cons r1 Reps.nil, hs1, hl, post_W0 (σ := σ) hW' h1⟩
    · exact h1.elim
  · exact h1.elim
end
end TD

set_option Elab.async false
set_option linter.all false
set_option maxRecDepth 100000
set_option maxHeartbeats 2000000
/-! TD9: chains as tests, dicts of the written part, the end of a law. -/
namespace TD
open PySem PySem.Spec PyProof.Rows L2

section
variable {X : Cx} {W : WX} {a b c : Expr} {fa fb fc : FE} {pos : Pos}
theorem tst_read : ∀ σ H Q, cT (gx X) W (dTst fa) σ H Q → cE (gx X) W fa σ H (fun z H1 => ∃ c, z = .bl c ∧ Q c H1) := fun σ H Q ⟨A, ρ, S, hv, hs, h⟩ =>
  can_bind hv hs h fun d S1 A1 H1 v g1 r1 hs1 he1 h1 => by
    cases d with
    | bl b => exact ⟨b, r1, Post.val h1 rfl hs1⟩
    | _ => exact h1.elim
theorem chain_read {r r' : R2} {g g' : Sto → D → D → Res D} (hr : OpS (gx X) W r g) (hr' : OpS (gx X) W r' g') : ∀ σ H Q, cE (gx X) W (dChain g g' fa fb fc) σ H Q → tChain r r' (cE (gx X) W fa) (cE (gx X) W fb) (cE (gx X) W fc) σ H Q := fun σ H Q ⟨A, ρ, S, he, hs, h⟩ =>
  can_bind he hs h fun d S1 A1 H1 v g1 r1 hs1 he1 h1 => can_bind he1 hs1 h1 fun e S2 A2 H2 w g2 r2 hs2 he2 h2 => hr σ A2 H2 S2 d e v w _ (r1.mono g2) r2 hs2 (Post.bind_of h2 fun z S3 A3 H3 y g3 r3 hs3 h3 => by
    cases z with
    | bl b =>
      refine ⟨b, r3, ?_⟩
      cases b with
      | true =>
        rw [if_pos rfl]
        exact can_bind (he2.mono g3) hs3 h3 fun u S4 A4 H4 y' g4 r4 hs4 he4 h4 => hr' σ A4 H4 S4 e u w y' Q ((r2.mono g3).mono g4) r4 hs4 h4
      | false => rw [if_neg Bool.false_ne_true]; exact Post.val h3 rfl hs3
    | _ => exact h3.elim)
theorem dt_cm2 {op op' : CmpOp} {g g' : Sto → D → D → Res D} (k : Cm X W op g) (k' : Cm X W op' g') (ha : DE X W a fa) (hb : DE X W b fb) (hc : DE X W c fc) (hm : lastMarks [op, op'] [b, c] = false := by with_unfolding_all rfl) : DT X W (.Compare a [op, op'] [b, c] pos) (dTst (dChain g g' fa fb fc)) := by
  obtain ⟨r, h1, h2⟩ := k
  obtain ⟨r', h1', h2'⟩ := k'
  exact (pt_chain h1 h1' ha hb hc hm).to fun σ H Q h => chain_read h2 h2' σ H _ (tst_read σ H Q h)
end

/-! ### dicts that the top has written, keys texts -/
structure KDt (G : GX) (w : World) (x : Str) (d : Addr) (tbl : List (Str × D)) : Prop where
  glob : G.mg x = some (.ref d)
  ex : ∃ es n, KDict G.K w d es n
  no : ∀ z : Str, tbl.lookup z = none → PySem.W.nsIn G.K d z = some none
  yes : ∀ (z : Str) (dv : D), tbl.lookup z = some dv → ∃ u v, PySem.W.nsIn G.K d z = some (some u) ∧ RelV v u ∧ ∀ A H, Rep G A H dv v
def gKIn (neg : Bool) (x : Str) (tbl : List (Str × D)) : Sto → D → D → Res D := fun S y z => match y, z with
  | .str t, .glo c => if c = x then .ok (.bl (if neg then !(tbl.lookup t).isSome else (tbl.lookup t).isSome)) S else .bad
  | _, _ => .bad
def gKGet (x : Str) (tbl : List (Str × D)) : Sto → D → D → Res D := fun S z y => match z, y with
  | .glo c, .str t => if c = x then match tbl.lookup t with
    | some d => .ok d S
    | none => .bad
    else .bad
  | _, _ => .bad
section
variable {X : Cx} {W : WX} {a b : Expr} {fa fb : FE} {pos : Pos} {x : Str} {d : Addr} {tbl : List (Str × D)}
theorem de_glo {a : Addr} (hm : X.mg x = some (.ref a)) (hg : Gl X x := by rfl) (hd : (x == ("__debug__" : Str)) = false := by decide) : DE X W (.Name x pos) (dC (.glo x)) := de_c (v := .ref a) (pe_glob hg hm rfl hd) fun _ _ => ⟨a, hm, rfl⟩
theorem cm_kin (K : KDt (gx X) X.w x d tbl) : Cm X W .In (gKIn false x tbl) := by
  obtain ⟨es, n, D⟩ := K.ex
  refine ⟨_, op_in_kd D, fun σ A H S y z v w Q r1 r2 hs h => ?_⟩
  unfold gKIn at h
  split at h
  · split at h
    · rename_i t c hc
      subst hc
      obtain ⟨b, e, rfl⟩ := r2
      have := K.glob.symm.trans e
      cases this
      cases e1 : tbl.lookup t with
      | none => exact ⟨t, none, r1, rfl, K.no t e1, by rw [e1] at h; exact Post.val h rfl hs⟩
      | some dv =>
        obtain ⟨u, v, e2, _, _⟩ := K.yes t dv e1
        exact ⟨t, some u, r1, rfl, e2, by rw [e1] at h; exact Post.val h rfl hs⟩
    · exact h.elim
  · exact h.elim
theorem cm_knotin (K : KDt (gx X) X.w x d tbl) : Cm X W .NotIn (gKIn true x tbl) := by
  obtain ⟨es, n, D⟩ := K.ex
  refine ⟨_, op_notIn_kd D, fun σ A H S y z v w Q r1 r2 hs h => ?_⟩
  unfold gKIn at h
  split at h
  · split at h
    · rename_i t c hc
      subst hc
      obtain ⟨b, e, rfl⟩ := r2
      have := K.glob.symm.trans e
      cases this
      cases e1 : tbl.lookup t with
      | none => exact ⟨t, none, r1, rfl, K.no t e1, by rw [e1] at h; exact Post.val h rfl hs⟩
      | some dv =>
        obtain ⟨u, v, e2, _, _⟩ := K.yes t dv e1
        exact ⟨t, some u, r1, rfl, e2, by rw [e1] at h; exact Post.val h rfl hs⟩
    · exact h.elim
  · exact h.elim
theorem de_kget (K : KDt (gx X) X.w x d tbl) (ha : DE X W a fa) (hb : DE X W b fb) (hs : PlainIx b := by intro _ _; rfl) : DE X W (.Subscript a b pos) (dOp (gKGet x tbl) fa fb) := (pe_ix ix_kdict ha hb hs).to (op_to (fun σ A H S y z v w Q r1 r2 hs h => by
  unfold gKGet at h
  split at h
  · split at h
    · rename_i t hc
      subst hc
      split at h
      · rename_i dv e1
        obtain ⟨b, e, rfl⟩ := r1
        have := K.glob.symm.trans e
        cases this
        obtain ⟨es, n, D⟩ := K.ex
        obtain ⟨u, v, e2, e3, e4⟩ := K.yes t dv e1
        exact ⟨_, t, v, rfl, r2, ⟨es, n, u, D.at_, D.lit, e2, e3⟩, Post.val h (e4 A H) hs⟩
      · exact h.elim
    · exact h.elim
  · exact h.elim) rfl rfl)
end
/-- a written dict of texts, from its entries -/
def entsOk : List DictEntry → List (Str × D) → Prop
  | [], [] => True
  | e :: es, p :: tbl => (∃ t, e.key = .str p.1 t) ∧ (∃ v, RelV v e.val ∧ ∀ (G : GX) A H, Rep G A H p.2 v) ∧ entsOk es tbl
  | _, _ => False
theorem ents_find : ∀ {es : List DictEntry} {tbl : List (Str × D)} (z : Str), entsOk es tbl → (tbl.lookup z = none → es.find? (fun e => e.key.isStr z) = none) ∧ (∀ dv, tbl.lookup z = some dv → ∃ e v, es.find? (fun e => e.key.isStr z) = some e ∧ RelV v e.val ∧ ∀ (G : GX) A H, Rep G A H dv v)
  | [], [], z, _ => ⟨fun _ => rfl, fun dv h => by simp at h⟩
  | [], _ :: _, _, h => h.elim
  | _ :: _, [], _, h => h.elim
  | e :: es, p :: tbl, z, ⟨⟨t, hk⟩, ⟨v, hv, hr⟩, h⟩ => by
    have ih := ents_find z h
    rw [List.lookup_cons, List.find?_cons]
    have hb : e.key.isStr z = (z == p.1) := by
      rw [hk]
      by_cases hz : p.1 = z
      · subst hz
        simp [Value.isStr]
      · have hz' : ¬ z = p.1 := fun q => hz q.symm
        rw [beq_eq_false_iff_ne.mpr hz']
        simp [Value.isStr, hz]
    rw [hb]
    cases z == p.1 with
    | true => exact ⟨fun q => by simp at q, fun dv q => by simp at q; subst q; exact ⟨e, v, rfl, hv, hr⟩⟩
    | false => exact ih
theorem ents_ref : ∀ {es : List DictEntry} {tbl : List (Str × D)}, entsOk es tbl → es.any (·.refKey) = false
  | [], [], _ => rfl
  | [], _ :: _, h => h.elim
  | _ :: _, [], h => h.elim
  | e :: es, p :: tbl, ⟨⟨t, hk⟩, _, h⟩ => by
    rw [List.any_cons, ents_ref h, Bool.or_false]
    simp [DictEntry.refKey, hk]
theorem kdt_of {G : GX} {w : World} {x : Str} {d : Addr} {tbl : List (Str × D)} {es : Array DictEntry} {n : Nat} (g : G.mg x = some (.ref d)) (D : KDict G.K w d es n) (h : entsOk es.toList tbl) : KDt G w x d tbl := by
  have e0 : ∀ z, PySem.W.nsIn G.K d z = (match es.toList.find? (·.key.isStr z) with | some e => some (some e.val) | none => if es.toList.any (·.refKey) then none else some none) := fun z => by
    unfold PySem.W.nsIn
    rw [D.at_]
    rfl
  refine ⟨g, ⟨es, n, D⟩, fun z hz => ?_, fun z dv hz => ?_⟩
  · rw [e0, (ents_find z h).1 hz, ents_ref h]
    rfl
  · obtain ⟨e, v, h1, h2, h3⟩ := (ents_find z h).2 dv hz
    refine ⟨e.val, v, ?_, h2, h3 G⟩
    rw [e0, h1]

/-! ### no promise -/
theorem dfo_bad {P : Program} {w : World} {K : PySem.W.Frag} {mg : Str → Option Value} {base : Heap} {k : Nat} {f : Addr} {fd : FuncData} {ps : List Str} : DFO P w K mg base k f fd ps (fun _ _ => .bad) :=
  ⟨fun vs H Q E ⟨_, _, _, _, _, _, h⟩ => h.elim, fun A outer s H args us vs Q E _ _ _ _ ⟨_, _, _, _, _, _, h⟩ => h.elim⟩

/-! ### the law's own promise -/
def spLaw (K : PySem.W.Frag) : Sp := fun vs H Q _ => ∃ (a : Addr) (ns : List Int), vs = [.ref a] ∧ SqL K H a (ns.map V.int) ∧ Only H ∧ ns.length ≤ 63 ∧ ∀ H', Q (.bl true) H'
theorem rep_nums {G : GX} {A : List Addr} {H : Hp} : ∀ ns : List Int, Reps G A H (ns.map D.int) (ns.map V.int)
  | [] => Reps.nil
  | n :: ns => Reps.cons rfl (rep_nums ns)
theorem law_end {P : Program} {w : World} {K : PySem.W.Frag} {mg : Str → Option Value} {base : Heap} {k : Nat} {f : Addr} {fd : FuncData} {x : Str} {F : DFn} (h : DFO P w K mg base k f fd [x] F)
    (hT : ∀ ns : List Int, ns.length ≤ 63 → ∃ S, F [.fls (ns.map D.int)] [] = .ok (.bl true) S) : FnOk P w K mg base (L2.CX P w) k f fd [x] (spLaw K) := FnOk.imp h fun vs H Q E ⟨a, ns, ev, hs, ho, hl, q⟩ => by
  subst ev
  have hf : FzL K H a (ns.map V.int) := by
    rcases hs with (z | ⟨o, z⟩) | z
    · rcases ho a with y | ⟨o, xs, y⟩
      · rw [y] at z; cases z
      · rw [y] at z; cases z
    · exact .inl ⟨o, z⟩
    · exact .inr z
  obtain ⟨S, e⟩ := hT ns hl
  refine ⟨[], [.fls (ns.map D.int)], [], Reps.cons ⟨a, _, rfl, hf, rep_nums ns⟩ Reps.nil, ⟨rfl, fun i j b e => by simp at e, fun n o e => by simp at e⟩, rfl, ?_⟩
  rw [e]
  exact fun A' H' v g r hs' => by
    cases (show v = .bl true from r)
    exact q H'
theorem td_walk {l : PySem.W.OpenLaw} {q : Program} {loose : List Str} {XP : (Str → Option Value) → Heap → Prop} {YP : World → Heap → Prop} {d : DefRec} {K : Params → PySem.W.Frag} {k : Nat} {x : Str} (hn : l.most = some 63) (hdf : d.params.defaults = []) (hr : Room k callerA)
    (hY : ∀ (w : World) (h : Heap), YP w h → (K w.params).In h)
    (F : ∀ (w : World) (mg : Str → Option Value) (fa : Addr) (h : Heap), (K w.params).In h → h.Ns mainGlobals mg → mg d.name = some (.ref fa) →
      ∃ fd : FuncData, (∀ (s : Shared) (u : Value), BindsTo s fd ⟨[u], []⟩ [(x, u)]) ∧ ∀ base : Heap, (K w.params).In base → base.Ns mainGlobals mg → FnOk l.prog w (K w.params) mg base (L2.CX l.prog w) k fa fd [x] (spLaw (K w.params))) :
    PySem.W.WalkO q loose XP YP l.row.toRowW d [] (fun f vs => PySem.call f vs) :=
  L2.walk_of (n := 63) (k := k) (x := x) (CX := fun w => L2.CX l.prog w) (sp := fun w => spLaw (K w.params)) hn (by decide) hdf hr hY F (fun _ _ a ns hl ho hS => ⟨a, ns, rfl, hS, ho, hl, fun _ => rfl⟩) fun w H s e s' z => by
    obtain ⟨_, _, _, _, _, _, _, _, _, _, _, _, z⟩ := z
    exact z
end TD

set_option Elab.async false
set_option linter.all false
set_option maxRecDepth 100000
set_option maxHeartbeats 2000000
/-! TD10: operations whose rule hangs on the kind of the value at hand. -/
namespace TD
open PySem PySem.Spec PyProof.Rows L2

section
variable {X : Cx} {W : WX} {a b e o i value tg : Expr} {st : Stmt} {fa fb fo fk fv : FE} {pos pos' : Pos}
theorem pe_or2 {t u : TE} (h : PE X e t) (k : PE X e u) : PE X e (fun σ H Q => t σ H Q ∨ u σ H Q) := ⟨fun pins s σ H Q I q => q.elim (h.run pins s σ H Q I) (k.run pins s σ H Q I)⟩
theorem pt_or2 {t u : TT} (h : PT X e t) (k : PT X e u) : PT X e (fun σ H Q => t σ H Q ∨ u σ H Q) := ⟨fun pins s σ H Q I q => q.elim (h.run pins s σ H Q I) (k.run pins s σ H Q I)⟩
theorem ps_or2 {t u : TS} (h : PS X st t) (k : PS X st u) : PS X st (fun E σ H => t E σ H ∨ u E σ H) := ⟨fun pins s σ H E I q => q.elim (h.run pins s σ H E I) (k.run pins s σ H E I)⟩
theorem pi_or2 {iter : Expr} {t u : TI} (h : PI X tg iter t) (k : PI X tg iter u) : PI X tg iter (fun σ H R => t σ H R ∨ u σ H R) := ⟨fun pins s σ H R I q => q.elim (h.run pins s σ H R I) (k.run pins s σ H R I)⟩
/-- x[y]: a dict, a list, a tuple, a text -/
def gSub2 : Sto → D → D → Res D := fun S x y => match dctOf S x with
  | some _ => gDGet S x y
  | none => gIx S x y
def gIn2 (neg : Bool) : Sto → D → D → Res D := fun S x y => match dctOf S y with
  | some _ => gDIn neg S x y
  | none => gIn neg S x y
theorem dOp_or {g g1 g2 : Sto → D → D → Res D} (h : ∀ S x y, g S x y = g1 S x y ∨ g S x y = g2 S x y) (ρ : Env) (S : Sto) : dOp g fa fb ρ S = dOp g1 fa fb ρ S ∨ dOp g fa fb ρ S = dOp g2 fa fb ρ S := by
  unfold dOp
  cases fa ρ S with
  | bad => exact .inl rfl
  | exc x S => exact .inl rfl
  | ok x S1 =>
    rw [Res.bind_ok, Res.bind_ok, Res.bind_ok]
    cases fb ρ S1 with
    | bad => exact .inl rfl
    | exc x S => exact .inl rfl
    | ok y S2 => exact h S2 x y
theorem sub2_or (S : Sto) (x y : D) : gSub2 S x y = gDGet S x y ∨ gSub2 S x y = gIx S x y := by
  unfold gSub2
  split
  · exact .inl rfl
  · exact .inr rfl
theorem in2_or (neg : Bool) (S : Sto) (x y : D) : gIn2 neg S x y = gDIn neg S x y ∨ gIn2 neg S x y = gIn neg S x y := by
  unfold gIn2
  split
  · exact .inl rfl
  · exact .inr rfl
theorem can_or {α β : Type} {G : GX} {R : List Addr → Hp → α → β → Prop} {f f1 f2 : Env → Sto → Res α} (h : ∀ ρ S, f ρ S = f1 ρ S ∨ f ρ S = f2 ρ S) {σ : L2.St} {H : Hp} {Q : β → Hp → Prop} (q : can G W R f σ H Q) : can G W R f1 σ H Q ∨ can G W R f2 σ H Q := by
  obtain ⟨A, ρ, S, he, hs, q⟩ := q
  rcases h ρ S with e | e
  · exact .inl ⟨A, ρ, S, he, hs, by rw [← e]; exact q⟩
  · exact .inr ⟨A, ρ, S, he, hs, by rw [← e]; exact q⟩
theorem de_sub2 {k : Nat} (hr : Room k X.A) (ha : DE X W a fa) (hb : DE X W b fb) (hs : PlainIx b := by intro _ _; rfl) (hs' : NoSl b := by intro _ _; rfl) : DE X W (.Subscript a b pos) (dOp gSub2 fa fb) :=
  (pe_or2 (de_dget hr ha hb hs') (de_ix ha hb hs)).to fun σ H Q q => can_or (dOp_or sub2_or) q
theorem de_in2 {k : Nat} (hr : Room k X.A) (ha : DE X W a fa) (hb : DE X W b fb) (hm : behindInMarks .In b = false := by rfl) : DE X W (.Compare a [.In] [b] pos) (dOp (gIn2 false) fa fb) :=
  (pe_or2 (de_din hr ha hb hm) (de_cm cm_in ha hb hm)).to fun σ H Q q => can_or (dOp_or (in2_or false)) q
theorem de_notin2 {k : Nat} (hr : Room k X.A) (ha : DE X W a fa) (hb : DE X W b fb) (hm : behindInMarks .NotIn b = false := by rfl) : DE X W (.Compare a [.NotIn] [b] pos) (dOp (gIn2 true) fa fb) :=
  (pe_or2 (de_dnotin hr ha hb hm) (de_cm cm_notin ha hb hm)).to fun σ H Q q => can_or (dOp_or (in2_or true)) q
theorem dTst_or {f f1 f2 : FE} (h : ∀ ρ S, f ρ S = f1 ρ S ∨ f ρ S = f2 ρ S) (ρ : Env) (S : Sto) : dTst f ρ S = dTst f1 ρ S ∨ dTst f ρ S = dTst f2 ρ S := by
  unfold dTst
  rcases h ρ S with e | e
  · exact .inl (by rw [e])
  · exact .inr (by rw [e])
theorem dt_in2 {k : Nat} (hr : Room k X.A) (ha : DE X W a fa) (hb : DE X W b fb) (hm : behindInMarks .In b = false := by rfl) : DT X W (.Compare a [.In] [b] pos) (dTst (dOp (gIn2 false) fa fb)) :=
  (pt_or2 (dt_din hr ha hb hm) (dt_cm cm_in ha hb hm)).to fun σ H Q q => can_or (dTst_or (dOp_or (in2_or false))) q
theorem dt_notin2 {k : Nat} (hr : Room k X.A) (ha : DE X W a fa) (hb : DE X W b fb) (hm : behindInMarks .NotIn b = false := by rfl) : DT X W (.Compare a [.NotIn] [b] pos) (dTst (dOp (gIn2 true) fa fb)) :=
  (pt_or2 (dt_dnotin hr ha hb hm) (dt_cm cm_notin ha hb hm)).to fun σ H Q q => can_or (dTst_or (dOp_or (in2_or true))) q
/-- x[y] = v: a dict, a list -/
def putAny (v : D) (S : Sto) (x y : D) : Res Unit := match dctOf S x with
  | some (n, kvs) => match keyOf y with
    | some k => if kvs.length < 1000000 then .ok () (S.set n (.dct (putD kvs k v))) else .bad
    | none => .bad
  | none => match x, y with
    | .ref n, .int i => match S[n]? with
      | some (.lst xs) => match ixN xs.length i with
        | some j => .ok () (S.set n (.lst (xs.set j v)))
        | none => .bad
      | _ => .bad
    | _, _ => .bad
def sPut2 (fo fk fv : FE) : FS := fun ρ S => match (fv ρ S).bind fun v S1 => (fo ρ S1).bind fun x S2 => (fk ρ S2).bind fun y S3 => putAny v S3 x y with
  | .ok _ S1 => .nx ρ S1
  | .bad => .bad
  | .exc x S1 => .exc x ρ S1
theorem put2_or (ρ : Env) (S : Sto) : sPut2 fo fk fv ρ S = sDPutD fo fk fv ρ S ∨ sPut2 fo fk fv ρ S = sIxPut fo fk fv ρ S := by
  unfold sPut2 sDPutD sIxPut
  cases fv ρ S with
  | bad => exact .inl rfl
  | exc x S => exact .inl rfl
  | ok v S1 =>
    rw [Res.bind_ok, Res.bind_ok, Res.bind_ok]
    cases fo ρ S1 with
    | bad => exact .inl rfl
    | exc x S => exact .inl rfl
    | ok x S2 =>
      rw [Res.bind_ok, Res.bind_ok, Res.bind_ok]
      cases fk ρ S2 with
      | bad => exact .inl rfl
      | exc x S => exact .inl rfl
      | ok y S3 =>
        rw [Res.bind_ok, Res.bind_ok, Res.bind_ok]
        unfold putAny
        cases dctOf S3 x with
        | none => exact .inr rfl
        | some q =>
          obtain ⟨n, kvs⟩ := q
          cases keyOf y with
          | none => exact .inl rfl
          | some k => exact .inl rfl
theorem ds_put2 {k : Nat} (hr : Room k X.A) (ho : DE X W o fo) (hi : DE X W i fk) (hg : PG X (.Subscript o i pos') (L2.gSub (cE (gx X) W fo) (cE (gx X) W fk) rSetL)) (hv : DE X W value fv) (h1 : swapsWith value (some (.Subscript o i pos')) pos.line X.env = pure false := by rfl) (h2 : swapsWithSole [.Subscript o i pos'] value pos.line X.env = pure false := by rfl) (h3 : swappedStores [.Subscript o i pos'] value X.env = pure none := by rfl) :
    DS X W (.Assign [.Subscript o i pos'] value pos) (sPut2 fo fk fv) := (ps_or2 (ds_dput hr ho hi hv h1) (ds_ixput hg hv h2 h3)).to fun E σ H ⟨A, ρ, S, he, hs, q⟩ => by
  rcases put2_or (fo := fo) (fk := fk) (fv := fv) ρ S with e | e
  · exact .inl ⟨A, ρ, S, he, hs, by rw [← e]; exact q⟩
  · exact .inr ⟨A, ρ, S, he, hs, by rw [← e]; exact q⟩
/-- for .. in x: a list, a tuple, a text -/
def iAny (a : FE) : FI := fun ρ S => (a ρ S).bind fun x S1 => match x with
  | .str z => .ok (signs z, none) S1
  | x => match tupOf x with
    | some xs => .ok (xs, none) S1
    | none => match listOf S1 x with
      | some xs => .ok (xs, guardOf xs x) S1
      | none => .bad
theorem iAny_or (ρ : Env) (S : Sto) : iAny fa ρ S = iTxt fa ρ S ∨ iAny fa ρ S = iTpl fa ρ S ∨ iAny fa ρ S = iLst fa ρ S := by
  unfold iAny iTxt iTpl iLst
  cases fa ρ S with
  | bad => exact .inl rfl
  | exc x S => exact .inl rfl
  | ok x S1 =>
    rw [Res.bind_ok, Res.bind_ok, Res.bind_ok, Res.bind_ok]
    cases x with
    | str z => exact .inl rfl
    | tup xs => exact .inr (.inl rfl)
    | ktp xs => exact .inr (.inl rfl)
    | _ => exact .inr (.inr rfl)
theorem di_any (ha : DE X W a fa) : DI X W tg a (iAny fa) := (pi_or2 (di_txt ha) (pi_or2 (di_tpl ha) (di_lst ha))).to fun σ H R ⟨A, ρ, S, he, hs, q⟩ => by
  rcases iAny_or (fa := fa) ρ S with e | e | e
  · exact .inl ⟨A, ρ, S, he, hs, by rw [← e]; exact q⟩
  · exact .inr (.inl ⟨A, ρ, S, he, hs, by rw [← e]; exact q⟩)
  · exact .inr (.inr ⟨A, ρ, S, he, hs, by rw [← e]; exact q⟩)
end
/-- a, b = e -/
def sBind (bd : FG) (e : FE) : FS := fun ρ S => match e ρ S with
  | .ok d S1 => match bd d ρ with
    | some ρ1 => .nx ρ1 S1
    | none => .bad
  | .bad => .bad
  | .exc x S1 => .exc x ρ S1
theorem ds_bind {X : Cx} {W : WX} {tg e : Expr} {is : List Nat} {bd : FG} {fe : FE} {pos : Pos} (hg : DG X tg is bd) (he : DE X W e fe) (hs : swapsWithSole [tg] e pos.line X.env = pure false := by rfl) (hw : swappedStores [tg] e X.env = pure none := by rfl) (h1 : (assignEach [tg] X.env).map (·.2) = [assign tg X.env] := by rfl) : DS X W (.Assign [tg] e pos) (sBind bd fe) := (ps_asg he hg hs hw h1).to fun E σ H ⟨A, ρ, S, hv, hs, h⟩ =>
  SPost_of_exp (k := fun ρ r => match r with | .ok d S1 => (match bd d ρ with | some ρ1 => .nx ρ1 S1 | none => .bad) | .bad => .bad | .exc x S1 => .exc x ρ S1) hv hs h (fun _ => rfl) (fun _ _ _ => rfl) fun d S1 A1 H1 v g1 r1 hs1 he1 h1 => by
    dsimp only at h1
    split at h1
    · rename_i ρ1 e1
      exact ⟨A1, ρ, d, ρ1, r1, he1, e1, fun σ' he' _ => h1 A1 H1 σ' (Gr.refl _ _) he' hs1⟩
    · exact h1.elim
end TD

set_option Elab.async false
set_option linter.all false
set_option maxRecDepth 100000
set_option maxHeartbeats 2000000
/-! TD11: defs with defaults; the top's facts by names, for the denotations. -/
namespace TD
open PySem PySem.Spec PyProof.Rows L2
section
variable {P : Program} {w : World} {K : PySem.W.Frag} {mg : Str → Option Value} {base : Heap}
/-- the rule for a def with defaults -/
theorem fn_defD {x qual : Str} {st : Stmt} {f : Addr} {fd : FuncData} {N ps : List Str} {k : Nat} {body : FS} {dvs : List V} {kws : List (Str × V)} (F : FunD K x qual (defArgs st) (defBody st) (defScope st) dvs kws f fd) (S : FnScope N ps (defScope st))
    (hb : ∀ (cdv : Value) (A : Around) (outer : List PySem.Env) (s : Shared) (H : Hp) (E : XK), Room k (A.deeper (envOfC qual (defScope st) s.heap.objs.size f cdv)) → DSs (cxOf (L2.CX P w) P w K mg base N qual (defScope st) f cdv A outer s H E) (fun c dd _ H' => E c dd H') (defBody st) body) :
    DFO P w K mg base (k + 1) f fd ps (dfun ps.length N.length body) := FunD.ok (CX := L2.CX P w) F S (fun vs H Q E h => by
  obtain ⟨A, ds, S, r, _, hn, _⟩ := h
  rw [r.len, hn]) fun cdv A outer s H vs Q E hr h => by
  refine ⟨_, hb cdv A outer s H E hr, ?_⟩
  obtain ⟨A, ds, S, r, hs, hn, hp⟩ := h
  refine ⟨A, _, S, repE_start (N := N) r hn, hs, ?_⟩
  unfold dfun at hp
  rw [if_pos hn] at hp
  have hp := gc_post hs hp
  cases e : body (ds.map some ++ List.replicate (N.length - ps.length) none) S with
  | bad => rw [e] at hp; exact hp
  | nx ρ S' => rw [e] at hp; exact fun A' H' σ' g _ hs' => hp A' H' .non g rfl hs'
  | rt d S' => rw [e] at hp; exact hp
  | exc x ρ S' => rw [e] at hp; exact fun A' H' σ' c dd g _ hs' rx => hp A' H' c dd g hs' rx
  | bk ρ S' => rw [e] at hp; exact hp.elim
  | ct ρ S' => rw [e] at hp; exact hp.elim
/-- what a call binds where the last defaults fill up -/
def BndD (K : PySem.W.Frag) (fd : FuncData) (ps : List Str) (dvs : List V) : Prop := ∃ dus, Vals dvs dus ∧ Binds K fd ps dus
theorem BndD.all {fd : FuncData} {ps : List Str} (h : BndD K fd ps []) : Binds K fd ps [] := by
  obtain ⟨dus, r, b⟩ := h
  cases r
  exact b
end
section
variable {X : Cx} {W : WX} {k : Nat} {f : Addr} {fd : FuncData} {ps : List Str} {F : DFn} {x : Str} {p pos apos : Pos} {e : Expr} {es : List Expr} {fr : FA}
theorem de_callE {dd : List D} {dvs : List V} (FO : DFO X.prog X.w X.K X.mg X.base k f fd ps F) (tk : Takes X W) (hr : Room k X.A) (hm : X.mg x = some (.ref f)) (hk : PySem.W.keepIn X.K (.ref f) = true) (hb : BndD X.K fd ps dvs) (hrep : ∀ A H, Reps (gx X) A H dd dvs) (ha : DA X W (e :: es) fr)
    (hl : (e :: es).length + dd.length = ps.length := by rfl) (hg : Gl X x := by rfl)
    (hdb : (x == ("__debug__" : Str)) = false := by decide) (he : starEach (e :: es) X.env = (false, eval e X.env) :: starEach es X.env := by rfl) (hpl : (backTo pos (starEach es X.env)).any (·.1) = false := by rfl) (hn : ∀ ρ S ds S', fr ρ S = .ok ds S' → ds.length = (e :: es).length) :
    DE X W (.Call (.Name x p) (e :: es) [] pos) (dCB (fun S ds => F (ds ++ dd) S) fr) := by
  obtain ⟨dus, hd, hb⟩ := hb
  exact de_callD FO tk hr hm hk hb hd hrep ha hl hg hdb he hpl hn
end
/-! ### facts -/
/-- a written flat value -/
def dvOf : D → Option He.Dv
  | .non => some .non
  | .bl b => some (.bl b)
  | .int i => some (.int i)
  | .str x => some (.str x)
  | _ => none
theorem dv_rep {G : GX} {d : D} {v : He.Dv} (h : dvOf d = some v) (A : List Addr) (H : Hp) : Rep G A H d (v.v G.K) := by
  cases d <;> cases h <;> rfl
theorem dvs_rep {G : GX} (A : List Addr) (H : Hp) : ∀ {ds : List D} {vs : List He.Dv}, ds.map dvOf = vs.map some → Reps G A H ds (vs.map (He.Dv.v G.K))
  | [], [], _ => Reps.nil
  | [], _ :: _, h => by cases h
  | _ :: _, [], h => by cases h
  | d :: ds, v :: vs, h => by
    injection h with h1 h2
    exact Reps.cons (dv_rep h1 A H) (dvs_rep A H h2)
/-- the global x is a written tuple of flat things -/
def ktpB (K : PySem.W.Frag) (x : Str) (vs : List He.Dv) : Bool := He.tupB K x vs
theorem ktp_rep {G : GX} {x : Str} {ds : List D} {vs : List He.Dv} (h : ktpB G.K x vs = true) (e : ds.map dvOf = vs.map some) (A : List Addr) (H : Hp) : Rep G A H (.ktp ds) (.ref (He.ga G.K x)) :=
  ⟨_, _, rfl, fun H1 => He.tupB_ok h H1, dvs_rep A H e⟩
/-- the entries of a written dict -/
def entB (K : PySem.W.Frag) : List DictEntry → List (Str × He.Dv) → Bool
  | [], [] => true
  | e :: es, p :: tbl => (match e.key with
    | .str x _ => decide (x = p.1)
    | _ => false) && (He.relB (p.2.v K) e.val && entB K es tbl)
  | _, _ => false
theorem entB_ok {K : PySem.W.Frag} : ∀ {es : List DictEntry} {vs : List (Str × He.Dv)} {tbl : List (Str × D)}, entB K es vs = true → tbl.map (fun q => (q.1, dvOf q.2)) = vs.map (fun q => (q.1, some q.2)) → (∀ q ∈ tbl, (dvOf q.2).isSome) → entsOk es tbl
  | [], [], [], _, _, _ => trivial
  | [], [], _ :: _, _, h, _ => by cases h
  | [], _ :: _, _, h, _, _ => by cases h
  | _ :: _, [], _, h, _, _ => by cases h
  | _ :: _, _ :: _, [], _, h, _ => by cases h
  | e :: es, p :: vs, q :: tbl, h, hm, ho => by
    injection hm with h1 h2
    obtain ⟨c1, c2⟩ := He.ba (show ((match e.key with
      | .str x _ => decide (x = p.1)
      | _ => false) && (He.relB (p.2.v K) e.val && entB K es vs)) = true from h)
    obtain ⟨c3, c4⟩ := He.ba c2
    obtain ⟨e1, e2⟩ := Prod.mk.inj h1
    refine ⟨?_, ⟨p.2.v K, He.relB_ok c3, fun G A H => ?_⟩, entB_ok c4 h2 fun q hq => ho q (List.mem_cons_of_mem _ hq)⟩
    · cases ek : e.key with
      | str x t =>
        rw [ek] at c1
        exact ⟨t, by rw [of_decide_eq_true c1, ← e1]⟩
      | _ => rw [ek] at c1; cases c1
    · have r := dv_rep (G := G) e2 A H
      cases hp : p.2 <;> first | (rw [hp] at r; exact r) | (rw [hp] at e2; cases hq : q.2 <;> rw [hq] at e2 <;> cases e2)
def tabB (K : PySem.W.Frag) (x : Str) (vs : List (Str × He.Dv)) : Bool := match K.lookup (He.ga K x) with
  | some ⟨_, _, .dict es _, _⟩ => entB K es.toList vs
  | _ => false
theorem kdt_at {G : GX} {w : World} {x : Str} {tbl : List (Str × D)} {vs : List (Str × He.Dv)} (g : G.mg x = some (.ref (He.ga G.K x))) (D : ∃ es n, KDict G.K w (He.ga G.K x) es n) (h : tabB G.K x vs = true) (hm : tbl.map (fun q => (q.1, dvOf q.2)) = vs.map (fun q => (q.1, some q.2))) (ho : ∀ q ∈ tbl, (dvOf q.2).isSome) : KDt G w x (He.ga G.K x) tbl := by
  obtain ⟨es, n, D⟩ := D
  refine kdt_of g D (entB_ok (K := G.K) ?_ hm ho)
  unfold tabB at h
  rw [D.at_] at h
  exact h
/-! ### the end -/
theorem td_walkX {l : PySem.W.OpenLaw} {q : Program} {loose : List Str} {XP : (Str → Option Value) → Heap → Prop} {d : DefRec} {k m : Nat} {x : Str} {fa : List He.Fa} {fn : List He.DefD} {ts : List He.Tab} {tf : List He.Defn} {ex : PySem.W.Frag → Bool} (hn : l.most = some 63) (hdf : d.params.defaults = []) (hr : Room k callerA)
    (F : ∀ (w : World) (mg : Str → Option Value) (a : Addr) (h : Heap) (K : PySem.W.Frag), K.In h → h.Ns mainGlobals mg → mg d.name = some (.ref a) → He.SaysX fa fn ts tf ex w h K →
      ∃ fd : FuncData, (∀ (s : Shared) (u : Value), BindsTo s fd ⟨[u], []⟩ [(x, u)]) ∧ ∀ base : Heap, K.In base → base.Ns mainGlobals mg → FnOk l.prog w K mg base (L2.CX l.prog w) k a fd [x] (spLaw K)) :
    PySem.W.WalkO q loose XP (He.hookX m fa fn ts tf ex).says l.row.toRowW d [] (fun f vs => PySem.call f vs) := by
  refine Att.attach_call hn hdf fun w s₀ s₁ mg mb fa o pm cd doc a vs ns G Y ho hd hcd hmg hobj hints hlen hg => ?_
  obtain ⟨K, KX, c⟩ := Y
  obtain ⟨fd, hb, hF⟩ := F w mg fa _ K KX G.T.g hmg c
  refine law_call KX G.T.g G.T.b G.T.builtins G.T.nolimit hg hobj hints (Nat.le_trans hlen (by decide)) hr hF hb (fun H hO hS => ⟨a, ns, rfl, hS, hO, hlen, fun _ => rfl⟩) fun H e s' z => ?_
  obtain ⟨_, _, _, _, _, _, _, _, _, _, _, _, z⟩ := z
  exact z
end TD

set_option Elab.async false
set_option linter.all false
set_option maxRecDepth 100000
set_option maxHeartbeats 2000000
/-! TD16: zip of two tuples, or of a text and a tuple. -/
namespace TD
open PySem PySem.Spec PyProof.Rows L2
def iZipTT (r : FA) : FI := fun ρ S => (r ρ S).bind fun ds S1 => match ds with
  | [x, y] => match tupOf x, tupOf y with
    | some xs, some ys => .ok (pairsD xs ys, none) S1
    | _, _ => .bad
  | _ => .bad
def iZip2 (r : FA) : FI := fun ρ S => (r ρ S).bind fun ds S1 => match ds with
  | [.str z, y] => match tupOf y with
    | some ys => .ok (pairsD (signs z) ys, none) S1
    | none => .bad
  | [x, y] => match tupOf x, tupOf y with
    | some xs, some ys => .ok (pairsD xs ys, none) S1
    | _, _ => .bad
  | _ => .bad
section
variable {X : Cx} {W : WX} {e e2 : Expr} {fr : FA} {p pos tpos : Pos} {elts : List Expr} {kk : Nat}
theorem di_zipTT (hm : X.mg "zip" = none) (ha : DA X W [e, e2] fr) (hg : Gl X "zip" := by rfl) (hs : starEach [e, e2] X.env = (false, eval e X.env) :: starEach [e2] X.env := by rfl) (hpl : (backTo pos (starEach [e2] X.env)).any (·.1) = false := by rfl) :
    DI X W (.Tuple elts kk tpos) (.Call (.Name "zip" p) [e, e2] [] pos) (iZipTT fr) := (RZ.pi_zipA hg hm ha hs hpl).to fun σ H R ⟨A, ρ, S, he, hs, h⟩ => can_bind he hs h fun ds S1 A1 H1 vs g1 r1 hs1 he1 h1 => by
  split at h1
  · rename_i x y
    split at h1
    · rename_i xs ys ex ey
      obtain ⟨v, t, rfl, r2, v2, t2, rfl, r3, r4⟩ := r1
      cases r4
      obtain ⟨a, us, rfl, j1, j2⟩ := tupOf_at r2 ex
      obtain ⟨b, vs, rfl, k1, k2⟩ := tupOf_at r3 ey
      refine ⟨a, b, us, vs, rfl, .inr ⟨j1, k1, Post.val h1 ?_ hs1⟩⟩
      have j : ∀ A' H', Gr A1 H1 A' H' → ∃ vs, SqT (gx X).K H' a vs ∧ Reps (gx X) A' H' xs vs := fun A' H' g => by
        obtain ⟨b', vs, e, q1, q2⟩ := tupOf_at (r2.mono g) ex
        cases e
        exact ⟨vs, q1, q2⟩
      have k : ∀ A' H', Gr A1 H1 A' H' → ∃ vs, SqT (gx X).K H' b vs ∧ Reps (gx X) A' H' ys vs := fun A' H' g => by
        obtain ⟨b', vs, e, q1, q2⟩ := tupOf_at (r3.mono g) ey
        cases e
        exact ⟨vs, q1, q2⟩
      refine ⟨fun A' H' S' i g hs' _ hi => ?_, fun A' H' S' g hs' _ => ?_, fun A' H' S' i x H'' g hs' _ hi y => ?_⟩
      · rw [pairsD_len] at hi
        obtain ⟨us, p1, p2⟩ := j A' H' g
        obtain ⟨vs, q1, q2⟩ := k A' H' g
        obtain ⟨u, eu, _⟩ := p2.get (List.getElem?_eq_getElem (show i < xs.length by omega))
        obtain ⟨v, ev, _⟩ := q2.get (List.getElem?_eq_getElem (show i < ys.length by omega))
        exact ⟨us, vs, u, v, p1, q1, eu, ev⟩
      · obtain ⟨us, p1, p2⟩ := j A' H' g
        obtain ⟨vs, q1, q2⟩ := k A' H' g
        refine ⟨us, vs, p1, q1, ?_⟩
        have l1 := p2.len
        have l2 := q2.len
        rw [pairsD_len]
        omega
      · obtain ⟨us, p1, p2⟩ := j A' H' g
        obtain ⟨vs, q1, q2⟩ := k A' H' g
        obtain ⟨T, c, u, rfl, hT, rfl, hc, hu⟩ := y
        obtain ⟨d1, ed1, rd1⟩ := p2.nth (hc us p1)
        obtain ⟨d, ed, rd⟩ := q2.nth (hu vs q1)
        exact ⟨_, pairsD_get ed1 ed, Gr.new hT, hs'.new hT, T, _, rfl, upd_same, Reps.cons (rd1.mono (Gr.new hT)) (Reps.cons (rd.mono (Gr.new hT)) Reps.nil)⟩
    · exact h1.elim
  · exact h1.elim
theorem iZip2_or (r : FA) (ρ : Env) (S : Sto) : iZip2 r ρ S = iZipST r ρ S ∨ iZip2 r ρ S = iZipTT r ρ S := by
  unfold iZip2 iZipST iZipTT
  cases r ρ S with
  | bad => exact .inl rfl
  | exc x S => exact .inl rfl
  | ok ds S1 =>
    simp only [Res.bind_ok]
    match ds with
    | [] => exact .inl rfl
    | [x] => cases x <;> exact .inl rfl
    | [x, y] => cases x <;> first | exact .inr rfl | exact .inl rfl
    | x :: _ :: _ :: _ => cases x <;> exact .inl rfl
theorem di_zip2 (hm : X.mg "zip" = none) (ha : DA X W [e, e2] fr) (hg : Gl X "zip" := by rfl) (hs : starEach [e, e2] X.env = (false, eval e X.env) :: starEach [e2] X.env := by rfl) (hpl : (backTo pos (starEach [e2] X.env)).any (·.1) = false := by rfl) :
    DI X W (.Tuple elts kk tpos) (.Call (.Name "zip" p) [e, e2] [] pos) (iZip2 fr) := (pi_or2 (di_zipS hm ha hg hs hpl) (di_zipTT hm ha hg hs hpl)).to fun σ H R ⟨A, ρ, S, he, hs, q⟩ => by
  rcases iZip2_or fr ρ S with e | e
  · exact .inl ⟨A, ρ, S, he, hs, by rw [← e]; exact q⟩
  · exact .inr ⟨A, ρ, S, he, hs, by rw [← e]; exact q⟩
end
end TD

set_option Elab.async false
set_option linter.all false
set_option maxRecDepth 100000
set_option maxHeartbeats 2000000
/-! TD12: a calculus for reading the denotations: WR (expressions), WS (statements), with continuations. -/
namespace TD
open PySem PySem.Spec PyProof.Rows L2

/-- the result is a value with Q, or an exception with X -/
def WR {α : Type} (r : Res α) (Q : α → Sto → Prop) (X : Exc → Sto → Prop) : Prop := match r with
  | .ok a S => Q a S
  | .exc x S => X x S
  | .bad => False
structure Kt where
  nx : Env → Sto → Prop
  rt : D → Sto → Prop
  ex : Exc → Env → Sto → Prop
  bk : Env → Sto → Prop
  ct : Env → Sto → Prop
def WS (r : SR) (K : Kt) : Prop := match r with
  | .bad => False
  | .nx ρ S => K.nx ρ S
  | .rt d S => K.rt d S
  | .exc x ρ S => K.ex x ρ S
  | .bk ρ S => K.bk ρ S
  | .ct ρ S => K.ct ρ S
section
variable {α β : Type} {Q : α → Sto → Prop} {X : Exc → Sto → Prop} {K : Kt} {S : Sto} {ρ : Env}
@[simp] theorem wr_ok (a : α) : WR (.ok a S) Q X ↔ Q a S := Iff.rfl
@[simp] theorem wr_exc (x : Exc) : WR (.exc x S : Res α) Q X ↔ X x S := Iff.rfl
@[simp] theorem wr_bad : WR (.bad : Res α) Q X ↔ False := Iff.rfl
theorem WR.mono {r : Res α} {Q' : α → Sto → Prop} (h : WR r Q X) (k : ∀ a S, Q a S → Q' a S) : WR r Q' X := by
  cases r <;> first | exact k _ _ h | exact h
theorem WR.monoX {r : Res α} {Q' : α → Sto → Prop} {X' : Exc → Sto → Prop} (h : WR r Q X) (k : ∀ a S, Q a S → Q' a S) (kx : ∀ x S, X x S → X' x S) : WR r Q' X' := by
  cases r <;> first | exact k _ _ h | exact kx _ _ h | exact h
theorem wr_bind {r : Res β} {k : β → Sto → Res α} : WR (r.bind k) Q X ↔ WR r (fun b S => WR (k b S) Q X) X := by
  cases r <;> rfl
theorem WR.eq {r : Res α} {a : α} (h : WR r (fun b S' => b = a ∧ S' = S) (fun _ _ => False)) : r = .ok a S := by
  cases r with
  | ok b S' =>
    obtain ⟨rfl, rfl⟩ := h
    rfl
  | exc x S' => exact h.elim
  | bad => exact h.elim
theorem WR.ex {r : Res α} (h : WR r Q (fun _ _ => False)) : ∃ a S, r = .ok a S ∧ Q a S := by
  cases r with
  | ok b S' => exact ⟨b, S', rfl, h⟩
  | exc x S' => exact h.elim
  | bad => exact h.elim
@[simp] theorem ws_nx : WS (.nx ρ S) K ↔ K.nx ρ S := Iff.rfl
@[simp] theorem ws_rt (d : D) : WS (.rt d S) K ↔ K.rt d S := Iff.rfl
@[simp] theorem ws_exc (x : Exc) : WS (.exc x ρ S) K ↔ K.ex x ρ S := Iff.rfl
@[simp] theorem ws_bk : WS (.bk ρ S) K ↔ K.bk ρ S := Iff.rfl
@[simp] theorem ws_ct : WS (.ct ρ S) K ↔ K.ct ρ S := Iff.rfl
@[simp] theorem ws_bad : WS .bad K ↔ False := Iff.rfl
theorem WS.mono {r : SR} {K' : Kt} (h : WS r K) (h1 : ∀ ρ S, K.nx ρ S → K'.nx ρ S) (h2 : ∀ d S, K.rt d S → K'.rt d S) (h3 : ∀ x ρ S, K.ex x ρ S → K'.ex x ρ S) (h4 : ∀ ρ S, K.bk ρ S → K'.bk ρ S) (h5 : ∀ ρ S, K.ct ρ S → K'.ct ρ S) : WS r K' := by
  cases r <;> first | exact h1 _ _ h | exact h2 _ _ h | exact h3 _ _ _ h | exact h4 _ _ h | exact h5 _ _ h | exact h
end
/-- through an option, a flag, a number -/
def OptP {α : Type} (o : Option α) (P : α → Prop) : Prop := match o with
  | some a => P a
  | none => False
def VarP (o : Option (Option D)) (P : D → Prop) : Prop := match o with
  | some (some a) => P a
  | _ => False
def BlP (x : D) (P : Bool → Prop) : Prop := match x with
  | .bl b => P b
  | _ => False
def IntP (x : D) (P : Int → Prop) : Prop := match x with
  | .int b => P b
  | _ => False
@[simp] theorem optP_some {α : Type} (a : α) (P : α → Prop) : OptP (some a) P ↔ P a := Iff.rfl
@[simp] theorem optP_none {α : Type} (P : α → Prop) : OptP none P ↔ False := Iff.rfl
@[simp] theorem varP_some (a : D) (P : D → Prop) : VarP (some (some a)) P ↔ P a := Iff.rfl
@[simp] theorem varP_none (P : D → Prop) : VarP (some none) P ↔ False := Iff.rfl
@[simp] theorem varP_none' (P : D → Prop) : VarP none P ↔ False := Iff.rfl
@[simp] theorem blP_bl (b : Bool) (P : Bool → Prop) : BlP (.bl b) P ↔ P b := Iff.rfl
@[simp] theorem intP_int (b : Int) (P : Int → Prop) : IntP (.int b) P ↔ P b := Iff.rfl
/-! ### expressions -/
section
variable {Q : D → Sto → Prop} {QB : Bool → Sto → Prop} {QL : List D → Sto → Prop} {QO : Option Int → Sto → Prop} {X : Exc → Sto → Prop} {S : Sto} {ρ : Env} {a b c : FE} {t u : FT} {r : FA}
@[simp] theorem w_dV (i : Nat) : WR (dV i ρ S) Q X ↔ VarP ρ[i]? (fun d => Q d S) := by
  unfold dV
  cases e : ρ[i]? with
  | none => exact Iff.rfl
  | some o => cases o <;> exact Iff.rfl
@[simp] theorem w_dC (d : D) : WR (dC d ρ S) Q X ↔ Q d S := Iff.rfl
@[simp] theorem w_dOp (g : Sto → D → D → Res D) : WR (dOp g a b ρ S) Q X ↔ WR (a ρ S) (fun x S1 => WR (b ρ S1) (fun y S2 => WR (g S2 x y) Q X) X) X := by
  unfold dOp
  simp only [wr_bind]
@[simp] theorem w_dUn (g : Sto → D → Res D) : WR (dUn g a ρ S) Q X ↔ WR (a ρ S) (fun x S1 => WR (g S1 x) Q X) X := by
  unfold dUn
  simp only [wr_bind]
@[simp] theorem w_dTst : WR (dTst a ρ S) QB X ↔ WR (a ρ S) (fun x S1 => BlP x (fun b => QB b S1)) X := by
  unfold dTst
  rw [wr_bind]
  cases a ρ S with
  | ok x S1 => cases x <;> exact Iff.rfl
  | exc x S1 => simp
  | bad => simp
@[simp] theorem w_dAnd : WR (dAnd t u ρ S) QB X ↔ WR (t ρ S) (fun b S1 => if b = true then WR (u ρ S1) QB X else QB false S1) X := by
  unfold dAnd
  rw [wr_bind]
  cases t ρ S with
  | ok x S1 => cases x <;> simp
  | exc x S1 => simp
  | bad => simp
@[simp] theorem w_dOr : WR (dOr t u ρ S) QB X ↔ WR (t ρ S) (fun b S1 => if b = true then QB true S1 else WR (u ρ S1) QB X) X := by
  unfold dOr
  rw [wr_bind]
  cases t ρ S with
  | ok x S1 => cases x <;> simp
  | exc x S1 => simp
  | bad => simp
@[simp] theorem w_dNot : WR (dNot t ρ S) QB X ↔ WR (t ρ S) (fun b S1 => QB (!b) S1) X := by
  unfold dNot
  simp only [wr_bind, wr_ok]
@[simp] theorem w_dIf : WR (dIf t a b ρ S) Q X ↔ WR (t ρ S) (fun c S1 => if c = true then WR (a ρ S1) Q X else WR (b ρ S1) Q X) X := by
  unfold dIf
  rw [wr_bind]
  cases t ρ S with
  | ok x S1 => cases x <;> simp
  | exc x S1 => simp
  | bad => simp
@[simp] theorem w_dNil : WR (dNil ρ S) QL X ↔ QL [] S := Iff.rfl
@[simp] theorem w_dCons : WR (dCons a r ρ S) QL X ↔ WR (a ρ S) (fun x S1 => WR (r ρ S1) (fun xs S2 => QL (x :: xs) S2) X) X := by
  unfold dCons
  simp only [wr_bind, wr_ok]
@[simp] theorem w_dTup : WR (dTup r ρ S) Q X ↔ WR (r ρ S) (fun xs S1 => xs.length ≤ 1000 ∧ Q (.tup xs) S1) X := by
  unfold dTup
  rw [wr_bind]
  cases r ρ S with
  | ok x S1 =>
    simp only [wr_ok]
    split <;> simp [*]
  | exc x S1 => simp
  | bad => simp
@[simp] theorem w_dLst : WR (dLst r ρ S) Q X ↔ WR (r ρ S) (fun xs S1 => xs.length ≤ 1000 ∧ Q (.ref S1.length) (S1 ++ [.lst xs])) X := by
  unfold dLst
  rw [wr_bind]
  cases r ρ S with
  | ok x S1 =>
    simp only [wr_ok]
    split <;> simp [*]
  | exc x S1 => simp
  | bad => simp
@[simp] theorem w_dCB (g : Sto → List D → Res D) : WR (dCB g r ρ S) Q X ↔ WR (r ρ S) (fun xs S1 => WR (g S1 xs) Q X) X := by
  unfold dCB
  simp only [wr_bind]
@[simp] theorem w_dAndV : WR (dAndV a b ρ S) Q X ↔ WR (a ρ S) (fun x S1 => BlP x (fun c => if c = true then WR (b ρ S1) Q X else Q (.bl false) S1)) X := by
  unfold dAndV
  rw [wr_bind]
  cases a ρ S with
  | ok x S1 => cases x with
    | bl c => cases c <;> simp
    | _ => exact Iff.rfl
  | exc x S1 => simp
  | bad => simp
@[simp] theorem w_dOrV : WR (dOrV a b ρ S) Q X ↔ WR (a ρ S) (fun x S1 => BlP x (fun c => if c = true then Q (.bl true) S1 else WR (b ρ S1) Q X)) X := by
  unfold dOrV
  rw [wr_bind]
  cases a ρ S with
  | ok x S1 => cases x with
    | bl c => cases c <;> simp
    | _ => exact Iff.rfl
  | exc x S1 => simp
  | bad => simp
@[simp] theorem w_dNotV : WR (dNotV a ρ S) Q X ↔ WR (a ρ S) (fun x S1 => BlP x (fun c => Q (.bl (!c)) S1)) X := by
  unfold dNotV
  rw [wr_bind]
  cases a ρ S with
  | ok x S1 => cases x <;> exact Iff.rfl
  | exc x S1 => simp
  | bad => simp
@[simp] theorem w_dChain (g g' : Sto → D → D → Res D) : WR (dChain g g' a b c ρ S) Q X ↔ WR (a ρ S) (fun x S1 => WR (b ρ S1) (fun y S2 => WR (g S2 x y) (fun z S3 => BlP z (fun k => if k = true then WR (c ρ S3) (fun u S4 => WR (g' S4 y u) Q X) X else Q (.bl false) S3)) X) X) X := by
  unfold dChain
  rw [wr_bind]
  cases a ρ S with
  | ok x S1 =>
    simp only [wr_ok, wr_bind]
    cases b ρ S1 with
    | ok y S2 =>
      simp only [wr_ok]
      cases g S2 x y with
      | ok z S3 => cases z with
        | bl k => cases k <;> simp [wr_bind]
        | _ => exact Iff.rfl
      | exc x S1 => simp
      | bad => simp
    | exc x S1 => simp
    | bad => simp
  | exc x S1 => simp
  | bad => simp
@[simp] theorem w_dO0 : WR (dO0 ρ S) QO X ↔ QO none S := Iff.rfl
@[simp] theorem w_dO1 : WR (dO1 a ρ S) QO X ↔ WR (a ρ S) (fun x S1 => IntP x (fun i => QO (some i) S1)) X := by
  unfold dO1
  rw [wr_bind]
  cases a ρ S with
  | ok x S1 => cases x <;> exact Iff.rfl
  | exc x S1 => simp
  | bad => simp
@[simp] theorem w_dSl {l u : FO} : WR (dSl a l u ρ S) Q X ↔ WR (a ρ S) (fun x S1 => WR (l ρ S1) (fun lo S2 => WR (u ρ S2) (fun hi S3 => WR (gSl S3 x lo hi) Q X) X) X) X := by
  unfold dSl
  simp only [wr_bind]
@[simp] theorem w_dM (T : String) (g : Sto → D → List D → Res D) : WR (dM T g a r ρ S) Q X ↔ WR (a ρ S) (fun x S1 => isTy T S1 x ∧ WR (r ρ S1) (fun ds S2 => WR (g S2 x ds) Q X) X) X := by
  unfold dM
  rw [wr_bind]
  cases a ρ S with
  | ok x S1 =>
    simp only [wr_ok]
    split <;> simp [*, wr_bind]
  | exc x S1 => simp
  | bad => simp
@[simp] theorem w_dFld (cn f : Str) : WR (dFld cn f a ρ S) Q X ↔ WR (a ρ S) (fun x S1 => OptP (insOf S1 cn x) (fun p => OptP (p.2.lookup f) (fun d => Q d S1))) X := by
  unfold dFld
  rw [wr_bind]
  cases a ρ S with
  | ok x S1 =>
    simp only [wr_ok]
    cases e : insOf S1 cn x with
    | none => simp
    | some p =>
      obtain ⟨n, fs⟩ := p
      simp only [optP_some]
      cases e2 : fs.lookup f <;> exact Iff.rfl
  | exc x S1 => simp
  | bad => simp
@[simp] theorem w_dMake (cn : Str) (F : DFn) : WR (dMake cn F r ρ S) Q X ↔ WR (r ρ S) (fun ds S1 => WR (F (.ref S1.length :: ds) (S1 ++ [.ins cn []])) (fun d S2 => d = .non ∧ Q (.ref S1.length) S2) X) X := by
  unfold dMake
  simp only [wr_bind]
  cases r ρ S with
  | ok ds S1 =>
    simp only [wr_ok]
    cases F (.ref S1.length :: ds) (S1 ++ [.ins cn []]) with
    | ok d S2 => cases d <;> simp
    | exc x S1 => simp
    | bad => simp
  | exc x S1 => simp
  | bad => simp
@[simp] theorem w_dMeth (cn m : Str) (F : DFn) : WR (dMeth cn m F a r ρ S) Q X ↔ WR (a ρ S) (fun x S1 => OptP (insOf S1 cn x) (fun p => p.2.lookup m = none ∧ WR (r ρ S1) (fun ds S2 => WR (F (x :: ds) S2) Q X) X)) X := by
  unfold dMeth
  rw [wr_bind]
  cases a ρ S with
  | ok x S1 =>
    simp only [wr_ok]
    cases e : insOf S1 cn x with
    | none => simp
    | some p =>
      obtain ⟨n, fs⟩ := p
      simp only [optP_some]
      cases e2 : fs.lookup m with
      | none => simp only [true_and, wr_bind]
      | some d => simp only [wr_bad, reduceCtorEq, false_and]
  | exc x S1 => simp
  | bad => simp
@[simp] theorem w_prNil {QP : List (D × D) → Sto → Prop} : WR (prL [] ρ S) QP X ↔ QP [] S := Iff.rfl
@[simp] theorem w_prCons {QP : List (D × D) → Sto → Prop} {ps : List (FE × FE)} : WR (prL ((a, b) :: ps) ρ S) QP X ↔ WR (a ρ S) (fun x S1 => WR (b ρ S1) (fun y S2 => WR (prL ps ρ S2) (fun q S3 => QP ((x, y) :: q) S3) X) X) X := by
  simp only [prL, wr_bind, wr_ok]
@[simp] theorem w_dDisp (prs : List (FE × FE)) : WR (dDisp prs ρ S) Q X ↔ WR (prL prs ρ (S ++ [.dct []])) (fun ps S2 => OptP (keysD ps) (fun kvs => S2[S.length]? = some (.dct []) ∧ kvs.length ≤ 15 ∧ Q (.ref S.length) (S2.set S.length (.dct (mergeD [] kvs))))) X := by
  unfold dDisp
  rw [wr_bind]
  cases prL prs ρ (S ++ [.dct []]) with
  | ok ps S2 =>
    simp only [wr_ok]
    cases e : keysD ps with
    | none => simp
    | some kvs =>
      simp only []
      cases e2 : S2[S.length]? with
      | none => simp
      | some o => cases o with
        | dct q => cases q with
          | nil =>
            simp only []
            split <;> simp [*]
          | cons x y => simp
        | _ => simp
  | exc x S1 => simp
  | bad => simp
end
/-! ### statements -/
section
variable {K : Kt} {S : Sto} {ρ : Env} {e o v : FE} {t : FT} {s1 s2 : FS}
@[simp] theorem w_sNext : WS (sNext ρ S) K ↔ K.nx ρ S := Iff.rfl
@[simp] theorem w_sBrk : WS (sBrk ρ S) K ↔ K.bk ρ S := Iff.rfl
@[simp] theorem w_sCnt : WS (sCnt ρ S) K ↔ K.ct ρ S := Iff.rfl
@[simp] theorem w_sBad : WS (sBad ρ S) K ↔ False := Iff.rfl
@[simp] theorem w_sRetN : WS (sRetN ρ S) K ↔ K.rt .non S := Iff.rfl
@[simp] theorem w_sSeq : WS (sSeq s1 s2 ρ S) K ↔ WS (s1 ρ S) ⟨fun ρ1 S1 => WS (s2 ρ1 S1) K, K.rt, K.ex, K.bk, K.ct⟩ := by
  unfold sSeq
  cases s1 ρ S <;> rfl
@[simp] theorem w_sIf : WS (sIf t s1 s2 ρ S) K ↔ WR (t ρ S) (fun c S1 => if c = true then WS (s1 ρ S1) K else WS (s2 ρ S1) K) (fun x S1 => K.ex x ρ S1) := by
  unfold sIf
  cases t ρ S with
  | ok c S1 => cases c <;> simp
  | exc x S1 => simp
  | bad => simp
@[simp] theorem w_sDrop : WS (sDrop e ρ S) K ↔ WR (e ρ S) (fun _ S1 => K.nx ρ S1) (fun x S1 => K.ex x ρ S1) := by
  unfold sDrop
  cases e ρ S <;> rfl
@[simp] theorem w_sRet : WS (sRet e ρ S) K ↔ WR (e ρ S) (fun d S1 => K.rt d S1) (fun x S1 => K.ex x ρ S1) := by
  unfold sRet
  cases e ρ S <;> rfl
@[simp] theorem w_sSet (i : Nat) : WS (sSet i e ρ S) K ↔ WR (e ρ S) (fun d S1 => K.nx (ρ.set i (some d)) S1) (fun x S1 => K.ex x ρ S1) := by
  unfold sSet
  cases e ρ S <;> rfl
@[simp] theorem w_sAug (i : Nat) (g : Int → Int → Int) : WS (sAug i g e ρ S) K ↔ VarP ρ[i]? (fun d => IntP d (fun p => WR (e ρ S) (fun d S1 => IntP d (fun q => K.nx (ρ.set i (some (.int (g p q)))) S1)) (fun x S1 => K.ex x ρ S1))) := by
  unfold sAug
  cases h : ρ[i]? with
  | none => exact Iff.rfl
  | some q => cases q with
    | none => exact Iff.rfl
    | some d => cases d with
      | int p =>
        simp only [varP_some, intP_int]
        cases e ρ S with
        | ok d S1 => cases d <;> exact Iff.rfl
        | exc x S1 => exact Iff.rfl
        | bad => exact Iff.rfl
      | _ => exact Iff.rfl
@[simp] theorem w_sFldS (cn f : Str) : WS (sFldS cn f o v ρ S) K ↔ WR (v ρ S) (fun y S1 => WR (o ρ S1) (fun x S2 => OptP (insOf S2 cn x) (fun p => p.2.length < 100 ∧ K.nx ρ (S2.set p.1 (.ins cn (putFD f y p.2))))) (fun x S1 => K.ex x ρ S1)) (fun x S1 => K.ex x ρ S1) := by
  unfold sFldS
  cases v ρ S with
  | ok y S1 =>
    simp only [Res.bind_ok, wr_ok]
    cases o ρ S1 with
    | ok x S2 =>
      simp only [Res.bind_ok, wr_ok]
      cases h : insOf S2 cn x with
      | none => simp
      | some p =>
        obtain ⟨n, fs⟩ := p
        by_cases hl : fs.length < 100 <;> simp [hl]
    | exc x S1 => simp
    | bad => simp
  | exc x S1 => simp
  | bad => simp
@[simp] theorem w_sFldA (cn f : Str) (g : Int → Int → Int) : WS (sFldA cn f g o v ρ S) K ↔ WR (o ρ S) (fun x S1 => OptP (insOf S1 cn x) (fun p => OptP (p.2.lookup f) (fun d => IntP d (fun i => WR (v ρ S1) (fun y S2 => IntP y (fun j => OptP (insOf S2 cn x) (fun q => q.2.length < 100 ∧ K.nx ρ (S2.set q.1 (.ins cn (putFD f (.int (g i j)) q.2)))))) (fun x S1 => K.ex x ρ S1))))) (fun x S1 => K.ex x ρ S1) := by
  unfold sFldA
  cases o ρ S with
  | ok x S1 =>
    simp only [Res.bind_ok, wr_ok]
    cases h : insOf S1 cn x with
    | none => exact Iff.rfl
    | some p =>
      obtain ⟨n, fs⟩ := p
      simp only [optP_some]
      cases h2 : fs.lookup f with
      | none => exact Iff.rfl
      | some d => cases d with
        | int i =>
          simp only [optP_some, intP_int]
          cases v ρ S1 with
          | ok y S2 => cases y with
            | int j =>
              simp only [Res.bind_ok, wr_ok, intP_int]
              cases h3 : insOf S2 cn x with
              | none => exact Iff.rfl
              | some q =>
                obtain ⟨m, gs⟩ := q
                simp only [optP_some]
                by_cases hl : gs.length < 100
                · simp [hl]
                · simp [hl]
            | _ => exact Iff.rfl
          | exc x S1 => exact Iff.rfl
          | bad => exact Iff.rfl
        | _ => exact Iff.rfl
  | exc x S1 => exact Iff.rfl
  | bad => exact Iff.rfl
@[simp] theorem w_sPut2 {k : FE} : WS (sPut2 o k v ρ S) K ↔ WR (v ρ S) (fun z S1 => WR (o ρ S1) (fun x S2 => WR (k ρ S2) (fun y S3 => WR (putAny z S3 x y) (fun _ S4 => K.nx ρ S4) (fun x S1 => K.ex x ρ S1)) (fun x S1 => K.ex x ρ S1)) (fun x S1 => K.ex x ρ S1)) (fun x S1 => K.ex x ρ S1) := by
  unfold sPut2
  cases v ρ S with
  | ok y S1 =>
    simp only [Res.bind_ok, wr_ok]
    cases o ρ S1 with
    | ok x S2 =>
      simp only [Res.bind_ok, wr_ok]
      cases k ρ S2 with
      | ok y S3 =>
        simp only [Res.bind_ok, wr_ok]
        cases putAny _ S3 x y <;> rfl
      | exc x S1 => simp
      | bad => simp
    | exc x S1 => simp
    | bad => simp
  | exc x S1 => simp
  | bad => simp
@[simp] theorem w_sBind (bd : FG) : WS (sBind bd e ρ S) K ↔ WR (e ρ S) (fun d S1 => OptP (bd d ρ) (fun ρ1 => K.nx ρ1 S1)) (fun x S1 => K.ex x ρ S1) := by
  unfold sBind
  cases e ρ S with
  | ok d S1 =>
    simp only [wr_ok]
    cases bd d ρ <;> simp
  | exc x S1 => simp
  | bad => simp
@[simp] theorem w_sFor (fi : FI) (bd : FG) (body : FS) : WS (sFor fi bd body ρ S) K ↔ WR (fi ρ S) (fun p S1 => WS (forL p bd body p.1 ρ S1) K) (fun x S1 => K.ex x ρ S1) := by
  unfold sFor
  cases fi ρ S <;> rfl
@[simp] theorem w_sWhile (n : Nat) (body : FS) : WS (sWhile n t body ρ S) K ↔ WS (whileL t body n ρ S) K := Iff.rfl
/-- for: an invariant over what is left -/
theorem ws_forL {p : List D × Option (Nat × List D)} {bd : FG} {body : FS} (I : List D → Env → Sto → Prop) (hg : ∀ ds ρ S, I ds ρ S → guardOk p S)
    (hs : ∀ d ds ρ S, I (d :: ds) ρ S → ∃ ρ1, bd d ρ = some ρ1 ∧ WS (body ρ1 S) ⟨I ds, K.rt, K.ex, K.nx, I ds⟩) (hn : ∀ ρ S, I [] ρ S → K.nx ρ S) : ∀ (ds : List D) (ρ : Env) (S : Sto), I ds ρ S → WS (forL p bd body ds ρ S) K
  | [], ρ, S, h => by
    unfold forL
    rw [if_pos (hg _ _ _ h)]
    exact hn ρ S h
  | d :: ds, ρ, S, h => by
    unfold forL
    rw [if_pos (hg _ _ _ h)]
    obtain ⟨ρ1, e1, hb⟩ := hs d ds ρ S h
    simp only [e1]
    cases e2 : body ρ1 S with
    | nx ρ2 S2 =>
      rw [e2] at hb
      exact ws_forL I hg hs hn ds ρ2 S2 hb
    | ct ρ2 S2 =>
      rw [e2] at hb
      exact ws_forL I hg hs hn ds ρ2 S2 hb
    | bk ρ2 S2 => rw [e2] at hb; exact hb
    | rt d S2 => rw [e2] at hb; exact hb
    | exc x ρ2 S2 => rw [e2] at hb; exact hb
    | bad => rw [e2] at hb; exact hb.elim
theorem ws_whileL {t : FT} {body : FS} (I : Nat → Env → Sto → Prop) (hs : ∀ n ρ S, I (n + 1) ρ S → WR (t ρ S) (fun c S1 => if c = true then WS (body ρ S1) ⟨I n, K.rt, K.ex, K.nx, I n⟩ else K.nx ρ S1) (fun x S1 => K.ex x ρ S1)) (h0 : ∀ ρ S, ¬ I 0 ρ S) : ∀ (n : Nat) (ρ : Env) (S : Sto), I n ρ S → WS (whileL t body n ρ S) K
  | 0, ρ, S, h => (h0 ρ S h).elim
  | n + 1, ρ, S, h => by
    have z := hs n ρ S h
    unfold whileL
    cases e1 : t ρ S with
    | ok c S1 =>
      rw [e1] at z
      cases c with
      | false => exact z
      | true =>
        have z : WS (body ρ S1) ⟨I n, K.rt, K.ex, K.nx, I n⟩ := by simpa using z
        show WS (if (true = true) then _ else _) K
        rw [if_pos rfl]
        cases e2 : body ρ S1 with
        | nx ρ2 S2 =>
          rw [e2] at z
          exact ws_whileL I hs h0 n ρ2 S2 z
        | ct ρ2 S2 =>
          rw [e2] at z
          exact ws_whileL I hs h0 n ρ2 S2 z
        | bk ρ2 S2 => rw [e2] at z; exact z
        | rt d S2 => rw [e2] at z; exact z
        | exc x ρ2 S2 => rw [e2] at z; exact z
        | bad => rw [e2] at z; exact z.elim
    | exc x S1 => rw [e1] at z; exact z
    | bad => rw [e1] at z; exact z.elim
/-- a list comprehension -/
theorem wr_lcL {Q : D → Sto → Prop} {X : Exc → Sto → Prop} {p : List D × Option (Nat × List D)} {bd : FG} {t : FT} {e : FE} {n : Nat} {ρ0 : Env} (I : List D → List D → Sto → Prop) (hI : ∀ ds acc S, I ds acc S → guardOk p S ∧ S[n]? = some (.lst acc))
    (hs : ∀ d ds acc S, I (d :: ds) acc S → ∃ ρ1, bd d ρ0 = some ρ1 ∧ WR (t ρ1 S) (fun b S1 => if b = true then WR (e ρ1 S1) (fun y S2 => S2[n]? = some (.lst acc) ∧ acc.length < 1000000 ∧ I ds (acc ++ [y]) (S2.set n (.lst (acc ++ [y])))) (fun _ _ => False) else I ds acc S1) (fun _ _ => False))
    (hn : ∀ acc S, I [] acc S → Q (.ref n) S) : ∀ (ds acc : List D) (S : Sto), I ds acc S → WR (lcL p bd t e n ρ0 ds S) Q X
  | [], acc, S, h => by
    unfold lcL
    rw [if_pos (hI _ _ _ h).1]
    exact hn acc S h
  | d :: ds, acc, S, h => by
    unfold lcL
    rw [if_pos (hI _ _ _ h).1]
    obtain ⟨ρ1, e1, hb⟩ := hs d ds acc S h
    rw [e1]
    simp only []
    cases e2 : t ρ1 S with
    | ok b S1 =>
      rw [e2] at hb
      cases b with
      | false =>
        have hb : I ds acc S1 := by simpa using hb
        simpa using wr_lcL I hI hs hn ds acc S1 hb
      | true =>
        have hb : WR (e ρ1 S1) (fun y S2 => S2[n]? = some (.lst acc) ∧ acc.length < 1000000 ∧ I ds (acc ++ [y]) (S2.set n (.lst (acc ++ [y])))) (fun _ _ => False) := by simpa using hb
        simp only [if_true]
        cases e3 : e ρ1 S1 with
        | ok y S2 =>
          rw [e3] at hb
          obtain ⟨h1, h2, h3⟩ := hb
          simp only [h1, h2, if_true]
          simpa using wr_lcL I hI hs hn ds (acc ++ [y]) _ h3
        | exc x S2 => rw [e3] at hb; exact hb.elim
        | bad => rw [e3] at hb; exact hb.elim
    | exc x S1 => rw [e2] at hb; exact hb.elim
    | bad => rw [e2] at hb; exact hb.elim
theorem wr_dcL {Q : D → Sto → Prop} {X : Exc → Sto → Prop} {p : List D × Option (Nat × List D)} {bd : FG} {t : FT} {ek ev : FE} {n : Nat} {ρ0 : Env} (I : List D → List (Key × D) → Sto → Prop) (hI : ∀ ds acc S, I ds acc S → guardOk p S ∧ S[n]? = some (.dct acc))
    (hs : ∀ d ds acc S, I (d :: ds) acc S → ∃ ρ1, bd d ρ0 = some ρ1 ∧ WR (t ρ1 S) (fun b S1 => if b = true then WR (ek ρ1 S1) (fun y S2 => WR (ev ρ1 S2) (fun z S3 => ∃ k, keyOf y = some k ∧ S3[n]? = some (.dct acc) ∧ acc.length < 1000000 ∧ I ds (putD acc k z) (S3.set n (.dct (putD acc k z)))) (fun _ _ => False)) (fun _ _ => False) else I ds acc S1) (fun _ _ => False))
    (hn : ∀ acc S, I [] acc S → Q (.ref n) S) : ∀ (ds : List D) (acc : List (Key × D)) (S : Sto), I ds acc S → WR (dcL p bd t ek ev n ρ0 ds S) Q X
  | [], acc, S, h => by
    unfold dcL
    rw [if_pos (hI _ _ _ h).1]
    exact hn acc S h
  | d :: ds, acc, S, h => by
    unfold dcL
    rw [if_pos (hI _ _ _ h).1]
    obtain ⟨ρ1, e1, hb⟩ := hs d ds acc S h
    rw [e1]
    simp only []
    cases e2 : t ρ1 S with
    | ok b S1 =>
      rw [e2] at hb
      cases b with
      | false =>
        have hb : I ds acc S1 := by simpa using hb
        simpa using wr_dcL I hI hs hn ds acc S1 hb
      | true =>
        simp only [wr_ok, if_true] at hb
        simp only [if_true]
        cases e3 : ek ρ1 S1 with
        | ok y S2 =>
          rw [e3] at hb
          cases e4 : ev ρ1 S2 with
          | ok z S3 =>
            simp only [wr_ok, e4] at hb
            obtain ⟨k, h0, h1, h2, h3⟩ := hb
            simp only [e4, h0, h1, h2, if_true]
            simpa using wr_dcL I hI hs hn ds (putD acc k z) _ h3
          | exc x S2 => simp only [wr_ok, e4] at hb; exact hb.elim
          | bad => simp only [wr_ok, e4] at hb; exact hb.elim
        | exc x S2 => rw [e3] at hb; exact hb.elim
        | bad => rw [e3] at hb; exact hb.elim
    | exc x S1 => rw [e2] at hb; exact hb.elim
    | bad => rw [e2] at hb; exact hb.elim
@[simp] theorem w_dLc {Q : D → Sto → Prop} {X : Exc → Sto → Prop} (fi : FI) (bd : FG) (own : List Nat) : WR (dLc fi bd t e own ρ S) Q X ↔ WR (fi ρ S) (fun p S1 => WR (lcL p bd t e S1.length (wipeD ρ own) p.1 (S1 ++ [.lst []])) Q X) X := by
  unfold dLc
  rw [wr_bind]
@[simp] theorem w_dDc {Q : D → Sto → Prop} {X : Exc → Sto → Prop} {k : FE} (fi : FI) (bd : FG) (own : List Nat) : WR (dDc fi bd t k e own ρ S) Q X ↔ WR (fi ρ S) (fun p S1 => WR (dcL p bd t k e S1.length (wipeD ρ own) p.1 (S1 ++ [.dct []])) Q X) X := by
  unfold dDc
  rw [wr_bind]
@[simp] theorem w_tTrue {QB : Bool → Sto → Prop} {X : Exc → Sto → Prop} : WR (tTrue ρ S) QB X ↔ QB true S := Iff.rfl
end
/-! ### iteration -/
section
variable {Q : List D × Option (Nat × List D) → Sto → Prop} {X : Exc → Sto → Prop} {S : Sto} {ρ : Env} {a : FE} {r : FA}
@[simp] theorem w_iRg1 : WR (iRg1 r ρ S) Q X ↔ WR (r ρ S) (fun ds S1 => ∃ j, ds = [.int j] ∧ rngOk j ∧ Q (rgD 0 j.toNat, none) S1) X := by
  unfold iRg1
  rw [wr_bind]
  cases r ρ S with
  | ok ds S1 =>
    simp only [wr_ok]
    split
    · split <;> simp [*]
    · rename_i h
      simp only [wr_bad, false_iff]
      rintro ⟨j, e, _⟩
      exact h j e
  | exc x S1 => simp
  | bad => simp
@[simp] theorem w_iRg2 : WR (iRg2 r ρ S) Q X ↔ WR (r ρ S) (fun ds S1 => ∃ i j, ds = [.int i, .int j] ∧ rngOk i ∧ rngOk j ∧ Q (rgD i (j - i).toNat, none) S1) X := by
  unfold iRg2
  rw [wr_bind]
  cases r ρ S with
  | ok ds S1 =>
    simp only [wr_ok]
    split
    · rename_i i j
      by_cases h : rngOk i ∧ rngOk j
      · rw [if_pos h]
        exact ⟨fun z => ⟨i, j, rfl, h.1, h.2, z⟩, by rintro ⟨_, _, e, _, _, z⟩; cases e; exact z⟩
      · rw [if_neg h]
        exact ⟨fun z => z.elim, by rintro ⟨_, _, e, h1, h2, z⟩; cases e; exact h ⟨h1, h2⟩⟩
    · rename_i h
      simp only [wr_bad, false_iff]
      rintro ⟨i, j, e, _⟩
      exact h i j e
  | exc x S1 => simp
  | bad => simp
/-- what a for goes through -/
def itOf (S : Sto) : D → Option (List D × Option (Nat × List D))
  | .str z => some (signs z, none)
  | .tup xs => some (xs, none)
  | .ktp xs => some (xs, none)
  | .fls xs => some (xs, none)
  | .ref n => match S[n]? with
    | some (.lst xs) => some (xs, some (n, xs))
    | _ => none
  | _ => none
@[simp] theorem itOf_str (z : Str) : itOf S (.str z) = some (signs z, none) := rfl
@[simp] theorem itOf_tup (xs : List D) : itOf S (.tup xs) = some (xs, none) := rfl
@[simp] theorem itOf_ktp (xs : List D) : itOf S (.ktp xs) = some (xs, none) := rfl
@[simp] theorem itOf_fls (xs : List D) : itOf S (.fls xs) = some (xs, none) := rfl
theorem itOf_ref {n : Nat} {xs : List D} (h : S[n]? = some (.lst xs)) : itOf S (.ref n) = some (xs, some (n, xs)) := by
  simp only [itOf, h]
@[simp] theorem w_iAny : WR (iAny a ρ S) Q X ↔ WR (a ρ S) (fun x S1 => OptP (itOf S1 x) (fun p => Q p S1)) X := by
  unfold iAny
  rw [wr_bind]
  cases a ρ S with
  | ok x S1 =>
    simp only [wr_ok]
    cases x with
    | ref n =>
      simp only [tupOf, listOf, itOf, guardOf]
      cases S1[n]? with
      | none => simp
      | some o => cases o <;> simp
    | _ => simp [tupOf, listOf, itOf, guardOf]
  | exc x S1 => simp
  | bad => simp
@[simp] theorem w_iZipST : WR (iZipST r ρ S) Q X ↔ WR (r ρ S) (fun ds S1 => ∃ z y ys, ds = [.str z, y] ∧ tupOf y = some ys ∧ Q (pairsD (signs z) ys, none) S1) X := by
  unfold iZipST
  rw [wr_bind]
  cases r ρ S with
  | ok ds S1 =>
    simp only [wr_ok]
    split
    · rename_i z y
      cases h : tupOf y with
      | none =>
        simp only [wr_bad, false_iff]
        rintro ⟨_, _, _, e, e2, _⟩
        cases e
        rw [h] at e2
        cases e2
      | some ys =>
        simp only [wr_ok]
        exact ⟨fun q => ⟨z, y, ys, rfl, h, q⟩, by rintro ⟨_, _, _, e, e2, q⟩; cases e; rw [h] at e2; cases e2; exact q⟩
    · rename_i h
      simp only [wr_bad, false_iff]
      rintro ⟨z, y, ys, e, _⟩
      exact h z y e
  | exc x S1 => simp
  | bad => simp
@[simp] theorem guardOk_none (xs : List D) : guardOk (xs, none) S ↔ True := Iff.rfl
@[simp] theorem guardOk_some (ys xs : List D) (n : Nat) : guardOk (ys, some (n, xs)) S ↔ S[n]? = some (.lst xs) := Iff.rfl
end
/-! ### defs -/
theorem wr_dfun {n N : Nat} {body : FS} {ds : List D} {S : Sto} {Q : D → Sto → Prop} {X : Exc → Sto → Prop} (hn : ds.length = n)
    (h : WS (body (ds.map some ++ List.replicate (N - n) none) S) ⟨fun _ S' => WR (gc S (.ok .non S')) Q X, fun d S' => WR (gc S (.ok d S')) Q X, fun x _ S' => WR (gc S (.exc x S')) Q X, fun _ _ => False, fun _ _ => False⟩) : WR (dfun n N body ds S) Q X := by
  unfold dfun
  rw [if_pos hn]
  cases e : body (ds.map some ++ List.replicate (N - n) none) S <;> rw [e] at h <;> first | exact h | exact h.elim
theorem gc_same {S S' : Sto} {d : D} (h : S'.length = S.length) : gc S (.ok d S') = .ok d S' := by
  have ht : S'.take S.length = S' := List.take_of_length_le (by rw [h]; exact Nat.le_refl _)
  simp only [gc]
  split
  · split
    · rw [ht]
    · rename_i hc
      split
      · rename_i m
        have hm : S.length ≤ m := Nat.le_of_not_lt fun z => hc (by simp [clD, z])
        have e : S'[m]? = none := List.getElem?_eq_none (by omega)
        rw [e]
      · rfl
  · rfl
/-- what the store keeps of its old part -/
def Upd (S S1 : Sto) : Prop := S1.length = S.length ∧ ∀ (i : Nat) (o : DO), S1[i]? = some o → S[i]? = some o ∨ clO S.length o = true
theorem Upd.rfl' {S : Sto} : Upd S S := ⟨rfl, fun _ _ h => .inl h⟩
theorem Upd.set {S S1 : Sto} (h : Upd S S1) (p : Nat) {o : DO} (ho : clO S.length o = true) : Upd S (S1.set p o) := ⟨by rw [List.length_set]; exact h.1, fun i u e => by
  rw [List.getElem?_set] at e
  split at e
  · split at e
    · cases e
      exact .inr ho
    · cases e
  · exact h.2 i u e⟩
theorem Upd.gcOk {S S1 T : Sto} (h : Upd S S1) : gcOk S (S1 ++ T) := ⟨by rw [List.length_append, h.1]; omega, fun i o hi e => h.2 i o (by rw [List.getElem?_append_left (by rw [h.1]; exact hi)] at e; exact e)⟩
theorem gc_app {S S1 T : Sto} {d : D} (h : Upd S S1) (hd : clD S.length d = true) : gc S (.ok d (S1 ++ T)) = .ok d S1 := by
  simp only [gc]
  rw [if_pos h.gcOk, if_pos hd, ← h.1, List.take_left']
  rfl
theorem gc_new {S S1 T : Sto} {m : Nat} {o : DO} (h : Upd S S1) (hm : S.length ≤ m) (hg : (S1 ++ T)[m]? = some o) (ho : clO S.length o = true) : gc S (.ok (.ref m) (S1 ++ T)) = .ok (.ref S.length) (S1 ++ [o]) := by
  have e1 : clD S.length (.ref m) = false := by simp [clD]; exact hm
  simp only [gc]
  rw [if_pos h.gcOk, if_neg (by rw [e1]; decide), hg]
  simp only [ho, if_true]
  rw [← h.1, List.take_left']
  rfl
theorem gc_exc {S S1 T : Sto} {x : Exc} (h : Upd S S1) (hd : clX S.length x = true) : gc S (.exc x (S1 ++ T)) = .exc x S1 := by
  simp only [gc]
  rw [if_pos ⟨h.gcOk, hd⟩, ← h.1, List.take_left']
  rfl
end TD

set_option Elab.async false
set_option linter.all false
set_option maxRecDepth 100000
set_option maxHeartbeats 2000000
/-! TD13: the operations at known kinds, for simp. -/
namespace TD
open PySem PySem.Spec PyProof.Rows L2

theorem ofString_inj {a b : String} : Str.ofString a = Str.ofString b ↔ a = b := by
  constructor
  · intro h
    rw [PySem.Str.ofString_eq_toList, PySem.Str.ofString_eq_toList] at h
    injection h with h
    have h2 : a.toList.map Char.toNat = b.toList.map Char.toNat := by simpa using h
    have h3 : a.toList = b.toList := List.map_inj_right (fun x y e => Char.toNat_inj.mp e) |>.mp h2
    exact String.toList_inj.mp h3
  · exact fun h => by rw [h]
@[simp] theorem str_eq {a b : String} : (Str.ofString a = Str.ofString b) ↔ a = b := ofString_inj
@[simp] theorem str_beq {a b : String} : (Str.ofString a == Str.ofString b) = (a == b) := by
  by_cases h : a = b
  · rw [h]
    simp
  · have h2 : ¬ Str.ofString a = Str.ofString b := fun e => h (ofString_inj.mp e)
    rw [beq_eq_false_iff_ne.mpr h2, beq_eq_false_iff_ne.mpr h]
section
variable {Q : D → Sto → Prop} {QU : Unit → Sto → Prop} {X : Exc → Sto → Prop} {S : Sto}
@[simp] theorem g_add (i j : Int) : WR (gAdd S (.int i) (.int j)) Q X ↔ Q (.int (i + j)) S := Iff.rfl
@[simp] theorem g_addS (a b : Str) : WR (gAdd S (.str a) (.str b)) Q X ↔ a.length + b.length ≤ 1000000 ∧ Q (.str (a ++ b)) S := by
  simp only [gAdd]
  split <;> simp [*]
@[simp] theorem g_addT (a b : List D) : WR (gAdd S (.tup a) (.tup b)) Q X ↔ a.length + b.length ≤ 1000000 ∧ Q (.tup (a ++ b)) S := by
  simp only [gAdd]
  split <;> simp [*]
theorem g_addL {n m : Nat} {a b : List D} (hn : S[n]? = some (.lst a)) (hm : S[m]? = some (.lst b)) : WR (gAdd S (.ref n) (.ref m)) Q X ↔ a.length + b.length ≤ 1000000 ∧ Q (.ref S.length) (S ++ [.lst (a ++ b)]) := by
  simp only [gAdd, hn, hm]
  split <;> simp [*]
@[simp] theorem g_sub (i j : Int) : WR (gSub S (.int i) (.int j)) Q X ↔ Q (.int (i - j)) S := Iff.rfl
def MulOk (i j : Int) : Prop := (-18446744073709551616 < i ∧ i < 18446744073709551616) ∨ (-18446744073709551616 < j ∧ j < 18446744073709551616)
@[simp] theorem g_mul {i j : Int} : WR (gMul S (.int i) (.int j)) Q X ↔ MulOk i j ∧ Q (.int (i * j)) S := by
  unfold MulOk
  simp only [gMul]
  split <;> simp [*]
@[simp] theorem mulOk_modL {x y m : Int} (h : 0 < m) (h2 : m < 18446744073709551616) : MulOk (x % m) y := .inl ⟨by have := Int.emod_nonneg x (by omega : m ≠ 0); omega, by have := Int.emod_lt_of_pos x h; omega⟩
theorem mulOkL {i j : Int} (h : -18446744073709551616 < i) (h2 : i < 18446744073709551616) : MulOk i j := .inl ⟨h, h2⟩
theorem mulOkR {i j : Int} (h : -18446744073709551616 < j) (h2 : j < 18446744073709551616) : MulOk i j := .inr ⟨h, h2⟩
@[simp] theorem g_mod {i j : Int} : WR (gMod S (.int i) (.int j)) Q X ↔ 0 < j ∧ Q (.int (i % j)) S := by
  simp only [gMod]
  split <;> simp [*]
@[simp] theorem g_div {i j : Int} : WR (gDiv S (.int i) (.int j)) Q X ↔ (0 < j ∧ j < 1073741824) ∧ Q (.int (i / j)) S := by
  simp only [gDiv]
  split <;> simp [*]
@[simp] theorem g_pow {i j : Int} : WR (gPow S (.int i) (.int j)) Q X ↔ (0 ≤ j ∧ j ≤ 1000 ∧ i.natAbs < 1000) ∧ Q (.int (i ^ j.toNat)) S := by
  simp only [gPow]
  split <;> simp [*]
@[simp] theorem g_lt (i j : Int) : WR (gLt S (.int i) (.int j)) Q X ↔ Q (.bl (decide (i < j))) S := Iff.rfl
@[simp] theorem g_le (i j : Int) : WR (gLe S (.int i) (.int j)) Q X ↔ Q (.bl (decide (i ≤ j))) S := Iff.rfl
@[simp] theorem g_gt (i j : Int) : WR (gGt S (.int i) (.int j)) Q X ↔ Q (.bl (decide (j < i))) S := Iff.rfl
@[simp] theorem g_ge (i j : Int) : WR (gGe S (.int i) (.int j)) Q X ↔ Q (.bl (decide (j ≤ i))) S := Iff.rfl
@[simp] theorem g_neg (i : Int) : WR (gNeg S (.int i)) Q X ↔ Q (.int (-i)) S := Iff.rfl
@[simp] theorem g_eqI (i j : Int) : WR (gEq S (.int i) (.int j)) Q X ↔ Q (.bl (decide (i = j))) S := Iff.rfl
@[simp] theorem g_eqS (i j : Str) : WR (gEq S (.str i) (.str j)) Q X ↔ Q (.bl (decide (i = j))) S := Iff.rfl
@[simp] theorem g_eqB (i j : Bool) : WR (gEq S (.bl i) (.bl j)) Q X ↔ Q (.bl (decide (i = j))) S := Iff.rfl
@[simp] theorem g_neI (i j : Int) : WR (gNe S (.int i) (.int j)) Q X ↔ Q (.bl (!decide (i = j))) S := Iff.rfl
@[simp] theorem g_neS (i j : Str) : WR (gNe S (.str i) (.str j)) Q X ↔ Q (.bl (!decide (i = j))) S := Iff.rfl
@[simp] theorem g_neB (i j : Bool) : WR (gNe S (.bl i) (.bl j)) Q X ↔ Q (.bl (!decide (i = j))) S := Iff.rfl
@[simp] theorem g_eqIS (i : Int) (j : Str) : WR (gEq S (.int i) (.str j)) Q X ↔ Q (.bl false) S := Iff.rfl
@[simp] theorem g_eqSI (i : Str) (j : Int) : WR (gEq S (.str i) (.int j)) Q X ↔ Q (.bl false) S := Iff.rfl
def isNon : D → Bool
  | .non => true
  | _ => false
@[simp] theorem isNon_non : isNon .non = true := rfl
@[simp] theorem isNon_int (i : Int) : isNon (.int i) = false := rfl
@[simp] theorem isNon_str (i : Str) : isNon (.str i) = false := rfl
@[simp] theorem isNon_tup (i : List D) : isNon (.tup i) = false := rfl
@[simp] theorem isNon_ref (i : Nat) : isNon (.ref i) = false := rfl
@[simp] theorem isNon_bl (i : Bool) : isNon (.bl i) = false := rfl
@[simp] theorem g_is (x : D) : WR (gIs false S x .non) Q X ↔ Q (.bl (isNon x)) S := by
  cases x <;> exact Iff.rfl
@[simp] theorem g_isnot (x : D) : WR (gIs true S x .non) Q X ↔ Q (.bl (!isNon x)) S := by
  cases x <;> exact Iff.rfl
theorem wr_ite {α : Type} {c : Prop} [Decidable c] {r : Res α} {Q : α → Sto → Prop} {X : Exc → Sto → Prop} : WR (if c then r else .bad) Q X ↔ c ∧ WR r Q X := by
  by_cases h : c <;> simp [h]
/-! ### places -/
theorem atI_natC {α : Type} (xs : List α) (n : Nat) : atI xs ((n : Nat) : Int) = xs[n]? := by
  unfold atI ixN
  rw [if_pos (by omega)]
  by_cases h : ((n : Nat) : Int) < (xs.length : Int)
  · rw [if_pos h]
    simp
  · rw [if_neg h, List.getElem?_eq_none (by omega)]
    rfl
theorem atI_nn {α : Type} (xs : List α) {i : Int} (h : 0 ≤ i) : atI xs i = xs[i.toNat]? := by
  have e := atI_natC xs i.toNat
  rwa [Int.toNat_of_nonneg h] at e
@[simp] theorem atI_0 {α : Type} (xs : List α) : atI xs 0 = xs[0]? := atI_natC xs 0
@[simp] theorem atI_1 {α : Type} (xs : List α) : atI xs 1 = xs[1]? := atI_natC xs 1
@[simp] theorem atI_2 {α : Type} (xs : List α) : atI xs 2 = xs[2]? := atI_natC xs 2
@[simp] theorem atI_3 {α : Type} (xs : List α) : atI xs 3 = xs[3]? := atI_natC xs 3
@[simp] theorem atI_4 {α : Type} (xs : List α) : atI xs 4 = xs[4]? := atI_natC xs 4
@[simp] theorem atI_5 {α : Type} (xs : List α) : atI xs 5 = xs[5]? := atI_natC xs 5
theorem ixN_nn {n : Nat} {i : Int} (h : 0 ≤ i) (h2 : i < n) : ixN n i = some i.toNat := by
  unfold ixN
  rw [if_pos h, if_pos h2]
@[simp] theorem g_ixT (xs : List D) (i : Int) : WR (gSub2 S (.tup xs) (.int i)) Q X ↔ OptP (atI xs i) (fun d => Q d S) := by
  show WR (match atI xs i with | some d => Res.ok d S | none => .bad) Q X ↔ _
  cases atI xs i <;> exact Iff.rfl
@[simp] theorem g_ixK (xs : List D) (i : Int) : WR (gSub2 S (.ktp xs) (.int i)) Q X ↔ OptP (atI xs i) (fun d => Q d S) := by
  show WR (match atI xs i with | some d => Res.ok d S | none => .bad) Q X ↔ _
  cases atI xs i <;> exact Iff.rfl
@[simp] theorem g_ixF (xs : List D) (i : Int) : WR (gSub2 S (.fls xs) (.int i)) Q X ↔ OptP (atI xs i) (fun d => Q d S) := by
  show WR (match atI xs i with | some d => Res.ok d S | none => .bad) Q X ↔ _
  cases atI xs i <;> exact Iff.rfl
/-- what stands at a place: a list, a dict, an instance -/
def ObjP (o : Option DO) (L : List D → Prop) (T : List (Key × D) → Prop) : Prop := match o with
  | some (.lst xs) => L xs
  | some (.dct kvs) => T kvs
  | _ => False
@[simp] theorem objP_lst (xs : List D) (L : List D → Prop) (T : List (Key × D) → Prop) : ObjP (some (.lst xs)) L T ↔ L xs := Iff.rfl
@[simp] theorem objP_dct (xs : List (Key × D)) (L : List D → Prop) (T : List (Key × D) → Prop) : ObjP (some (.dct xs)) L T ↔ T xs := Iff.rfl
def LstP (o : Option DO) (L : List D → Prop) : Prop := match o with
  | some (.lst xs) => L xs
  | _ => False
@[simp] theorem lstP_lst (xs : List D) (L : List D → Prop) : LstP (some (.lst xs)) L ↔ L xs := Iff.rfl
def InsP (o : Option DO) (L : Str → List (Str × D) → Prop) : Prop := match o with
  | some (.ins c fs) => L c fs
  | _ => False
@[simp] theorem insP_ins (c : Str) (fs : List (Str × D)) (L : Str → List (Str × D) → Prop) : InsP (some (.ins c fs)) L ↔ L c fs := Iff.rfl
@[simp] theorem optP_ins (c : Str) (n : Nat) (P : Nat × List (Str × D) → Prop) : OptP (insOf S c (.ref n)) P ↔ InsP S[n]? (fun b fs => b = c ∧ P (n, fs)) := by
  simp only [insOf]
  cases S[n]? with
  | none => exact Iff.rfl
  | some o => cases o with
    | ins b fs =>
      simp only [insP_ins]
      split <;> simp [*]
    | _ => exact Iff.rfl
@[simp] theorem g_ixR {n : Nat} (y : D) : WR (gSub2 S (.ref n) y) Q X ↔ ObjP S[n]? (fun xs => IntP y fun i => OptP (atI xs i) fun d => Q d S) (fun kvs => OptP (keyOf y) fun k => OptP (valD kvs k) fun d => Q d S) := by
  simp only [gSub2, dctOf, gDGet, gIx, listOf]
  cases h : S[n]? with
  | none => cases y <;> exact Iff.rfl
  | some o => cases o with
    | lst xs => cases y with
      | int i =>
        simp only [Option.some_or]
        show WR (match atI xs i with | some d => Res.ok d S | none => .bad) Q X ↔ _
        cases h2 : atI xs i <;> simp [h2]
      | _ => exact Iff.rfl
    | dct kvs =>
      simp only [objP_dct]
      cases h2 : keyOf y with
      | none => exact Iff.rfl
      | some k =>
        simp only [optP_some]
        cases h3 : valD kvs k <;> exact Iff.rfl
    | _ => cases y <;> exact Iff.rfl
@[simp] theorem g_ixS (z : Str) (i : Int) : WR (gSub2 S (.str z) (.int i)) Q X ↔ z.length ≤ 1000000 ∧ OptP (atI z.cps.toList i) (fun c => Q (.str ⟨#[c]⟩) S) := by
  show WR (if z.length ≤ 1000000 then (match atI z.cps.toList i with | some c => Res.ok (.str ⟨#[c]⟩) S | none => .bad) else .bad) Q X ↔ _
  split
  · cases atI z.cps.toList i <;> simp [*]
  · simp [*]
@[simp] theorem g_inR {n : Nat} {neg : Bool} (y : D) : WR (gIn2 neg S y (.ref n)) Q X ↔ ObjP S[n]? (fun ys => (flatD y = true ∧ ys.all flatD = true) ∧ Q (.bl (if neg then !(ys.any fun z => eqFD z y) else ys.any fun z => eqFD z y)) S) (fun kvs => OptP (keyOf y) fun k => Q (.bl (if neg then !(valD kvs k).isSome else (valD kvs k).isSome)) S) := by
  simp only [gIn2, dctOf, gDIn, gIn, listOf, tupOf]
  cases h : S[n]? with
  | none => exact Iff.rfl
  | some o => cases o with
    | lst xs =>
      simp only [Option.some_or, objP_lst, wr_ite, wr_ok]
    | dct kvs =>
      simp only [objP_dct]
      cases h2 : keyOf y <;> exact Iff.rfl
    | _ => exact Iff.rfl
@[simp] theorem g_inT {neg : Bool} (y : D) (ys : List D) : WR (gIn2 neg S y (.tup ys)) Q X ↔ (flatD y = true ∧ ys.all flatD = true) ∧ Q (.bl (if neg then !(ys.any fun z => eqFD z y) else ys.any fun z => eqFD z y)) S := by
  simp only [gIn2, dctOf, gIn, listOf, tupOf, Option.none_or, wr_ite, wr_ok]
@[simp] theorem g_inK {neg : Bool} (y : D) (ys : List D) : WR (gIn2 neg S y (.ktp ys)) Q X ↔ (flatD y = true ∧ ys.all flatD = true) ∧ Q (.bl (if neg then !(ys.any fun z => eqFD z y) else ys.any fun z => eqFD z y)) S := by
  simp only [gIn2, dctOf, gIn, listOf, tupOf, Option.none_or, wr_ite, wr_ok]
@[simp] theorem g_inS {neg : Bool} (c z : Str) : WR (gIn2 neg S (.str c) (.str z)) Q X ↔ c.cps.size = 1 ∧ Q (.bl (if neg then !decide (c.cps.getD 0 0 ∈ z.cps.toList) else decide (c.cps.getD 0 0 ∈ z.cps.toList))) S := by
  simp only [gIn2, dctOf, gIn]
  split <;> simp [*]
@[simp] theorem keyOf_int (i : Int) : keyOf (.int i) = some (.inl i) := rfl
@[simp] theorem keyOf_str (i : Str) : keyOf (.str i) = some (.inr i) := rfl
@[simp] theorem valD_nil {κ : Type} [DecidableEq κ] (k : κ) : valD ([] : List (κ × D)) k = none := rfl
theorem valD_cons {κ : Type} [DecidableEq κ] (a k : κ) (d : D) (r : List (κ × D)) : valD ((a, d) :: r) k = if a = k then some d else valD r k := by
  unfold valD
  rw [List.find?_cons]
  by_cases h : a = k <;> simp [h]
@[simp] theorem g_putR {v y : D} {n : Nat} : WR (putAny v S (.ref n) y) QU X ↔ ObjP S[n]? (fun xs => IntP y fun i => OptP (ixN xs.length i) fun j => QU () (S.set n (.lst (xs.set j v)))) (fun kvs => OptP (keyOf y) fun k => kvs.length < 1000000 ∧ QU () (S.set n (.dct (putD kvs k v)))) := by
  cases h : S[n]? with
  | none => cases y <;> simp [putAny, dctOf, h, ObjP]
  | some o => cases o with
    | lst xs => cases y with
      | int i =>
        simp only [putAny, dctOf, h, objP_lst, intP_int]
        cases h2 : ixN xs.length i <;> exact Iff.rfl
      | _ => simp [putAny, dctOf, h, ObjP, IntP]
    | dct kvs =>
      simp only [putAny, dctOf, h, objP_dct]
      cases h2 : keyOf y with
      | none => exact Iff.rfl
      | some k => simp only [optP_some, wr_ite, wr_ok]
    | _ => cases y <;> simp [putAny, dctOf, h, ObjP]
@[simp] theorem ixN_0 (n : Nat) : ixN (n + 1) 0 = some 0 := by
  simp [ixN]
@[simp] theorem ixN_1 (n : Nat) : ixN (n + 1 + 1) 1 = some 1 := by
  simp [ixN]; omega
@[simp] theorem ixN_2 (n : Nat) : ixN (n + 1 + 1 + 1) 2 = some 2 := by
  simp [ixN]; omega
@[simp] theorem ixN_03 : ixN 3 0 = some 0 := by decide
@[simp] theorem ixN_13 : ixN 3 1 = some 1 := by decide
@[simp] theorem ixN_23 : ixN 3 2 = some 2 := by decide
@[simp] theorem ixN_01 : ixN 1 0 = some 0 := by decide
/-! ### built-ins -/
@[simp] theorem one_1 (g : Sto → D → Res D) (d : D) : one g S [d] = g S d := rfl
@[simp] theorem g_lenT (xs : List D) : WR (gLen S (.tup xs)) Q X ↔ Q (.int xs.length) S := Iff.rfl
@[simp] theorem g_lenK (xs : List D) : WR (gLen S (.ktp xs)) Q X ↔ Q (.int xs.length) S := Iff.rfl
@[simp] theorem g_lenF (xs : List D) : WR (gLen S (.fls xs)) Q X ↔ Q (.int xs.length) S := Iff.rfl
@[simp] theorem g_lenR {n : Nat} : WR (gLen S (.ref n)) Q X ↔ ObjP S[n]? (fun xs => Q (.int xs.length) S) (fun xs => Q (.int xs.length) S) := by
  simp only [gLen]
  cases h : S[n]? with
  | none => exact Iff.rfl
  | some o => cases o <;> exact Iff.rfl
@[simp] theorem g_lenS (z : Str) : WR (gLen S (.str z)) Q X ↔ z.length ≤ 1000000 ∧ Q (.int z.length) S := by
  simp only [gLen]
  split <;> simp [*]
@[simp] theorem g_intI (i : Int) : WR (gIntOf S (.int i)) Q X ↔ Q (.int i) S := Iff.rfl
@[simp] theorem g_intB (b : Bool) : WR (gIntOf S (.bl b)) Q X ↔ Q (.int (if b then 1 else 0)) S := Iff.rfl
@[simp] theorem g_abs (i : Int) : WR (gAbs S (.int i)) Q X ↔ Q (.int (if i < 0 then -i else i)) S := Iff.rfl
@[simp] theorem g_max (i j : Int) : WR (gMax2 S [.int i, .int j]) Q X ↔ Q (.int (if j > i then j else i)) S := Iff.rfl
@[simp] theorem g_min (i j : Int) : WR (gMin2 S [.int i, .int j]) Q X ↔ Q (.int (if j < i then j else i)) S := Iff.rfl
@[simp] theorem g_listT (xs : List D) : WR (gList S (.tup xs)) Q X ↔ Q (.ref S.length) (S ++ [.lst xs]) := Iff.rfl
@[simp] theorem g_listK (xs : List D) : WR (gList S (.ktp xs)) Q X ↔ Q (.ref S.length) (S ++ [.lst xs]) := Iff.rfl
@[simp] theorem g_listF (xs : List D) : WR (gList S (.fls xs)) Q X ↔ Q (.ref S.length) (S ++ [.lst xs]) := Iff.rfl
@[simp] theorem g_listR {n : Nat} : WR (gList S (.ref n)) Q X ↔ LstP S[n]? (fun xs => Q (.ref S.length) (S ++ [.lst xs])) := by
  simp only [gList, listOf, tupOf, Option.or_none]
  cases h : S[n]? with
  | none => exact Iff.rfl
  | some o => cases o <;> exact Iff.rfl
@[simp] theorem g_tupT (xs : List D) : WR (gTuple S (.tup xs)) Q X ↔ Q (.tup xs) S := Iff.rfl
@[simp] theorem g_tupF (xs : List D) : WR (gTuple S (.fls xs)) Q X ↔ Q (.tup xs) S := Iff.rfl
@[simp] theorem g_tupR {n : Nat} : WR (gTuple S (.ref n)) Q X ↔ LstP S[n]? (fun xs => Q (.tup xs) S) := by
  simp only [gTuple, listOf]
  cases h : S[n]? with
  | none => exact Iff.rfl
  | some o => cases o <;> exact Iff.rfl
@[simp] theorem g_slR {n : Nat} (lo hi : Option Int) : WR (gSl S (.ref n) lo hi) Q X ↔ LstP S[n]? (fun xs => Q (.ref S.length) (S ++ [.lst (cutD xs lo hi)])) := by
  simp only [gSl, listOf]
  cases h : S[n]? with
  | none => exact Iff.rfl
  | some o => cases o <;> exact Iff.rfl
@[simp] theorem g_slT (xs : List D) (lo hi : Option Int) : WR (gSl S (.tup xs) lo hi) Q X ↔ Q (.tup (cutD xs lo hi)) S := Iff.rfl
@[simp] theorem g_slS (z : Str) (lo hi : Option Int) : WR (gSl S (.str z) lo hi) Q X ↔ z.length ≤ 1000000 ∧ Q (.str (cutS z lo hi)) S := by
  simp only [gSl]
  split <;> simp [*]
theorem cutD_to (xs : List D) (k : Nat) : cutD xs none (some (k : Int)) = xs.take k := by
  simp only [cutD, HT.sIx_none, HT.sIx_nat, List.drop_zero, Nat.sub_zero]
  rcases Nat.le_total k xs.length with h | h
  · rw [Nat.min_eq_left h]
  · rw [Nat.min_eq_right h, List.take_of_length_le (Nat.le_refl _), List.take_of_length_le h]
theorem cutD_from (xs : List D) (k : Nat) : cutD xs (some (k : Int)) none = xs.drop k := by
  simp only [cutD, HT.sIx_none, HT.sIx_nat]
  rcases Nat.le_total k xs.length with h | h
  · rw [Nat.min_eq_left h, List.take_of_length_le (by rw [List.length_drop]; exact Nat.le_refl _)]
  · rw [Nat.min_eq_right h, Nat.sub_self, List.take_zero, List.drop_eq_nil_of_le h]
@[simp] theorem cutD_1 (xs : List D) : cutD xs (some 1) none = xs.drop 1 := cutD_from xs 1
theorem g_isi {d : D} {c t : String} (h : tyOf S d = some t) (hc : c = "int" ∨ c = "str" ∨ c = "tuple" ∨ c = "list" ∨ c = "bool" ∨ c = "dict") : WR (gIsi S [d, .ty c]) Q X ↔ Q (.bl (tySub t c)) S := by
  simp only [gIsi, h, if_pos hc, wr_ok]
@[simp] theorem i_int_int (i : Int) : WR (gIsi S [.int i, .ty "int"]) Q X ↔ Q (.bl true) S := by
  rw [g_isi (t := "int") rfl (by simp)]
  simp [tySub]
@[simp] theorem i_int_bool (i : Int) : WR (gIsi S [.int i, .ty "bool"]) Q X ↔ Q (.bl false) S := by
  rw [g_isi (t := "int") rfl (by simp)]
  simp [tySub]
@[simp] theorem i_int_str (i : Int) : WR (gIsi S [.int i, .ty "str"]) Q X ↔ Q (.bl false) S := by
  rw [g_isi (t := "int") rfl (by simp)]
  simp [tySub]
@[simp] theorem i_int_tuple (i : Int) : WR (gIsi S [.int i, .ty "tuple"]) Q X ↔ Q (.bl false) S := by
  rw [g_isi (t := "int") rfl (by simp)]
  simp [tySub]
@[simp] theorem i_int_list (i : Int) : WR (gIsi S [.int i, .ty "list"]) Q X ↔ Q (.bl false) S := by
  rw [g_isi (t := "int") rfl (by simp)]
  simp [tySub]
@[simp] theorem i_bl_int (i : Bool) : WR (gIsi S [.bl i, .ty "int"]) Q X ↔ Q (.bl true) S := by
  rw [g_isi (t := "bool") rfl (by simp)]
  simp [tySub]
@[simp] theorem i_bl_bool (i : Bool) : WR (gIsi S [.bl i, .ty "bool"]) Q X ↔ Q (.bl true) S := by
  rw [g_isi (t := "bool") rfl (by simp)]
  simp [tySub]
@[simp] theorem i_bl_str (i : Bool) : WR (gIsi S [.bl i, .ty "str"]) Q X ↔ Q (.bl false) S := by
  rw [g_isi (t := "bool") rfl (by simp)]
  simp [tySub]
@[simp] theorem i_bl_tuple (i : Bool) : WR (gIsi S [.bl i, .ty "tuple"]) Q X ↔ Q (.bl false) S := by
  rw [g_isi (t := "bool") rfl (by simp)]
  simp [tySub]
@[simp] theorem i_bl_list (i : Bool) : WR (gIsi S [.bl i, .ty "list"]) Q X ↔ Q (.bl false) S := by
  rw [g_isi (t := "bool") rfl (by simp)]
  simp [tySub]
@[simp] theorem i_str_int (i : Str) : WR (gIsi S [.str i, .ty "int"]) Q X ↔ Q (.bl false) S := by
  rw [g_isi (t := "str") rfl (by simp)]
  simp [tySub]
@[simp] theorem i_str_bool (i : Str) : WR (gIsi S [.str i, .ty "bool"]) Q X ↔ Q (.bl false) S := by
  rw [g_isi (t := "str") rfl (by simp)]
  simp [tySub]
@[simp] theorem i_str_str (i : Str) : WR (gIsi S [.str i, .ty "str"]) Q X ↔ Q (.bl true) S := by
  rw [g_isi (t := "str") rfl (by simp)]
  simp [tySub]
@[simp] theorem i_str_tuple (i : Str) : WR (gIsi S [.str i, .ty "tuple"]) Q X ↔ Q (.bl false) S := by
  rw [g_isi (t := "str") rfl (by simp)]
  simp [tySub]
@[simp] theorem i_str_list (i : Str) : WR (gIsi S [.str i, .ty "list"]) Q X ↔ Q (.bl false) S := by
  rw [g_isi (t := "str") rfl (by simp)]
  simp [tySub]
@[simp] theorem i_tup_int (i : List D) : WR (gIsi S [.tup i, .ty "int"]) Q X ↔ Q (.bl false) S := by
  rw [g_isi (t := "tuple") rfl (by simp)]
  simp [tySub]
@[simp] theorem i_tup_bool (i : List D) : WR (gIsi S [.tup i, .ty "bool"]) Q X ↔ Q (.bl false) S := by
  rw [g_isi (t := "tuple") rfl (by simp)]
  simp [tySub]
@[simp] theorem i_tup_str (i : List D) : WR (gIsi S [.tup i, .ty "str"]) Q X ↔ Q (.bl false) S := by
  rw [g_isi (t := "tuple") rfl (by simp)]
  simp [tySub]
@[simp] theorem i_tup_tuple (i : List D) : WR (gIsi S [.tup i, .ty "tuple"]) Q X ↔ Q (.bl true) S := by
  rw [g_isi (t := "tuple") rfl (by simp)]
  simp [tySub]
@[simp] theorem i_tup_list (i : List D) : WR (gIsi S [.tup i, .ty "list"]) Q X ↔ Q (.bl false) S := by
  rw [g_isi (t := "tuple") rfl (by simp)]
  simp [tySub]
@[simp] theorem i_non (c : String) (h : c = "int" ∨ c = "str" ∨ c = "tuple" ∨ c = "list" ∨ c = "bool" ∨ c = "dict") : WR (gIsi S [.non, .ty c]) Q X ↔ Q (.bl false) S := by
  rw [g_isi (t := "NoneType") rfl h]
  rcases h with h | h | h | h | h | h <;> subst h <;> rfl
@[simp] theorem i_ref {n : Nat} (c : String) : WR (gIsi S [.ref n, .ty c]) Q X ↔ (c = "int" ∨ c = "str" ∨ c = "tuple" ∨ c = "list" ∨ c = "bool" ∨ c = "dict") ∧ ObjP S[n]? (fun _ => Q (.bl (tySub "list" c)) S) (fun _ => Q (.bl (tySub "dict" c)) S) ∨ (c = "int" ∨ c = "str" ∨ c = "tuple" ∨ c = "list" ∨ c = "bool" ∨ c = "dict") ∧ (∃ kvs, S[n]? = some (.dtt kvs)) ∧ Q (.bl (tySub "dict" c)) S := by
  simp only [gIsi, tyOf]
  cases h : S[n]? with
  | none => simp [ObjP]
  | some o =>
    by_cases hc : c = "int" ∨ c = "str" ∨ c = "tuple" ∨ c = "list" ∨ c = "bool" ∨ c = "dict"
    · cases o <;> simp [hc, ObjP]
    · cases o <;> simp [hc, ObjP]
@[simp] theorem ts1 : tySub "list" "list" = true := by decide
@[simp] theorem ts2 : tySub "list" "int" = false := by decide
@[simp] theorem ts3 : tySub "list" "tuple" = false := by decide
@[simp] theorem ts4 : tySub "list" "str" = false := by decide
@[simp] theorem ts5 : tySub "list" "bool" = false := by decide
theorem g_isi2 {d : D} {c c' t : String} (h : tyOf S d = some t) (hc : c = "int" ∨ c = "str" ∨ c = "tuple" ∨ c = "list" ∨ c = "bool" ∨ c = "dict") (hc' : c' = "int" ∨ c' = "str" ∨ c' = "tuple" ∨ c' = "list" ∨ c' = "bool" ∨ c' = "dict") : WR (gIsi S [d, .tup [.ty c, .ty c']]) Q X ↔ Q (.bl (tySub t c || tySub t c')) S := by
  simp only [gIsi, h, if_pos (show _ ∧ _ from ⟨hc, hc'⟩), wr_ok]
/-! ### methods -/
@[simp] theorem isTy_lst {n : Nat} : isTy "list" S (.ref n) ↔ LstP S[n]? (fun _ => True) := by
  unfold isTy
  simp only [listOf, dctOf]
  cases h : S[n]? with
  | none => simp [LstP]
  | some o => cases o <;> simp [LstP]
@[simp] theorem isTy_str (z : Str) : isTy "str" S (.str z) := .inr (.inl ⟨rfl, z, rfl⟩)
@[simp] theorem m_app {n : Nat} {y : D} : WR (mApp S (.ref n) [y]) Q X ↔ LstP S[n]? (fun xs => xs.length < 1000000 ∧ Q .non (S.set n (.lst (xs ++ [y])))) := by
  simp only [mApp]
  cases h : S[n]? with
  | none => exact Iff.rfl
  | some o => cases o with
    | lst xs =>
      simp only [lstP_lst]
      split <;> simp [*]
    | _ => exact Iff.rfl
@[simp] theorem seq00 (n : Nat) : seqIndex? 0 (n + 1) = some 0 := by
  unfold seqIndex?
  simp
@[simp] theorem m_popAt {n : Nat} {i : Int} : WR (mPopAt S (.ref n) [.int i]) Q X ↔ LstP S[n]? (fun xs => rngOk i ∧ OptP (seqIndex? i xs.length) fun k => OptP xs[k]? fun y => Q y (S.set n (.lst (xs.eraseIdx k)))) := by
  simp only [mPopAt]
  cases h : S[n]? with
  | none => exact Iff.rfl
  | some o => cases o with
    | lst xs =>
      simp only [lstP_lst]
      split
      · rename_i hr
        simp only [hr, true_and]
        cases h2 : seqIndex? i xs.length with
        | none => exact Iff.rfl
        | some k =>
          simp only [optP_some]
          cases h3 : xs[k]? <;> exact Iff.rfl
      · rename_i hr
        simp [hr]
    | _ => exact Iff.rfl
@[simp] theorem rng0 : rngOk 0 := by decide
theorem m_join {n : Nat} {xs : List D} {a : Str} {ys : List Str} (h : S[n]? = some (.lst xs)) (hs : strsOf xs = some ys) (hl : (ys.map (·.length)).sum + ys.length * a.length ≤ 1000000) : WR (mJoin S (.str a) [.ref n]) Q X ↔ Q (.str (Txt.join a ys)) S := by
  simp only [mJoin, listOf, h, Option.some_or, hs, if_pos hl, wr_ok]
@[simp] theorem optP_it {n : Nat} (P : List D × Option (Nat × List D) → Prop) : OptP (itOf S (.ref n)) P ↔ LstP S[n]? (fun xs => P (xs, some (n, xs))) := by
  simp only [itOf]
  cases h : S[n]? with
  | none => exact Iff.rfl
  | some o => cases o <;> exact Iff.rfl
/-! ### fields -/
@[simp] theorem lookup_str (a b : String) (d : D) (r : List (Str × D)) : List.lookup (Str.ofString a) ((Str.ofString b, d) :: r) = if a = b then some d else List.lookup (Str.ofString a) r := by
  rw [List.lookup_cons, str_beq]
  by_cases h : a = b
  · simp [h]
  · rw [if_neg h, beq_eq_false_iff_ne.mpr h]
@[simp] theorem putFD_nil (f : Str) (v : D) : putFD f v [] = [(f, v)] := rfl
@[simp] theorem putFD_str (a b : String) (v d : D) (r : List (Str × D)) : putFD (Str.ofString a) v ((Str.ofString b, d) :: r) = if b = a then (Str.ofString b, v) :: r else (Str.ofString b, d) :: putFD (Str.ofString a) v r := by
  simp only [putFD, str_eq]
@[simp] theorem tupOf_tup (xs : List D) : tupOf (.tup xs) = some xs := rfl
@[simp] theorem tupOf_ktp (xs : List D) : tupOf (.ktp xs) = some xs := rfl
@[simp] theorem listOf_fls (xs : List D) : listOf S (.fls xs) = some xs := rfl
@[simp] theorem bName_eq (i : Nat) (d : D) (ρ : Env) : bName i d ρ = some (ρ.set i (some d)) := rfl
theorem gc_self {d : D} : gc S (.ok d S) = .ok d S := gc_same rfl
@[simp] theorem gc_self' {d : D} : WR (gc S (.ok d S)) Q X ↔ Q d S := by rw [gc_self, wr_ok]
/-! ### frames -/
/-- S1 is S but for the places in L -/
def Fr (S S1 : Sto) (L : List Nat) : Prop := S1.length = S.length ∧ ∀ i : Nat, i ∉ L → S1[i]? = S[i]?
theorem Fr.rfl' {L : List Nat} : Fr S S L := ⟨rfl, fun _ _ => rfl⟩
theorem Fr.trans {S1 S2 : Sto} {L : List Nat} (h : Fr S S1 L) (k : Fr S1 S2 L) : Fr S S2 L := ⟨k.1.trans h.1, fun i hi => (k.2 i hi).trans (h.2 i hi)⟩
theorem Fr.mono {S1 : Sto} {L M : List Nat} (h : Fr S S1 L) (hs : ∀ i ∈ L, i ∈ M) : Fr S S1 M := ⟨h.1, fun i hi => h.2 i fun z => hi (hs i z)⟩
theorem Fr.set {S1 : Sto} {L : List Nat} (h : Fr S S1 L) {p : Nat} (hp : p ∈ L) (o : DO) : Fr S (S1.set p o) L := ⟨by rw [List.length_set]; exact h.1, fun i hi => by
  have hne : p ≠ i := fun e => hi (by rw [← e]; exact hp)
  rw [List.getElem?_set_ne hne]
  exact h.2 i hi⟩
theorem Fr.at {S1 : Sto} {L : List Nat} (h : Fr S S1 L) {i : Nat} (hi : i ∉ L) : S1[i]? = S[i]? := h.2 i hi
theorem get_lt {n : Nat} {o : DO} (h : S[n]? = some o) : n < S.length := by
  rcases Nat.lt_or_ge n S.length with z | z
  · exact z
  · rw [List.getElem?_eq_none z] at h
    cases h
theorem set_at {n : Nat} {o u : DO} (h : S[n]? = some o) : (S.set n u)[n]? = some u := by
  rw [List.getElem?_set_self (get_lt h)]
theorem set_ne {n m : Nat} {u : DO} (h : n ≠ m) : (S.set n u)[m]? = S[m]? := List.getElem?_set_ne h
end
end TD

set_option Elab.async false
set_option linter.all false
set_option maxRecDepth 100000
set_option maxHeartbeats 2000000
/-! TD14: places of stores, for simp. -/
namespace TD
open PySem PySem.Spec PyProof.Rows L2
/-- p is a place of S -/
def InS (S : Sto) (p : Nat) : Prop := p < S.length
section
variable {S T : Sto} {p q : Nat} {u o : DO}
theorem ins_of (h : S[p]? = some o) : InS S p := get_lt h
@[simp] theorem inS_set : InS (S.set q u) p ↔ InS S p := by
  unfold InS
  rw [List.length_set]
@[simp] theorem inS_app (h : InS S p) : InS (S ++ T) p := by
  unfold InS at *
  rw [List.length_append]
  omega
@[simp] theorem set_self (h : InS S p) : (S.set p u)[p]? = some u := List.getElem?_set_self h
@[simp] theorem set_other (h : ¬ p = q) : (S.set p u)[q]? = S[q]? := List.getElem?_set_ne h
@[simp] theorem app_old (h : InS S p) : (S ++ T)[p]? = S[p]? := List.getElem?_append_left h
@[simp] theorem app_new (h : S.length ≤ p) : (S ++ T)[p]? = T[p - S.length]? := List.getElem?_append_right h
@[simp] theorem set_old (h : InS S p) : (S ++ T).set p u = S.set p u ++ T := List.set_append_left _ _ h
@[simp] theorem set_new (h : S.length ≤ p) : (S ++ T).set p u = S ++ T.set (p - S.length) u := List.set_append_right _ _ h
@[simp] theorem set_twice {v : DO} : (S.set p u).set p v = S.set p v := List.set_set ..
theorem ne_old (h : InS S p) : ¬ p = S.length := by
  unfold InS at h
  omega
theorem Upd.set' (p : Nat) {o : DO} (ho : clO S.length o = true) : Upd S (S.set p o) := Upd.rfl'.set p ho
@[simp] theorem gc_set1 {d : D} {Q : D → Sto → Prop} {X : Exc → Sto → Prop} : WR (gc S (.ok d (S.set p u))) Q X ↔ Q d (S.set p u) := by
  rw [gc_same (by rw [List.length_set]), wr_ok]
@[simp] theorem gc_set2 {d : D} {v : DO} {Q : D → Sto → Prop} {X : Exc → Sto → Prop} : WR (gc S (.ok d ((S.set p u).set q v))) Q X ↔ Q d ((S.set p u).set q v) := by
  rw [gc_same (by rw [List.length_set, List.length_set]), wr_ok]
@[simp] theorem gc_app0 {d : D} {Q : D → Sto → Prop} {X : Exc → Sto → Prop} (h : clD S.length d = true) : WR (gc S (.ok d (S ++ T))) Q X ↔ Q d S := by
  rw [gc_app Upd.rfl' h, wr_ok]
@[simp] theorem gc_app1 {d : D} {Q : D → Sto → Prop} {X : Exc → Sto → Prop} (h : clD S.length d = true) (ho : clO S.length u = true) : WR (gc S (.ok d (S.set p u ++ T))) Q X ↔ Q d (S.set p u) := by
  rw [gc_app (Upd.set' p ho) h, wr_ok]
@[simp] theorem gc_new0 {Q : D → Sto → Prop} {X : Exc → Sto → Prop} (h : clO S.length u = true) : WR (gc S (.ok (.ref S.length) (S ++ (u :: T)))) Q X ↔ Q (.ref S.length) (S ++ [u]) := by
  rw [gc_new Upd.rfl' (Nat.le_refl _) (by rw [List.getElem?_append_right (Nat.le_refl _), Nat.sub_self]; rfl) h, wr_ok]
@[simp] theorem gc_new1 {Q : D → Sto → Prop} {X : Exc → Sto → Prop} {v : DO} (h : clO S.length u = true) (hv : clO S.length v = true) : WR (gc S (.ok (.ref S.length) (S.set p v ++ (u :: T)))) Q X ↔ Q (.ref S.length) (S.set p v ++ [u]) := by
  rw [gc_new (Upd.set' p hv) (Nat.le_refl _) (by rw [List.getElem?_append_right (by rw [List.length_set]; exact Nat.le_refl _), List.length_set, Nat.sub_self]; rfl) h, wr_ok]
@[simp] theorem clD_non (n : Nat) : clD n .non = true := rfl
@[simp] theorem clD_int (n : Nat) (i : Int) : clD n (.int i) = true := rfl
@[simp] theorem clD_str (n : Nat) (i : Str) : clD n (.str i) = true := rfl
@[simp] theorem clD_bl (n : Nat) (i : Bool) : clD n (.bl i) = true := rfl
@[simp] theorem clD_tup (n : Nat) (i : List D) : clD n (.tup i) = clDs n i := rfl
@[simp] theorem clD_ref (n m : Nat) : clD n (.ref m) = decide (m < n) := rfl
@[simp] theorem clDs_nil (n : Nat) : clDs n [] = true := rfl
@[simp] theorem clDs_cons (n : Nat) (d : D) (ds : List D) : clDs n (d :: ds) = (clD n d && clDs n ds) := rfl
@[simp] theorem clDs_app (n : Nat) : ∀ (ds es : List D), clDs n (ds ++ es) = (clDs n ds && clDs n es)
  | [], es => by simp
  | d :: ds, es => by simp [clDs_app n ds es, Bool.and_assoc]
@[simp] theorem clDs_ints (n : Nat) : ∀ (l : List Int), clDs n (l.map D.int) = true
  | [] => rfl
  | i :: l => by simp [clDs_ints n l]
@[simp] theorem clO_lst (n : Nat) (xs : List D) : clO n (.lst xs) = clDs n xs := rfl
@[simp] theorem clO_dct (n : Nat) (xs : List (Key × D)) : clO n (.dct xs) = clKV n xs := rfl
@[simp] theorem clO_ins (n : Nat) (c : Str) (xs : List (Str × D)) : clO n (.ins c xs) = clKV n xs := rfl
@[simp] theorem clKV_nil {κ : Type} (n : Nat) : clKV n ([] : List (κ × D)) = true := rfl
@[simp] theorem clKV_cons {κ : Type} (n : Nat) (k : κ) (d : D) (r : List (κ × D)) : clKV n ((k, d) :: r) = (clD n d && clKV n r) := rfl
end
end TD

set_option Elab.async false
set_option linter.all false
set_option maxRecDepth 100000
set_option maxHeartbeats 2000000
/-! TD15: vaults as plain things: expressions, rows, what they do. -/
namespace TD
open PySem PySem.Spec PyProof.Rows L2
inductive Rg where
  | a | b | c | d | x
  deriving DecidableEq
inductive Sg where
  | add | sub | mul | eq | lt
  deriving DecidableEq
def Rg.s : Rg → String
  | .a => "a" | .b => "b" | .c => "c" | .d => "d" | .x => "x"
def Sg.s : Sg → String
  | .add => "+" | .sub => "-" | .mul => "*" | .eq => "=" | .lt => "<"
inductive Ex where
  | num (n : Int)
  | reg (r : Rg)
  | op (o : Sg) (l r : Ex)
def encE : Ex → D
  | .num n => .int n
  | .reg r => .str (Str.ofString r.s)
  | .op o l r => .tup [.str (Str.ofString o.s), encE l, encE r]
def Ex.Ok : Ex → Prop
  | .num n => 0 ≤ n ∧ n ≤ 9
  | .reg _ => True
  | .op _ l r => l.Ok ∧ r.Ok
def Ex.dep : Ex → Nat
  | .num _ => 0
  | .reg _ => 0
  | .op _ l r => 1 + max l.dep r.dep
abbrev Rs := Rg → Int
def Ex.val (h : Rs) : Ex → Int
  | .num n => n
  | .reg r => h r
  | .op o l r => match o with
    | .add => (l.val h + r.val h) % 10
    | .sub => (l.val h - r.val h) % 10
    | .mul => (l.val h * r.val h) % 10
    | .eq => if l.val h = r.val h then 1 else 0
    | .lt => if l.val h < r.val h then 1 else 0
def ROk (h : Rs) : Prop := ∀ r, 0 ≤ h r ∧ h r ≤ 9
theorem Ex.val_ok {h : Rs} (hh : ROk h) : ∀ {e : Ex}, e.Ok → 0 ≤ e.val h ∧ e.val h ≤ 9
  | .num n, k => k
  | .reg r, _ => hh r
  | .op o l r, _ => by
    cases o <;> simp only [Ex.val]
    · exact ⟨Int.emod_nonneg _ (by decide), Int.le_of_lt_add_one (Int.emod_lt_of_pos _ (by decide))⟩
    · exact ⟨Int.emod_nonneg _ (by decide), Int.le_of_lt_add_one (Int.emod_lt_of_pos _ (by decide))⟩
    · exact ⟨Int.emod_nonneg _ (by decide), Int.le_of_lt_add_one (Int.emod_lt_of_pos _ (by decide))⟩
    · split <;> decide
    · split <;> decide
def setR (h : Rs) (r : Rg) (v : Int) : Rs := fun q => if q = r then v else h q
theorem ROk.set {h : Rs} (k : ROk h) (r : Rg) {v : Int} (h0 : 0 ≤ v) (h1 : v ≤ 9) : ROk (setR h r v) := fun q => by
  unfold setR
  split
  · exact ⟨h0, h1⟩
  · exact k q
/-- the registers as a dict -/
def hd (h : Rs) : List (Key × D) := [(.inr (Str.ofString "a"), .int (h .a)), (.inr (Str.ofString "b"), .int (h .b)), (.inr (Str.ofString "c"), .int (h .c)), (.inr (Str.ofString "d"), .int (h .d)), (.inr (Str.ofString "x"), .int (h .x))]
@[simp] theorem hd_get (h : Rs) (r : Rg) : valD (hd h) (.inr (Str.ofString r.s)) = some (.int (h r)) := by
  cases r <;> simp [hd, valD_cons, Rg.s]
@[simp] theorem hd_put (h : Rs) (r : Rg) (v : Int) : putD (hd h) (.inr (Str.ofString r.s)) (.int v) = hd (setR h r v) := by
  cases r <;> simp [hd, putD, Rg.s, setR]
@[simp] theorem hd_len (h : Rs) : (hd h).length = 5 := rfl
@[simp] theorem hd_cl (n : Nat) (h : Rs) : clKV n (hd h) = true := by simp [hd]
inductive Rw where
  | read (r : Rg) (c : Nat)
  | set (c : Nat) (e : Ex)
  | swap (r : Rg) (c : Nat) (e f : Ex)
  | keep (r : Rg) (e : Ex)
  | coin (r : Rg)
  | ite (e : Ex) (a b : List Rw)
  | times (e : Ex) (b : List Rw)
  | ans (e : Ex)
mutual
def encR : Rw → D
  | .read r c => .tup [.str "read", .str (Str.ofString r.s), .int c]
  | .set c e => .tup [.str "set", .int c, encE e]
  | .swap r c e f => .tup [.str "swap", .str (Str.ofString r.s), .int c, encE e, encE f]
  | .keep r e => .tup [.str "keep", .str (Str.ofString r.s), encE e]
  | .coin r => .tup [.str "coin", .str (Str.ofString r.s)]
  | .ite e a b => .tup [.str "if", encE e, .tup (encL a), .tup (encL b)]
  | .times e b => .tup [.str "times", encE e, .tup (encL b)]
  | .ans e => .tup [.str "answer", encE e]
def encL : List Rw → List D
  | [] => []
  | r :: rs => encR r :: encL rs
end
theorem encL_app : ∀ (a b : List Rw), encL (a ++ b) = encL a ++ encL b
  | [], b => by simp [encL]
  | r :: a, b => by simp [encL, encL_app a b]
theorem encL_len : ∀ (a : List Rw), (encL a).length = a.length
  | [] => rfl
  | r :: a => by simp [encL, encL_len a]
mutual
/-- rows in them, coins in them -/
def Rw.cnt : Rw → Nat
  | .ite _ a b => 1 + cntL a + cntL b
  | .times _ b => 1 + cntL b
  | .read _ _ => 1
  | .set _ _ => 1
  | .swap _ _ _ _ => 1
  | .keep _ _ => 1
  | .coin _ => 1
  | .ans _ => 1
def cntL : List Rw → Nat
  | [] => 0
  | r :: rs => r.cnt + cntL rs
end
mutual
def Rw.cns : Rw → Nat
  | .ite _ a b => cnsL a + cnsL b
  | .times _ b => cnsL b
  | .coin _ => 1
  | .read _ _ => 0
  | .set _ _ => 0
  | .swap _ _ _ _ => 0
  | .keep _ _ => 0
  | .ans _ => 0
def cnsL : List Rw → Nat
  | [] => 0
  | r :: rs => r.cns + cnsL rs
end
theorem cntL_app : ∀ (a b : List Rw), cntL (a ++ b) = cntL a + cntL b
  | [], b => by simp [cntL]
  | r :: a, b => by simp [cntL, cntL_app a b]; omega
theorem cnsL_app : ∀ (a b : List Rw), cnsL (a ++ b) = cnsL a + cnsL b
  | [], b => by simp [cnsL]
  | r :: a, b => by simp [cnsL, cnsL_app a b]; omega
/-- an expression as the points have it -/
def Ex.G (e : Ex) : Prop := e.Ok ∧ e.dep ≤ 6
mutual
/-- good rows: m cells, at most d deep, l loops around -/
def Rw.G (m : Nat) : Nat → Nat → Rw → Prop
  | _, _, .read r c => r ≠ .x ∧ c < m
  | _, _, .set c e => c < m ∧ e.G
  | _, _, .swap r c e f => r ≠ .x ∧ c < m ∧ e.G ∧ f.G
  | _, _, .keep r e => r ≠ .x ∧ e.G
  | _, l, .coin r => r ≠ .x ∧ l = 0
  | d, l, .ite e a b => e.G ∧ 0 < d ∧ GL m (d - 1) l a ∧ GL m (d - 1) l b
  | d, l, .times e b => e.G ∧ 0 < d ∧ l < 2 ∧ GL m (d - 1) (l + 1) b
  | _, _, .ans e => e.G
def GL (m : Nat) : Nat → Nat → List Rw → Prop
  | _, _, [] => True
  | d, l, r :: rs => Rw.G m d l r ∧ GL m d l rs
end
theorem GL_app {m d l : Nat} : ∀ {a b : List Rw}, GL m d l a → GL m d l b → GL m d l (a ++ b)
  | [], b, _, h => h
  | r :: a, b, ⟨h1, h2⟩, h => ⟨h1, GL_app h2 h⟩
/-! ### what rows do -/
structure Vs where
  cells : List Int
  held : Rs
  falls : List Int
  used : Nat
  trace : List D
def iter (f : Vs → Option Int × Vs) : Nat → Vs → Option Int × Vs
  | 0, s => (none, s)
  | n + 1, s => match f s with
    | (none, s') => iter f n s'
    | (some a, s') => (some a, s')
def seqV (p : Option Int × Vs) (g : Vs → Option Int × Vs) : Option Int × Vs := match p with
  | (none, s) => g s
  | (some a, s) => (some a, s)
mutual
def Rw.run (sz : List Int) : Rw → Vs → Option Int × Vs
  | .read r c, s =>
    let v := s.cells.getD c 0
    (none, { s with held := setR s.held r v, trace := s.trace ++ [.tup [.str "read", .int c, .int v, .tup (s.cells.map D.int)]] })
  | .set c e, s =>
    let v := e.val s.held % sz.getD c 0
    (none, { s with cells := s.cells.set c v, trace := s.trace ++ [.tup [.str "set", .int c, .int v, .tup ((s.cells.set c v).map D.int)]] })
  | .swap r c e f, s =>
    let h := decide (s.cells.getD c 0 = e.val s.held)
    let v : Int := if h then 1 else 0
    let cs := if h then s.cells.set c (f.val s.held % sz.getD c 0) else s.cells
    (none, { s with cells := cs, held := setR s.held r v, trace := s.trace ++ [.tup [.str "swap", .int c, .int v, .tup (cs.map D.int)]] })
  | .keep r e, s => (none, { s with held := setR s.held r (e.val s.held) })
  | .coin r, s => match s.falls with
    | [] => (some (-1), s)
    | f :: fs => (none, { s with held := setR s.held r f, falls := fs, used := s.used + 1 })
  | .ite e a b, s => if e.val s.held = 0 then runL sz b s else runL sz a s
  | .times e b, s => iter (runL sz b) (e.val s.held).toNat s
  | .ans e, s => (some (e.val s.held), s)
def runL (sz : List Int) : List Rw → Vs → Option Int × Vs
  | [], s => (none, s)
  | r :: rs, s => seqV (r.run sz s) (runL sz rs)
end
/-- a state as it should be -/
structure VOk (sz : List Int) (m : Nat) (s : Vs) : Prop where
  len : s.cells.length = m
  cell : ∀ c : Nat, c < m → 0 ≤ s.cells.getD c 0 ∧ s.cells.getD c 0 ≤ 8
  held : ROk s.held
  falls : ∀ f ∈ s.falls, 0 ≤ f ∧ f ≤ 1
def SzOk (sz : List Int) (m : Nat) : Prop := sz.length = m ∧ ∀ c : Nat, c < m → 1 ≤ sz.getD c 0 ∧ sz.getD c 0 ≤ 9
def ansD : Option Int → D
  | none => .non
  | some a => .int a
@[simp] theorem ansD_non : ansD none = .non := rfl
@[simp] theorem ansD_some (a : Int) : ansD (some a) = .int a := rfl
theorem getD_set {l : List Int} {c : Nat} (hc : c < l.length) (v : Int) (j : Nat) : (l.set c v).getD j 0 = if c = j then v else l.getD j 0 := by
  simp only [List.getD_eq_getElem?_getD, List.getElem?_set]
  by_cases h : c = j
  · subst h
    simp [hc]
  · simp [h]
theorem VOk.setC {sz : List Int} {m : Nat} {s : Vs} (h : VOk sz m s) (hs : SzOk sz m) {c : Nat} (hc : c < m) (v : Int) : ∀ j : Nat, j < m → 0 ≤ (s.cells.set c (v % sz.getD c 0)).getD j 0 ∧ (s.cells.set c (v % sz.getD c 0)).getD j 0 ≤ 8 := fun j hj => by
  rw [getD_set (by rw [h.len]; exact hc)]
  obtain ⟨h1, h2⟩ := hs.2 c hc
  split
  · have a := Int.emod_nonneg v (show sz.getD c 0 ≠ 0 by omega)
    have b := Int.emod_lt_of_pos v (show 0 < sz.getD c 0 by omega)
    omega
  · exact h.cell j hj
theorem iter_ok {sz : List Int} {m : Nat} {f : Vs → Option Int × Vs} (hf : ∀ s, VOk sz m s → VOk sz m (f s).2) : ∀ (n : Nat) (s : Vs), VOk sz m s → VOk sz m (iter f n s).2
  | 0, s, h => h
  | n + 1, s, h => by
    have k := hf s h
    unfold iter
    cases e : f s with
    | mk o s' =>
      rw [e] at k
      cases o with
      | none => exact iter_ok hf n s' k
      | some a => exact k
mutual
theorem run_ok {sz : List Int} {m : Nat} (hs : SzOk sz m) : ∀ (r : Rw) (d l : Nat) (s : Vs), r.G m d l → VOk sz m s → VOk sz m (r.run sz s).2
  | .read r c, d, l, s, g, h => by
    obtain ⟨g1, g2⟩ := (show r ≠ .x ∧ c < m by simpa [Rw.G] using g)
    have k := h.cell c g2
    simp only [Rw.run]
    exact ⟨h.len, h.cell, h.held.set _ k.1 (by omega), h.falls⟩
  | .set c e, d, l, s, g, h => by
    obtain ⟨g1, g2⟩ := (show c < m ∧ e.G by simpa [Rw.G] using g)
    simp only [Rw.run]
    exact ⟨by rw [List.length_set]; exact h.len, h.setC hs g1 _, h.held, h.falls⟩
  | .swap r c e f, d, l, s, g, h => by
    obtain ⟨g0, g1, g2, g3⟩ := (show r ≠ .x ∧ c < m ∧ e.G ∧ f.G by simpa [Rw.G] using g)
    simp only [Rw.run]
    by_cases hh : s.cells.getD c 0 = e.val s.held
    · simp only [hh, decide_true, if_true]
      exact ⟨by rw [List.length_set]; exact h.len, h.setC hs g1 _, h.held.set _ (by decide) (by decide), h.falls⟩
    · simp only [hh, decide_false, Bool.false_eq_true, if_false]
      exact ⟨h.len, h.cell, h.held.set _ (by decide) (by decide), h.falls⟩
  | .keep r e, d, l, s, g, h => by
    obtain ⟨g1, g2⟩ := (show r ≠ .x ∧ e.G by simpa [Rw.G] using g)
    have k := Ex.val_ok h.held g2.1
    simp only [Rw.run]
    exact ⟨h.len, h.cell, h.held.set _ k.1 k.2, h.falls⟩
  | .coin r, d, l, s, g, h => by
    simp only [Rw.run]
    cases e : s.falls with
    | nil => exact h
    | cons f fs =>
      have k := h.falls f (by rw [e]; exact List.mem_cons_self)
      exact ⟨h.len, h.cell, h.held.set _ k.1 (by omega), fun g hg => h.falls g (by rw [e]; exact List.mem_cons_of_mem _ hg)⟩
  | .ite e a b, d, l, s, g, h => by
    obtain ⟨g1, g2, g3, g4⟩ := (show e.G ∧ 0 < d ∧ GL m (d - 1) l a ∧ GL m (d - 1) l b by simpa [Rw.G] using g)
    simp only [Rw.run]
    split
    · exact runL_ok hs b (d - 1) l s g4 h
    · exact runL_ok hs a (d - 1) l s g3 h
  | .times e b, d, l, s, g, h => by
    obtain ⟨g1, g2, g3, g4⟩ := (show e.G ∧ 0 < d ∧ l < 2 ∧ GL m (d - 1) (l + 1) b by simpa [Rw.G] using g)
    simp only [Rw.run]
    exact iter_ok (fun s h => runL_ok hs b (d - 1) (l + 1) s g4 h) _ s h
  | .ans e, d, l, s, g, h => h
theorem runL_ok {sz : List Int} {m : Nat} (hs : SzOk sz m) : ∀ (r : List Rw) (d l : Nat) (s : Vs), GL m d l r → VOk sz m s → VOk sz m (runL sz r s).2
  | [], d, l, s, g, h => h
  | r :: rs, d, l, s, g, h => by
    obtain ⟨g1, g2⟩ := (show r.G m d l ∧ GL m d l rs by simpa [GL] using g)
    have k := run_ok hs r d l s g1 h
    simp only [runL]
    cases e : r.run sz s with
    | mk o s' =>
      rw [e] at k
      cases o with
      | none => exact runL_ok hs rs d l s' g2 k
      | some a => exact k
end
end TD

set_option Elab.async false
set_option linter.all false
set_option maxRecDepth 100000
set_option maxHeartbeats 2000000
/-! TD17: how long rows work; walks in a store. -/
namespace TD
open PySem PySem.Spec PyProof.Rows L2
/-- what zip goes through -/
def zipOf : List D → Option (List D × Option (Nat × List D))
  | [.str z, y] => (tupOf y).map fun ys => (pairsD (signs z) ys, none)
  | [x, y] => match tupOf x, tupOf y with
    | some xs, some ys => some (pairsD xs ys, none)
    | _, _ => none
  | _ => none
@[simp] theorem zipOf_ST (z : Str) (ys : List D) : zipOf [.str z, .tup ys] = some (pairsD (signs z) ys, none) := rfl
@[simp] theorem zipOf_TT (xs ys : List D) : zipOf [.tup xs, .tup ys] = some (pairsD xs ys, none) := rfl
@[simp] theorem w_iZip2 {Q : List D × Option (Nat × List D) → Sto → Prop} {X : Exc → Sto → Prop} {S : Sto} {ρ : Env} {r : FA} : WR (iZip2 r ρ S) Q X ↔ WR (r ρ S) (fun ds S1 => OptP (zipOf ds) (fun p => Q p S1)) X := by
  unfold iZip2
  rw [wr_bind]
  cases r ρ S with
  | ok ds S1 =>
    simp only [wr_ok]
    match ds with
    | [] => exact Iff.rfl
    | [x] => cases x <;> exact Iff.rfl
    | [x, y] =>
      cases x with
      | str z =>
        simp only [zipOf]
        cases tupOf y <;> exact Iff.rfl
      | _ =>
        simp only [zipOf, tupOf]
        cases y <;> exact Iff.rfl
    | x :: _ :: _ :: _ => cases x <;> exact Iff.rfl
  | exc x S1 => exact Iff.rfl
  | bad => exact Iff.rfl
abbrev NX : Exc → Sto → Prop := fun _ _ => False
theorem WR.step {α : Type} {r : Res α} {Q Q' : α → Sto → Prop} {X' : Exc → Sto → Prop} (h : WR r Q NX) (k : ∀ a S, Q a S → Q' a S) : WR r Q' X' := h.monoX k fun _ _ z => z.elim
@[simp] theorem gc_len {S S' : Sto} {d : D} {Q : D → Sto → Prop} {X : Exc → Sto → Prop} (h : S'.length = S.length) : WR (gc S (.ok d S')) Q X ↔ Q d S' := by
  rw [gc_same h, wr_ok]
@[simp] theorem atI_nat' {α : Type} (xs : List α) (n : Nat) : atI xs ((n : Nat) : Int) = xs[n]? := atI_natC xs n
mutual
def Rw.wk : Rw → Nat
  | .ite _ a b => 1 + wkL a + wkL b
  | .times _ b => 1 + 9 * wkL b
  | .read _ _ => 1
  | .set _ _ => 1
  | .swap _ _ _ _ => 1
  | .keep _ _ => 1
  | .coin _ => 1
  | .ans _ => 1
def wkL : List Rw → Nat
  | [] => 0
  | r :: rs => r.wk + wkL rs
end
theorem wkL_app : ∀ (a b : List Rw), wkL (a ++ b) = wkL a + wkL b
  | [], b => by simp [wkL]
  | r :: a, b => by simp [wkL, wkL_app a b]; omega
mutual
theorem cnt_le : ∀ r : Rw, r.cnt ≤ r.wk
  | .ite _ a b => by have := cntL_le a; have := cntL_le b; simp only [Rw.cnt, Rw.wk]; omega
  | .times _ b => by have := cntL_le b; simp only [Rw.cnt, Rw.wk]; omega
  | .read _ _ => by simp [Rw.cnt, Rw.wk]
  | .set _ _ => by simp [Rw.cnt, Rw.wk]
  | .swap _ _ _ _ => by simp [Rw.cnt, Rw.wk]
  | .keep _ _ => by simp [Rw.cnt, Rw.wk]
  | .coin _ => by simp [Rw.cnt, Rw.wk]
  | .ans _ => by simp [Rw.cnt, Rw.wk]
theorem cntL_le : ∀ l : List Rw, cntL l ≤ wkL l
  | [] => by simp [cntL, wkL]
  | r :: rs => by have := cnt_le r; have := cntL_le rs; simp only [cntL, wkL]; omega
end
theorem iter_len {sz : List Int} {m k : Nat} {f : Vs → Option Int × Vs} (hf : ∀ s, VOk sz m s → VOk sz m (f s).2 ∧ (f s).2.trace.length ≤ s.trace.length + k) : ∀ (n : Nat) (s : Vs), VOk sz m s → (iter f n s).2.trace.length ≤ s.trace.length + n * k
  | 0, s, h => by simp [iter]
  | n + 1, s, h => by
    obtain ⟨k1, k2⟩ := hf s h
    unfold iter
    cases e : f s with
    | mk o s' =>
      rw [e] at k1 k2
      cases o with
      | none =>
        have := iter_len hf n s' k1
        simp only [Nat.add_mul, Nat.one_mul]
        simp only at k2 ⊢
        omega
      | some a =>
        simp only [Nat.add_mul, Nat.one_mul]
        simp only at k2 ⊢
        omega
mutual
theorem run_len {sz : List Int} {m : Nat} (hs : SzOk sz m) : ∀ (r : Rw) (d l : Nat) (s : Vs), r.G m d l → VOk sz m s → (r.run sz s).2.trace.length ≤ s.trace.length + r.wk
  | .read r c, d, l, s, g, h => by simp [Rw.run, Rw.wk]
  | .set c e, d, l, s, g, h => by simp [Rw.run, Rw.wk]
  | .swap r c e f, d, l, s, g, h => by simp [Rw.run, Rw.wk]
  | .keep r e, d, l, s, g, h => by simp [Rw.run, Rw.wk]
  | .coin r, d, l, s, g, h => by
    simp only [Rw.run]
    cases s.falls <;> simp [Rw.wk]
  | .ite e a b, d, l, s, g, h => by
    obtain ⟨g1, g2, g3, g4⟩ := (show e.G ∧ 0 < d ∧ GL m (d - 1) l a ∧ GL m (d - 1) l b by simpa [Rw.G] using g)
    simp only [Rw.run, Rw.wk]
    split
    · have := runL_len hs b (d - 1) l s g4 h
      omega
    · have := runL_len hs a (d - 1) l s g3 h
      omega
  | .times e b, d, l, s, g, h => by
    obtain ⟨g1, g2, g3, g4⟩ := (show e.G ∧ 0 < d ∧ l < 2 ∧ GL m (d - 1) (l + 1) b by simpa [Rw.G] using g)
    simp only [Rw.run, Rw.wk]
    have v := Ex.val_ok h.held g1.1
    have k := iter_len (sz := sz) (m := m) (k := wkL b) (fun s h => ⟨runL_ok hs b (d - 1) (l + 1) s g4 h, runL_len hs b (d - 1) (l + 1) s g4 h⟩) (e.val s.held).toNat s h
    have hm : (e.val s.held).toNat * wkL b ≤ 9 * wkL b := Nat.mul_le_mul_right _ (by omega)
    omega
  | .ans e, d, l, s, g, h => by simp [Rw.run]
theorem runL_len {sz : List Int} {m : Nat} (hs : SzOk sz m) : ∀ (r : List Rw) (d l : Nat) (s : Vs), GL m d l r → VOk sz m s → (runL sz r s).2.trace.length ≤ s.trace.length + wkL r
  | [], d, l, s, g, h => by simp [runL]
  | r :: rs, d, l, s, g, h => by
    obtain ⟨g1, g2⟩ := (show r.G m d l ∧ GL m d l rs by simpa [GL] using g)
    have k1 := run_ok hs r d l s g1 h
    have k2 := run_len hs r d l s g1 h
    simp only [runL, wkL]
    cases e : r.run sz s with
    | mk o s' =>
      rw [e] at k1 k2
      cases o with
      | none =>
        have := runL_len hs rs d l s' g2 k1
        simp only [seqV] at k2 ⊢
        omega
      | some a =>
        simp only [seqV] at k2 ⊢
        omega
end
/-- where a walk stands -/
structure Wc where
  wk : Nat
  ic : Nat
  ih : Nat
  io : Nat
  it : Nat
  sz : List Int
  all : List Int
def Wc.L (C : Wc) : List Nat := [C.wk, C.ic, C.ih, C.it]
structure Wc.Ne (C : Wc) : Prop where
  a : C.wk ≠ C.ic
  b : C.wk ≠ C.ih
  c : C.wk ≠ C.io
  d : C.wk ≠ C.it
  e : C.ic ≠ C.ih
  f : C.ic ≠ C.io
  g : C.ic ≠ C.it
  h : C.ih ≠ C.io
  i : C.ih ≠ C.it
  j : C.io ≠ C.it
def wkF (C : Wc) (s : Vs) : List (Str × D) := [("size_row", .tup (C.sz.map D.int)), ("cells", .ref C.ic), ("held", .ref C.ih), ("coins", .ref C.io), ("used", .int s.used), ("trace", .ref C.it)]
structure WkAt (C : Wc) (S : Sto) (s : Vs) : Prop where
  w : S[C.wk]? = some (.ins "Walk" (wkF C s))
  c : S[C.ic]? = some (.lst (s.cells.map D.int))
  h : S[C.ih]? = some (.dct (hd s.held))
  o : S[C.io]? = some (.lst (C.all.map D.int))
  t : S[C.it]? = some (.lst s.trace)
  fl : s.falls = C.all.drop s.used
  u : s.used ≤ C.all.length
theorem map_at {l : List Int} {c : Nat} (h : c < l.length) : (l.map D.int)[c]? = some (.int (l.getD c 0)) := by
  simp [List.getElem?_map, List.getElem?_eq_getElem h]
end TD

set_option Elab.async false
set_option linter.all false
set_option maxRecDepth 100000
set_option maxHeartbeats 2000000
/-! TD18: what falls of coins a run needs; deeds. -/
namespace TD
open PySem PySem.Spec PyProof.Rows L2
/-- F asks k falls and no more -/
def Pre (F : Vs → Option Int × Vs) : Prop := ∀ s, (F s).1 ≠ some (-1) → ∃ k, k ≤ s.falls.length ∧ (F s).2.falls = s.falls.drop k ∧ (F s).2.used = s.used + k ∧
  ∀ g : List Int, k ≤ g.length → g.take k = s.falls.take k → F { s with falls := g } = ((F s).1, { (F s).2 with falls := g.drop k })
theorem pre_seq {A B : Vs → Option Int × Vs} (ha : Pre A) (hb : Pre B) : Pre (fun s => seqV (A s) B) := fun s h => by
  have h : (seqV (A s) B).1 ≠ some (-1) := h
  show ∃ k, k ≤ s.falls.length ∧ (seqV (A s) B).2.falls = s.falls.drop k ∧ (seqV (A s) B).2.used = s.used + k ∧ ∀ g : List Int, k ≤ g.length → g.take k = s.falls.take k → seqV (A { s with falls := g }) B = ((seqV (A s) B).1, { (seqV (A s) B).2 with falls := g.drop k })
  cases e : A s with
  | mk o s1 =>
    have a := ha s
    rw [e] at a h
    cases o with
    | some v =>
      simp only [seqV] at h ⊢
      obtain ⟨k, k1, k2, k3, k4⟩ := a h
      exact ⟨k, k1, k2, k3, fun g hg hk => by rw [k4 g hg hk]⟩
    | none =>
      simp only [seqV] at h ⊢
      obtain ⟨k, k1, k2, k3, k4⟩ := a (by simp)
      obtain ⟨j, j1, j2, j3, j4⟩ := hb s1 h
      simp only at k2 k3 k4
      have hl : s1.falls.length = s.falls.length - k := by rw [k2, List.length_drop]
      refine ⟨k + j, by omega, ?_, ?_, fun g hg hk => ?_⟩
      · simp only [j2, k2, List.drop_drop]
      · simp only [j3, k3]; omega
      · have g1 : g.take k = s.falls.take k := by
          have := congrArg (List.take k) hk
          rwa [List.take_take, List.take_take, Nat.min_eq_left (by omega)] at this
        have g2 : (g.drop k).take j = s1.falls.take j := by
          have := congrArg (List.drop k) hk
          rw [List.drop_take, List.drop_take] at this
          rw [k2]
          have e3 : k + j - k = j := by omega
          rwa [e3] at this
        rw [k4 g (by omega) g1]
        simp only [seqV]
        rw [j4 (g.drop k) (by rw [List.length_drop]; omega) g2, List.drop_drop]
theorem pre_iter {F : Vs → Option Int × Vs} (h : Pre F) : ∀ n : Nat, Pre (iter F n)
  | 0 => fun s _ => ⟨0, Nat.zero_le _, rfl, rfl, fun g _ _ => rfl⟩
  | n + 1 => by
    have e : iter F (n + 1) = fun s => seqV (F s) (iter F n) := by
      funext s
      show (match F s with | (none, s') => iter F n s' | (some a, s') => (some a, s')) = _
      cases F s with
      | mk o s1 => cases o <;> rfl
    rw [e]
    exact pre_seq h (pre_iter h n)
mutual
theorem run_pre (sz : List Int) : ∀ r : Rw, Pre (r.run sz)
  | .read r c => fun s _ => ⟨0, Nat.zero_le _, rfl, rfl, fun g _ _ => rfl⟩
  | .set c e => fun s _ => ⟨0, Nat.zero_le _, rfl, rfl, fun g _ _ => rfl⟩
  | .swap r c e f => fun s _ => ⟨0, Nat.zero_le _, rfl, rfl, fun g _ _ => rfl⟩
  | .keep r e => fun s _ => ⟨0, Nat.zero_le _, rfl, rfl, fun g _ _ => rfl⟩
  | .ans e => fun s _ => ⟨0, Nat.zero_le _, rfl, rfl, fun g _ _ => rfl⟩
  | .coin r => fun s h => by
    cases e : s.falls with
    | nil =>
      simp only [Rw.run, e] at h
      exact absurd rfl h
    | cons f fs =>
      refine ⟨1, by simp, ?_, ?_, fun g hg hk => ?_⟩
      · simp only [Rw.run, e]; rfl
      · simp only [Rw.run, e]
      · cases g with
        | nil => simp at hg
        | cons a g =>
          have : a = f := by simpa using hk
          subst this
          simp only [Rw.run, e]
          rfl
  | .ite e a b => fun s h => by
    by_cases hh : e.val s.held = 0
    · have q : ∀ g : List Int, (Rw.ite e a b).run sz { s with falls := g } = runL sz b { s with falls := g } := fun g => by simp only [Rw.run]; rw [if_pos hh]
      have q0 : (Rw.ite e a b).run sz s = runL sz b s := by simp only [Rw.run]; rw [if_pos hh]
      rw [q0] at h ⊢
      obtain ⟨k, k1, k2, k3, k4⟩ := runL_pre sz b s h
      exact ⟨k, k1, k2, k3, fun g hg hk => by rw [q g, k4 g hg hk]⟩
    · have q : ∀ g : List Int, (Rw.ite e a b).run sz { s with falls := g } = runL sz a { s with falls := g } := fun g => by simp only [Rw.run]; rw [if_neg hh]
      have q0 : (Rw.ite e a b).run sz s = runL sz a s := by simp only [Rw.run]; rw [if_neg hh]
      rw [q0] at h ⊢
      obtain ⟨k, k1, k2, k3, k4⟩ := runL_pre sz a s h
      exact ⟨k, k1, k2, k3, fun g hg hk => by rw [q g, k4 g hg hk]⟩
  | .times e b => fun s h => by
    have q : ∀ g : List Int, (Rw.times e b).run sz { s with falls := g } = iter (runL sz b) (e.val s.held).toNat { s with falls := g } := fun g => by simp only [Rw.run]
    have q0 : (Rw.times e b).run sz s = iter (runL sz b) (e.val s.held).toNat s := by simp only [Rw.run]
    rw [q0] at h ⊢
    obtain ⟨k, k1, k2, k3, k4⟩ := pre_iter (runL_pre sz b) (e.val s.held).toNat s h
    exact ⟨k, k1, k2, k3, fun g hg hk => by rw [q g, k4 g hg hk]⟩
theorem runL_pre (sz : List Int) : ∀ rs : List Rw, Pre (runL sz rs)
  | [] => fun s _ => ⟨0, Nat.zero_le _, rfl, rfl, fun g _ _ => rfl⟩
  | r :: rs => by
    have e : runL sz (r :: rs) = fun s => seqV (r.run sz s) (runL sz rs) := by
      funext s
      simp only [runL]
    rw [e]
    exact pre_seq (run_pre sz r) (runL_pre sz rs)
end
mutual
theorem cns0 {m : Nat} : ∀ (r : Rw) (d l : Nat), r.G m d (l + 1) → r.cns = 0
  | .read _ _, _, _, _ => by simp [Rw.cns]
  | .set _ _, _, _, _ => by simp [Rw.cns]
  | .swap _ _ _ _, _, _, _ => by simp [Rw.cns]
  | .keep _ _, _, _, _ => by simp [Rw.cns]
  | .ans _, _, _, _ => by simp [Rw.cns]
  | .coin _, _, _, g => by simp [Rw.G] at g
  | .ite e a b, d, l, g => by
    obtain ⟨g1, g2, g3, g4⟩ := (show e.G ∧ 0 < d ∧ GL m (d - 1) (l + 1) a ∧ GL m (d - 1) (l + 1) b by simpa [Rw.G] using g)
    simp [Rw.cns, cnsL0 a (d - 1) l g3, cnsL0 b (d - 1) l g4]
  | .times e b, d, l, g => by
    obtain ⟨g1, g2, g3, g4⟩ := (show e.G ∧ 0 < d ∧ l + 1 < 2 ∧ GL m (d - 1) (l + 1 + 1) b by simpa [Rw.G] using g)
    simp [Rw.cns, cnsL0 b (d - 1) (l + 1) g4]
theorem cnsL0 {m : Nat} : ∀ (rs : List Rw) (d l : Nat), GL m d (l + 1) rs → cnsL rs = 0
  | [], _, _, _ => by simp [cnsL]
  | r :: rs, d, l, g => by
    obtain ⟨g1, g2⟩ := (show r.G m d (l + 1) ∧ GL m d (l + 1) rs by simpa [GL] using g)
    simp [cnsL, cns0 r d l g1, cnsL0 rs d l g2]
end
theorem iter_fit {sz : List Int} {m : Nat} {F : Vs → Option Int × Vs} (h : ∀ s, VOk sz m s → VOk sz m (F s).2 ∧ (F s).1 ≠ some (-1) ∧ s.falls.length ≤ (F s).2.falls.length) : ∀ (n : Nat) (s : Vs), VOk sz m s → (iter F n s).1 ≠ some (-1) ∧ s.falls.length ≤ (iter F n s).2.falls.length
  | 0, s, _ => ⟨by simp [iter], Nat.le_refl _⟩
  | n + 1, s, V => by
    obtain ⟨h1, h2, h3⟩ := h s V
    unfold iter
    cases e : F s with
    | mk o s1 =>
      rw [e] at h1 h2 h3
      cases o with
      | none =>
        obtain ⟨k1, k2⟩ := iter_fit h n s1 h1
        exact ⟨k1, Nat.le_trans h3 k2⟩
      | some a => exact ⟨h2, h3⟩
mutual
theorem run_fit {sz : List Int} {m : Nat} (hs : SzOk sz m) : ∀ (r : Rw) (d l : Nat) (s : Vs), r.G m d l → VOk sz m s → r.cns ≤ s.falls.length → (r.run sz s).1 ≠ some (-1) ∧ s.falls.length ≤ (r.run sz s).2.falls.length + r.cns
  | .read _ _, _, _, s, _, _, _ => ⟨by simp [Rw.run], by simp [Rw.run]⟩
  | .set _ _, _, _, s, _, _, _ => ⟨by simp [Rw.run], by simp [Rw.run]⟩
  | .swap _ _ _ _, _, _, s, _, _, _ => ⟨by simp [Rw.run], by simp [Rw.run]⟩
  | .keep _ _, _, _, s, _, _, _ => ⟨by simp [Rw.run], by simp [Rw.run]⟩
  | .ans e, d, l, s, g, V, _ => ⟨by
    have g1 : e.G := by simpa [Rw.G] using g
    have v := Ex.val_ok V.held g1.1
    simp only [Rw.run]
    intro z
    injection z with z
    omega, by simp [Rw.run]⟩
  | .coin r, d, l, s, g, V, h => by
    cases e : s.falls with
    | nil => simp [Rw.cns, e] at h
    | cons f fs => simp [Rw.run, e, Rw.cns]
  | .ite e a b, d, l, s, g, V, h => by
    obtain ⟨g1, g2, g3, g4⟩ := (show e.G ∧ 0 < d ∧ GL m (d - 1) l a ∧ GL m (d - 1) l b by simpa [Rw.G] using g)
    simp only [Rw.cns] at h ⊢
    simp only [Rw.run]
    split
    · obtain ⟨k1, k2⟩ := runL_fit hs b (d - 1) l s g4 V (by omega)
      exact ⟨k1, by omega⟩
    · obtain ⟨k1, k2⟩ := runL_fit hs a (d - 1) l s g3 V (by omega)
      exact ⟨k1, by omega⟩
  | .times e b, d, l, s, g, V, h => by
    obtain ⟨g1, g2, g3, g4⟩ := (show e.G ∧ 0 < d ∧ l < 2 ∧ GL m (d - 1) (l + 1) b by simpa [Rw.G] using g)
    simp only [Rw.run]
    have c0 := cnsL0 b (d - 1) l g4
    obtain ⟨k1, k2⟩ := iter_fit (sz := sz) (m := m) (F := runL sz b) (fun s V => ⟨runL_ok hs b (d - 1) (l + 1) s g4 V, (runL_fit hs b (d - 1) (l + 1) s g4 V (by omega)).1, by have := (runL_fit hs b (d - 1) (l + 1) s g4 V (by omega)).2; omega⟩) (e.val s.held).toNat s V
    exact ⟨k1, by omega⟩
theorem runL_fit {sz : List Int} {m : Nat} (hs : SzOk sz m) : ∀ (rs : List Rw) (d l : Nat) (s : Vs), GL m d l rs → VOk sz m s → cnsL rs ≤ s.falls.length → (runL sz rs s).1 ≠ some (-1) ∧ s.falls.length ≤ (runL sz rs s).2.falls.length + cnsL rs
  | [], _, _, s, _, _, _ => ⟨by simp [runL], by simp [runL]⟩
  | r :: rs, d, l, s, g, V, h => by
    obtain ⟨g1, g2⟩ := (show r.G m d l ∧ GL m d l rs by simpa [GL] using g)
    simp only [cnsL] at h ⊢
    obtain ⟨k1, k2⟩ := run_fit hs r d l s g1 V (by omega)
    have k3 := run_ok hs r d l s g1 V
    simp only [runL]
    cases e : r.run sz s with
    | mk o s1 =>
      rw [e] at k1 k2 k3
      simp only at k2
      cases o with
      | none =>
        obtain ⟨j1, j2⟩ := runL_fit hs rs d l s1 g2 k3 (by omega)
        exact ⟨j1, by simp only [seqV]; omega⟩
      | some a => exact ⟨k1, by simp only [seqV]; omega⟩
end
/-! ### deeds -/
structure Dd where
  name : Str
  ch : Int
  rows : List Rw
def encDd (d : Dd) : D := .tup [.str d.name, .int d.ch, .tup (encL d.rows)]
def encC (c : Int × Int) : D := .tup [.int c.1, .int c.2]
theorem tbl_get {f : Dd → D} : ∀ {l : List Dd} {d : Dd}, (l.map (·.name)).Nodup → d ∈ l → valD (l.map fun d => ((.inr d.name : Key), f d)) (.inr d.name) = some (f d)
  | [], _, _, h => by cases h
  | e :: l, d, hn, h => by
    rw [List.map_cons, valD_cons]
    rw [List.map_cons, List.nodup_cons] at hn
    rcases List.mem_cons.mp h with z | z
    · subst z
      rw [if_pos rfl]
    · have : ¬ (Sum.inr e.name : Key) = .inr d.name := fun q => hn.1 (by
        injection q with q
        rw [q]
        exact List.mem_map.mpr ⟨d, z, rfl⟩)
      rw [if_neg this]
      exact tbl_get hn.2 z
end TD

set_option Elab.async false
set_option linter.all false
set_option maxRecDepth 100000
set_option maxHeartbeats 2000000
/-! TD19: vaults in a store; more of what a call forgets. -/
namespace TD
open PySem PySem.Spec PyProof.Rows L2
theorem gc_not {S S' : Sto} {d : D} (h : ¬ gcOk S S') : gc S (.ok d S') = .ok d S' := by
  simp only [gc]
  rw [if_neg h]
theorem gc_open {S S' : Sto} {xs : List D} (h : clDs S.length xs = false) : gc S (.ok (.tup xs) S') = .ok (.tup xs) S' := by
  simp only [gc, clD, h]
  split <;> rfl
theorem ext_app {S S' : Sto} (hl : S.length ≤ S'.length) (h : ∀ i : Nat, i < S.length → S'[i]? = S[i]?) : S' = S ++ S'.drop S.length := by
  have e : S'.take S.length = S := by
    apply List.ext_getElem?
    intro i
    rw [List.getElem?_take]
    split
    · exact h i (by assumption)
    · rw [List.getElem?_eq_none (by omega)]
  conv => lhs; rw [← List.take_append_drop S.length S']
  rw [e]
/-- a vault in a store -/
structure Vc where
  v : Nat
  ict : Nat
  ibt : Nat
  cells : List (Int × Int)
  deeds : List Dd
  cn : Bool
def Vc.sz (C : Vc) : List Int := C.cells.map (·.1)
def vtF (C : Vc) : List (Str × D) := [("cell_row", .tup (C.cells.map encC)), ("deed_row", .tup (C.deeds.map encDd)), ("size_row", .tup (C.sz.map D.int)), ("begin", .tup ((C.cells.map (·.2)).map D.int)), ("choice_table", .ref C.ict), ("body_table", .ref C.ibt), ("coined", .bl C.cn)]
structure VtAt (C : Vc) (S : Sto) : Prop where
  v : S[C.v]? = some (.ins "Vault" (vtF C))
  t : S[C.ict]? = some (.dct (C.deeds.map fun d => (.inr d.name, .int d.ch)))
  b : S[C.ibt]? = some (.dct (C.deeds.map fun d => (.inr d.name, .tup (encL d.rows))))
def CsOk (cells : List (Int × Int)) : Prop := 1 ≤ cells.length ∧ cells.length ≤ 6 ∧ ∀ c ∈ cells, 1 ≤ c.1 ∧ c.1 ≤ 9 ∧ 0 ≤ c.2 ∧ c.2 < c.1
def DOk (m : Nat) (d : Dd) : Prop := 1 ≤ d.ch ∧ d.ch ≤ 9 ∧ GL m 5 0 d.rows ∧ wkL d.rows ≤ 2000 ∧ cnsL d.rows ≤ 4
def DsOk (m : Nat) (ds : List Dd) : Prop := (ds.map (·.name)).Nodup ∧ ∀ d ∈ ds, DOk m d
theorem CsOk.sz {cells : List (Int × Int)} (h : CsOk cells) : SzOk (cells.map (·.1)) cells.length := ⟨by simp, fun c hc => by
  have e : (cells.map (·.1)).getD c 0 = (cells[c]).1 := by simp [List.getD_eq_getElem?_getD, List.getElem?_eq_getElem hc]
  rw [e]
  obtain ⟨h1, h2, _⟩ := h.2.2 cells[c] (List.getElem_mem hc)
  exact ⟨h1, h2⟩⟩
/-- a state of a vault -/
def StOk (sz st : List Int) : Prop := st.length = sz.length ∧ ∀ c : Nat, c < sz.length → 0 ≤ st.getD c 0 ∧ st.getD c 0 < sz.getD c 0
def zeroR (x : Int) : Rs := fun r => if r = .x then x else 0
theorem zeroR_ok {x : Int} (h : 0 ≤ x) (h9 : x ≤ 9) : ROk (zeroR x) := fun r => by
  unfold zeroR
  split <;> omega
def start0 (st : List Int) (x : Int) (falls : List Int) : Vs := ⟨st, zeroR x, falls, 0, []⟩
theorem start_ok {sz st : List Int} {m : Nat} {x : Int} {falls : List Int} (Z : SzOk sz m) (h : StOk sz st) (h0 : 0 ≤ x) (h9 : x ≤ 9) (hf : ∀ f ∈ falls, 0 ≤ f ∧ f ≤ 1) : VOk sz m (start0 st x falls) := ⟨h.1.trans Z.1, fun c hc => by
  have hc' : c < sz.length := by rw [Z.1]; exact hc
  have a := h.2 c hc'
  have b := (Z.2 c hc).2
  show 0 ≤ st.getD c 0 ∧ st.getD c 0 ≤ 8
  omega, zeroR_ok h0 h9, hf⟩
theorem hd_zero (x : Int) : hd (zeroR x) = [(.inr (Str.ofString "a"), .int 0), (.inr (Str.ofString "b"), .int 0), (.inr (Str.ofString "c"), .int 0), (.inr (Str.ofString "d"), .int 0), (.inr (Str.ofString "x"), .int x)] := rfl
theorem pairs_ints (a b : List Int) : pairsD (a.map D.int) (b.map D.int) = (a.zip b).map fun p => .tup [.int p.1, .int p.2] := by
  induction a generalizing b with
  | nil => cases b <;> simp [pairsD]
  | cons x a ih => cases b with
    | nil => simp [pairsD]
    | cons y b => simp [pairsD, ih]
section
variable {Q : D → Sto → Prop} {X : Exc → Sto → Prop} {S : Sto}
theorem i2_of {d : D} {t : String} (h : tyOf S d = some t) (c c' : String) (hc : c = "list" ∨ c = "tuple") (hc' : c' = "list" ∨ c' = "tuple") : WR (gIsi S [d, .tup [.ty c, .ty c']]) Q X ↔ Q (.bl (tySub t c || tySub t c')) S :=
  g_isi2 h (by rcases hc with z | z <;> simp [z]) (by rcases hc' with z | z <;> simp [z])
@[simp] theorem i2_int (i : Int) : WR (gIsi S [.int i, .tup [.ty "tuple", .ty "list"]]) Q X ↔ Q (.bl false) S := by
  rw [i2_of (t := "int") rfl _ _ (by simp) (by simp)]
  simp [tySub]
@[simp] theorem i2_str (i : Str) : WR (gIsi S [.str i, .tup [.ty "tuple", .ty "list"]]) Q X ↔ Q (.bl false) S := by
  rw [i2_of (t := "str") rfl _ _ (by simp) (by simp)]
  simp [tySub]
@[simp] theorem i2_bl (i : Bool) : WR (gIsi S [.bl i, .tup [.ty "tuple", .ty "list"]]) Q X ↔ Q (.bl false) S := by
  rw [i2_of (t := "bool") rfl _ _ (by simp) (by simp)]
  simp [tySub]
@[simp] theorem i2_tup (i : List D) : WR (gIsi S [.tup i, .tup [.ty "tuple", .ty "list"]]) Q X ↔ Q (.bl true) S := by
  rw [i2_of (t := "tuple") rfl _ _ (by simp) (by simp)]
  simp [tySub]
theorem i2_lst {n : Nat} {xs : List D} (h : S[n]? = some (.lst xs)) : WR (gIsi S [.ref n, .tup [.ty "tuple", .ty "list"]]) Q X ↔ Q (.bl true) S := by
  rw [i2_of (t := "list") (by simp only [tyOf, h]) _ _ (by simp) (by simp)]
  simp
theorem i2_lst' {n : Nat} {xs : List D} (h : S[n]? = some (.lst xs)) : WR (gIsi S [.ref n, .tup [.ty "list", .ty "tuple"]]) Q X ↔ Q (.bl true) S := by
  rw [i2_of (t := "list") (by simp only [tyOf, h]) _ _ (by simp) (by simp)]
  simp
end
end TD

set_option Elab.async false
set_option linter.all false
set_option maxRecDepth 100000
set_option maxHeartbeats 2000000
/-! TD20: plain data of a depth. -/
namespace TD
open PySem PySem.Spec PyProof.Rows L2
def pl : Nat → D → Prop
  | 0, _ => False
  | _ + 1, .int _ => True
  | _ + 1, .str _ => True
  | _ + 1, .bl _ => True
  | _ + 1, .non => True
  | n + 1, .tup xs => xs.length < 1000000 ∧ ∀ x ∈ xs, pl n x
  | _ + 1, _ => False
theorem pl_E : ∀ (e : Ex) (n : Nat), e.dep < n → pl n (encE e)
  | .num _, n + 1, _ => trivial
  | .reg _, n + 1, _ => trivial
  | .op o l r, n + 1, h => by
    simp only [Ex.dep] at h
    refine ⟨by simp, fun x hx => ?_⟩
    simp only [List.mem_cons, List.mem_nil_iff, or_false] at hx
    rcases hx with rfl | rfl | rfl
    · cases n with
      | zero => omega
      | succ n => trivial
    · exact pl_E l n (by omega)
    · exact pl_E r n (by omega)
theorem pl_S {n : Nat} (h : 0 < n) (x : Str) : pl n (.str x) := by
  cases n with
  | zero => omega
  | succ n => trivial
theorem pl_I {n : Nat} (h : 0 < n) (x : Int) : pl n (.int x) := by
  cases n with
  | zero => omega
  | succ n => trivial
theorem pl_T {n : Nat} {xs : List D} (hl : xs.length < 1000000) (h : ∀ x ∈ xs, pl n x) : pl (n + 1) (.tup xs) := ⟨hl, h⟩
theorem wk_pos : ∀ r : Rw, 1 ≤ r.wk
  | .ite _ _ _ => by simp only [Rw.wk]; omega
  | .times _ _ => by simp only [Rw.wk]; omega
  | .read _ _ => by simp [Rw.wk]
  | .set _ _ => by simp [Rw.wk]
  | .swap _ _ _ _ => by simp [Rw.wk]
  | .keep _ _ => by simp [Rw.wk]
  | .coin _ => by simp [Rw.wk]
  | .ans _ => by simp [Rw.wk]
theorem len_wk : ∀ rs : List Rw, rs.length ≤ wkL rs
  | [] => by simp
  | r :: rs => by
    have := len_wk rs
    have := wk_pos r
    simp only [List.length_cons, wkL]
    omega
mutual
theorem pl_R {m : Nat} : ∀ (r : Rw) (d l n : Nat), r.G m d l → r.wk ≤ 100000 → 6 + 2 * d ≤ n → pl (n + 2) (encR r)
  | .read r c, d, l, n, g, _, h => pl_T (by simp) (by
    intro x hx
    simp only [List.mem_cons, List.mem_nil_iff, or_false] at hx
    rcases hx with rfl | rfl | rfl
    · exact pl_S (by omega) _
    · exact pl_S (by omega) _
    · exact pl_I (by omega) _)
  | .set c e, d, l, n, g, _, h => pl_T (by simp) (by
    obtain ⟨g1, g2⟩ := (show c < m ∧ e.G by simpa [Rw.G] using g)
    intro x hx
    simp only [List.mem_cons, List.mem_nil_iff, or_false] at hx
    rcases hx with rfl | rfl | rfl
    · exact pl_S (by omega) _
    · exact pl_I (by omega) _
    · exact pl_E e (n + 1) (by have := g2.2; omega))
  | .swap r c e f, d, l, n, g, _, h => pl_T (by simp) (by
    obtain ⟨g0, g1, g2, g3⟩ := (show r ≠ .x ∧ c < m ∧ e.G ∧ f.G by simpa [Rw.G] using g)
    intro x hx
    simp only [List.mem_cons, List.mem_nil_iff, or_false] at hx
    rcases hx with rfl | rfl | rfl | rfl | rfl
    · exact pl_S (by omega) _
    · exact pl_S (by omega) _
    · exact pl_I (by omega) _
    · exact pl_E e (n + 1) (by have := g2.2; omega)
    · exact pl_E f (n + 1) (by have := g3.2; omega))
  | .keep r e, d, l, n, g, _, h => pl_T (by simp) (by
    obtain ⟨g1, g2⟩ := (show r ≠ .x ∧ e.G by simpa [Rw.G] using g)
    intro x hx
    simp only [List.mem_cons, List.mem_nil_iff, or_false] at hx
    rcases hx with rfl | rfl | rfl
    · exact pl_S (by omega) _
    · exact pl_S (by omega) _
    · exact pl_E e (n + 1) (by have := g2.2; omega))
  | .coin r, d, l, n, g, _, h => pl_T (by simp) (by
    intro x hx
    simp only [List.mem_cons, List.mem_nil_iff, or_false] at hx
    rcases hx with rfl | rfl
    · exact pl_S (by omega) _
    · exact pl_S (by omega) _)
  | .ans e, d, l, n, g, _, h => pl_T (by simp) (by
    have g2 : e.G := by simpa [Rw.G] using g
    intro x hx
    simp only [List.mem_cons, List.mem_nil_iff, or_false] at hx
    rcases hx with rfl | rfl
    · exact pl_S (by omega) _
    · exact pl_E e (n + 1) (by have := g2.2; omega))
  | .ite e a b, d, l, n, g, w, h => pl_T (by simp) (by
    obtain ⟨g1, g2, g3, g4⟩ := (show e.G ∧ 0 < d ∧ GL m (d - 1) l a ∧ GL m (d - 1) l b by simpa [Rw.G] using g)
    simp only [Rw.wk] at w
    obtain ⟨k, rfl⟩ : ∃ k, n = k + 2 := ⟨n - 2, by omega⟩
    have la := len_wk a
    have lb := len_wk b
    intro x hx
    simp only [List.mem_cons, List.mem_nil_iff, or_false] at hx
    rcases hx with rfl | rfl | rfl | rfl
    · exact pl_S (by omega) _
    · exact pl_E e _ (by have := g1.2; omega)
    · exact pl_T (by rw [encL_len]; omega) (pl_L a (d - 1) l k g3 (by omega) (by omega))
    · exact pl_T (by rw [encL_len]; omega) (pl_L b (d - 1) l k g4 (by omega) (by omega)))
  | .times e b, d, l, n, g, w, h => pl_T (by simp) (by
    obtain ⟨g1, g2, g3, g4⟩ := (show e.G ∧ 0 < d ∧ l < 2 ∧ GL m (d - 1) (l + 1) b by simpa [Rw.G] using g)
    simp only [Rw.wk] at w
    obtain ⟨k, rfl⟩ : ∃ k, n = k + 2 := ⟨n - 2, by omega⟩
    have lb := len_wk b
    intro x hx
    simp only [List.mem_cons, List.mem_nil_iff, or_false] at hx
    rcases hx with rfl | rfl | rfl
    · exact pl_S (by omega) _
    · exact pl_E e _ (by have := g1.2; omega)
    · exact pl_T (by rw [encL_len]; omega) (pl_L b (d - 1) (l + 1) k g4 (by omega) (by omega)))
theorem pl_L {m : Nat} : ∀ (rs : List Rw) (d l n : Nat), GL m d l rs → wkL rs ≤ 100000 → 6 + 2 * d ≤ n → ∀ x ∈ encL rs, pl (n + 2) x
  | [], d, l, n, g, _, h => fun x hx => by simp [encL] at hx
  | r :: rs, d, l, n, g, w, h => fun x hx => by
    obtain ⟨g1, g2⟩ := (show r.G m d l ∧ GL m d l rs by simpa [GL] using g)
    simp only [wkL] at w
    rcases List.mem_cons.mp (show x ∈ encR r :: encL rs by simpa [encL] using hx) with z | z
    · rw [z]
      exact pl_R r d l n g1 (by omega) h
    · exact pl_L rs d l n g2 (by omega) h x z
end
theorem pl_D {m : Nat} {d : Dd} (h : DOk m d) : pl 20 (encDd d) := by
  obtain ⟨d1, d2, d3, d4, d5⟩ := h
  have := len_wk d.rows
  refine pl_T (by simp) fun x hx => ?_
  simp only [List.mem_cons, List.mem_nil_iff, or_false] at hx
  rcases hx with rfl | rfl | rfl
  · exact pl_S (by omega) _
  · exact pl_I (by omega) _
  · exact pl_T (by rw [encL_len]; omega) (pl_L d.rows 5 0 16 d3 (by omega) (by omega))
end TD

set_option Elab.async false
set_option linter.all false
set_option maxRecDepth 100000
set_option maxHeartbeats 2000000
/-! TD21: loops over written lists; words. -/
namespace TD
open PySem PySem.Spec PyProof.Rows L2
section
variable {K : Kt} {S : Sto} {ρ : Env}
@[simp] theorem w_forL_nil {p : List D × Option (Nat × List D)} {bd : FG} {body : FS} : WS (forL p bd body [] ρ S) K ↔ guardOk p S ∧ K.nx ρ S := by
  unfold forL
  split <;> simp [*]
@[simp] theorem w_forL_cons {p : List D × Option (Nat × List D)} {bd : FG} {body : FS} {d : D} {ds : List D} : WS (forL p bd body (d :: ds) ρ S) K ↔ guardOk p S ∧ OptP (bd d ρ) (fun ρ1 => WS (body ρ1 S) ⟨fun ρ2 S2 => WS (forL p bd body ds ρ2 S2) K, K.rt, K.ex, K.nx, fun ρ2 S2 => WS (forL p bd body ds ρ2 S2) K⟩) := by
  conv => lhs; unfold forL
  split
  · rename_i h
    cases e1 : bd d ρ with
    | none => simp [h]
    | some ρ1 =>
      simp only [h, true_and, optP_some]
      cases e2 : body ρ1 S <;> simp
  · rename_i h
    simp [h]
end
theorem one_str (a : String) (c : Nat) (h : (Str.ofString a).cps = #[c]) : (⟨#[c]⟩ : Str) = Str.ofString a := by
  have : Str.ofString a = ⟨(Str.ofString a).cps⟩ := rfl
  rw [this, h]
theorem signs_of (z : Str) (l : List Nat) (h : z.cps.toList = l) : signs z = l.map fun c => D.str ⟨#[c]⟩ := by
  unfold signs
  rw [h]
theorem cR : (⟨#[82]⟩ : Str) = Str.ofString "R" := one_str _ _ (by decide)
theorem cC : (⟨#[67]⟩ : Str) = Str.ofString "C" := one_str _ _ (by decide)
theorem cE_ : (⟨#[69]⟩ : Str) = Str.ofString "E" := one_str _ _ (by decide)
theorem cB : (⟨#[66]⟩ : Str) = Str.ofString "B" := one_str _ _ (by decide)
@[simp] theorem sg_RC : signs (Str.ofString "RC") = [.str (Str.ofString "R"), .str (Str.ofString "C")] := by
  rw [signs_of _ [82, 67] (by decide)]
  simp [cR, cC]
@[simp] theorem sg_CE : signs (Str.ofString "CE") = [.str (Str.ofString "C"), .str (Str.ofString "E")] := by
  rw [signs_of _ [67, 69] (by decide)]
  simp [cE_, cC]
@[simp] theorem sg_RCEE : signs (Str.ofString "RCEE") = [.str (Str.ofString "R"), .str (Str.ofString "C"), .str (Str.ofString "E"), .str (Str.ofString "E")] := by
  rw [signs_of _ [82, 67, 69, 69] (by decide)]
  simp [cE_, cC, cR]
@[simp] theorem sg_RE : signs (Str.ofString "RE") = [.str (Str.ofString "R"), .str (Str.ofString "E")] := by
  rw [signs_of _ [82, 69] (by decide)]
  simp [cE_, cR]
@[simp] theorem sg_R : signs (Str.ofString "R") = [.str (Str.ofString "R")] := by
  rw [signs_of _ [82] (by decide)]
  simp [cR]
@[simp] theorem sg_E : signs (Str.ofString "E") = [.str (Str.ofString "E")] := by
  rw [signs_of _ [69] (by decide)]
  simp [cE_]
@[simp] theorem sg_EB : signs (Str.ofString "EB") = [.str (Str.ofString "E"), .str (Str.ofString "B")] := by
  rw [signs_of _ [69, 66] (by decide)]
  simp [cE_, cB]
@[simp] theorem sg_EBB : signs (Str.ofString "EBB") = [.str (Str.ofString "E"), .str (Str.ofString "B"), .str (Str.ofString "B")] := by
  rw [signs_of _ [69, 66, 66] (by decide)]
  simp [cE_, cB]
@[simp] theorem pairsD_nil (y : List D) : pairsD [] y = [] := by simp [pairsD]
@[simp] theorem pairsD_cons (x y : D) (xs ys : List D) : pairsD (x :: xs) (y :: ys) = .tup [x, y] :: pairsD xs ys := by simp [pairsD]
@[simp] theorem eqFD_str (a b : Str) : eqFD (.str a) (.str b) = (a == b) := rfl
@[simp] theorem flatD_str (a : Str) : flatD (.str a) = true := rfl
@[simp] theorem flatD_int (a : Int) : flatD (.int a) = true := rfl
section
variable {Q : D → Sto → Prop} {X : Exc → Sto → Prop} {S : Sto}
@[simp] theorem g_kin (x : Str) (neg : Bool) (tbl : List (Str × D)) (t : Str) : WR (gKIn neg x tbl S (.str t) (.glo x)) Q X ↔ Q (.bl (if neg then !(tbl.lookup t).isSome else (tbl.lookup t).isSome)) S := by
  simp [gKIn]
@[simp] theorem g_kget (x : Str) (tbl : List (Str × D)) (t : Str) : WR (gKGet x tbl S (.glo x) (.str t)) Q X ↔ OptP (tbl.lookup t) (fun d => Q d S) := by
  simp only [gKGet, if_true]
  cases tbl.lookup t <;> exact Iff.rfl
end
@[simp] theorem len_RC : (Str.ofString "RC").length = 2 := by decide
@[simp] theorem len_CE : (Str.ofString "CE").length = 2 := by decide
@[simp] theorem len_RCEE : (Str.ofString "RCEE").length = 4 := by decide
@[simp] theorem len_RE : (Str.ofString "RE").length = 2 := by decide
@[simp] theorem len_R : (Str.ofString "R").length = 1 := by decide
@[simp] theorem len_E : (Str.ofString "E").length = 1 := by decide
@[simp] theorem len_EB : (Str.ofString "EB").length = 2 := by decide
@[simp] theorem len_EBB : (Str.ofString "EBB").length = 3 := by decide
end TD

set_option Elab.async false
set_option linter.all false
set_option maxRecDepth 100000
set_option maxHeartbeats 2000000
/-! TD22: comprehensions that map. -/
namespace TD
open PySem PySem.Spec PyProof.Rows L2
mutual
def Rw.hc : Rw → Bool
  | .coin _ => true
  | .ite _ a b => hcL a || hcL b
  | .times _ b => hcL b
  | .read _ _ => false
  | .set _ _ => false
  | .swap _ _ _ _ => false
  | .keep _ _ => false
  | .ans _ => false
def hcL : List Rw → Bool
  | [] => false
  | r :: rs => r.hc || hcL rs
end
theorem wr_lcMap {α : Type} {Q : D → Sto → Prop} {X : Exc → Sto → Prop} {p : List D × Option (Nat × List D)} {bd : FG} {e : FE} {ρ0 : Env} {S : Sto} {enc g : α → D} {xs : List α} (hl : xs.length < 1000000) (hg : ∀ T, guardOk p (S ++ [.lst T]))
    (he : ∀ x ∈ xs, ∀ T, ∃ ρ1, bd (enc x) ρ0 = some ρ1 ∧ WR (e ρ1 (S ++ [.lst T])) (fun d S' => d = g x ∧ S' = S ++ [.lst T]) NX) (hq : Q (.ref S.length) (S ++ [.lst (xs.map g)])) : WR (lcL p bd tTrue e S.length ρ0 (xs.map enc) (S ++ [.lst []])) Q X := by
  refine wr_lcL (fun ds acc S' => ∃ ys ys' : List α, xs = ys' ++ ys ∧ ds = ys.map enc ∧ acc = ys'.map g ∧ S' = S ++ [.lst acc]) ?_ ?_ ?_ _ _ _ ⟨xs, [], rfl, rfl, rfl, rfl⟩
  · rintro ds acc S' ⟨ys, ys', h1, h2, h3, rfl⟩
    refine ⟨hg acc, ?_⟩
    rw [List.getElem?_append_right (Nat.le_refl _), Nat.sub_self]
    rfl
  · rintro d ds acc S' ⟨ys, ys', h1, h2, h3, rfl⟩
    cases ys with
    | nil => simp at h2
    | cons y ys =>
      obtain ⟨rfl, rfl⟩ := (show d = enc y ∧ ds = ys.map enc by simpa using h2)
      obtain ⟨ρ1, e1, e2⟩ := he y (by rw [h1]; simp) acc
      refine ⟨ρ1, e1, ?_⟩
      simp only [w_tTrue, if_true]
      refine e2.step ?_
      rintro d S' ⟨rfl, rfl⟩
      refine ⟨by rw [List.getElem?_append_right (Nat.le_refl _), Nat.sub_self]; rfl, ?_, ys, ys' ++ [y], by simp [h1], rfl, by simp [h3], ?_⟩
      · have := congrArg List.length h1
        rw [h3]
        simp at this ⊢
        omega
      · rw [List.set_append_right _ _ (Nat.le_refl _), Nat.sub_self]
        rfl
  · rintro acc S' ⟨ys, ys', h1, h2, h3, rfl⟩
    have : ys = [] := by
      cases ys with
      | nil => rfl
      | cons y ys => simp at h2
    subst this
    rw [List.append_nil] at h1
    rw [h3, ← h1]
    exact hq
theorem put_new {κ : Type} [DecidableEq κ] : ∀ {kvs : List (κ × D)} {k : κ} {v : D}, (∀ q ∈ kvs, q.1 ≠ k) → putD kvs k v = kvs ++ [(k, v)] := fun {kvs k v} h => by
  unfold putD
  rw [if_neg]
  simp only [List.any_eq_true, decide_eq_true_eq, not_exists, not_and]
  exact fun q hq => h q hq
theorem wr_dcMap {Q : D → Sto → Prop} {X : Exc → Sto → Prop} {p : List D × Option (Nat × List D)} {bd : FG} {ek ev : FE} {ρ0 : Env} {S : Sto} {enc g : Dd → D} {xs : List Dd} (hl : xs.length < 1000000) (hn : (xs.map (·.name)).Nodup) (hg : ∀ T, guardOk p (S ++ [.dct T]))
    (he : ∀ x ∈ xs, ∀ T, ∃ ρ1, bd (enc x) ρ0 = some ρ1 ∧ WR (ek ρ1 (S ++ [.dct T])) (fun d S' => d = .str x.name ∧ S' = S ++ [.dct T]) NX ∧ WR (ev ρ1 (S ++ [.dct T])) (fun d S' => d = g x ∧ S' = S ++ [.dct T]) NX) (hq : Q (.ref S.length) (S ++ [.dct (xs.map fun x => (.inr x.name, g x))])) : WR (dcL p bd tTrue ek ev S.length ρ0 (xs.map enc) (S ++ [.dct []])) Q X := by
  refine wr_dcL (fun ds acc S' => ∃ ys ys' : List Dd, xs = ys' ++ ys ∧ ds = ys.map enc ∧ acc = ys'.map (fun x => ((.inr x.name : Key), g x)) ∧ S' = S ++ [.dct acc]) ?_ ?_ ?_ _ _ _ ⟨xs, [], rfl, rfl, rfl, rfl⟩
  · rintro ds acc S' ⟨ys, ys', h1, h2, h3, rfl⟩
    refine ⟨hg acc, ?_⟩
    rw [List.getElem?_append_right (Nat.le_refl _), Nat.sub_self]
    rfl
  · rintro d ds acc S' ⟨ys, ys', h1, h2, h3, rfl⟩
    cases ys with
    | nil => simp at h2
    | cons y ys =>
      obtain ⟨rfl, rfl⟩ := (show d = enc y ∧ ds = ys.map enc by simpa using h2)
      obtain ⟨ρ1, e1, e2, e3⟩ := he y (by rw [h1]; simp) acc
      refine ⟨ρ1, e1, ?_⟩
      simp only [w_tTrue, if_true]
      refine e2.step ?_
      rintro d S' ⟨rfl, rfl⟩
      refine e3.step ?_
      rintro d S' ⟨rfl, rfl⟩
      have hne : ∀ q ∈ acc, q.1 ≠ (.inr y.name : Key) := fun q hq e => by
        rw [h3] at hq
        obtain ⟨x, hx, rfl⟩ := List.mem_map.mp hq
        rw [h1, List.map_append, List.nodup_append] at hn
        injection e with e
        exact hn.2.2 _ (List.mem_map.mpr ⟨x, hx, rfl⟩) _ (List.mem_map.mpr ⟨y, List.mem_cons_self .., rfl⟩) e
      refine ⟨_, rfl, by rw [List.getElem?_append_right (Nat.le_refl _), Nat.sub_self]; rfl, ?_, ys, ys' ++ [y], by simp [h1], rfl, by rw [put_new hne]; simp [h3], ?_⟩
      · have := congrArg List.length h1
        rw [h3]
        simp at this ⊢
        omega
      · rw [List.set_append_right _ _ (Nat.le_refl _), Nat.sub_self]
        rfl
  · rintro acc S' ⟨ys, ys', h1, h2, h3, rfl⟩
    have : ys = [] := by
      cases ys with
      | nil => rfl
      | cons y ys => simp at h2
    subst this
    rw [List.append_nil] at h1
    rw [h3, ← h1]
    exact hq
theorem wr_lcMap' {α : Type} {Q : D → Sto → Prop} {X : Exc → Sto → Prop} {p : List D × Option (Nat × List D)} {bd : FG} {e : FE} {ρ0 : Env} {n : Nat} {S0 : Sto} (S : Sto) {enc : α → D} (g : α → D) {xs : List α} (hn : n = S.length) (hs : S0 = S ++ [.lst []]) (hl : xs.length < 1000000) (hg : ∀ T, guardOk p (S ++ [.lst T]))
    (he : ∀ x ∈ xs, ∀ T, ∃ ρ1, bd (enc x) ρ0 = some ρ1 ∧ WR (e ρ1 (S ++ [.lst T])) (fun d S' => d = g x ∧ S' = S ++ [.lst T]) NX) (hq : Q (.ref n) (S ++ [.lst (xs.map g)])) : WR (lcL p bd tTrue e n ρ0 (xs.map enc) S0) Q X := by
  subst hn hs
  exact wr_lcMap hl hg he hq
theorem wr_dcMap' {Q : D → Sto → Prop} {X : Exc → Sto → Prop} {p : List D × Option (Nat × List D)} {bd : FG} {ek ev : FE} {ρ0 : Env} {n : Nat} {S0 : Sto} (S : Sto) {enc : Dd → D} (g : Dd → D) {xs : List Dd} (hm : n = S.length) (hs : S0 = S ++ [.dct []]) (hl : xs.length < 1000000) (hn : (xs.map (·.name)).Nodup) (hg : ∀ T, guardOk p (S ++ [.dct T]))
    (he : ∀ x ∈ xs, ∀ T, ∃ ρ1, bd (enc x) ρ0 = some ρ1 ∧ WR (ek ρ1 (S ++ [.dct T])) (fun d S' => d = .str x.name ∧ S' = S ++ [.dct T]) NX ∧ WR (ev ρ1 (S ++ [.dct T])) (fun d S' => d = g x ∧ S' = S ++ [.dct T]) NX) (hq : Q (.ref n) (S ++ [.dct (xs.map fun x => (.inr x.name, g x))])) : WR (dcL p bd tTrue ek ev n ρ0 (xs.map enc) S0) Q X := by
  subst hm hs
  exact wr_dcMap hl hn hg he hq
end TD

set_option Elab.async false
set_option linter.all false
set_option maxRecDepth 100000
set_option maxHeartbeats 2000000
/-! TD23: what the steps of a run tell. -/
namespace TD
open PySem PySem.Spec PyProof.Rows L2
/-- e is a step from st to st' -/
def Step (st : List Int) (e : D) (st' : List Int) : Prop := ∃ (kd : Str) (c : Nat) (v : Int), e = .tup [.str kd, .int c, .int v, .tup (st'.map D.int)] ∧ st'.length = st.length ∧ ∀ j : Nat, st'.getD j 0 ≠ st.getD j 0 → j = c ∧ kd ≠ Str.ofString "read"
def Path : List Int → List D → List Int → Prop
  | st, [], st' => st' = st
  | st, e :: es, st' => ∃ m, Step st e m ∧ Path m es st'
theorem Path.app : ∀ {t u : List D} {a b c : List Int}, Path a t b → Path b u c → Path a (t ++ u) c
  | [], u, a, b, c, h, k => by cases h; exact k
  | e :: t, u, a, b, c, ⟨m, s, h⟩, k => ⟨m, s, h.app k⟩
theorem Path.len : ∀ {t : List D} {a b : List Int}, Path a t b → b.length = a.length
  | [], a, b, h => by cases h; rfl
  | e :: t, a, b, ⟨m, s, h⟩ => by
    obtain ⟨_, _, _, _, hl, _⟩ := s
    exact h.len.trans hl
/-- what a run has done -/
def Pth (s : Vs) (n : Nat) (s' : Vs) : Prop := ∃ t : List D, s'.trace = s.trace ++ t ∧ t.length ≤ n ∧ Path s.cells t s'.cells
theorem Pth.rfl' {s s' : Vs} {n : Nat} (ht : s'.trace = s.trace) (hc : s'.cells = s.cells) : Pth s n s' := ⟨[], by rw [ht, List.append_nil], Nat.zero_le _, hc⟩
theorem Pth.trans {s s1 s2 : Vs} {n m : Nat} (h : Pth s n s1) (k : Pth s1 m s2) : Pth s (n + m) s2 := by
  obtain ⟨t, t1, t2, t3⟩ := h
  obtain ⟨u, u1, u2, u3⟩ := k
  exact ⟨t ++ u, by rw [u1, t1, List.append_assoc], by rw [List.length_append]; omega, t3.app u3⟩
theorem Pth.mono {s s1 : Vs} {n m : Nat} (h : Pth s n s1) (hn : n ≤ m) : Pth s m s1 := by
  obtain ⟨t, t1, t2, t3⟩ := h
  exact ⟨t, t1, by omega, t3⟩
theorem Pth.one {s s1 : Vs} {e : D} {n : Nat} (hn : 1 ≤ n) (ht : s1.trace = s.trace ++ [e]) (h : Step s.cells e s1.cells) : Pth s n s1 := ⟨[e], ht, hn, _, h, rfl⟩
theorem iter_pth {sz : List Int} {m n : Nat} {f : Vs → Option Int × Vs} (hf : ∀ s, VOk sz m s → VOk sz m (f s).2) (hp : ∀ s, VOk sz m s → Pth s n (f s).2) : ∀ (k : Nat) (s : Vs), VOk sz m s → Pth s (k * n) (iter f k s).2
  | 0, s, h => .rfl' rfl rfl
  | k + 1, s, h => by
    have a := hf s h
    have b := hp s h
    unfold iter
    have e0 : (k + 1) * n = n + k * n := by rw [Nat.add_mul, Nat.one_mul, Nat.add_comm]
    rw [e0]
    cases e : f s with
    | mk o s' =>
      rw [e] at a b
      cases o with
      | none => exact b.trans (iter_pth hf hp k s' a)
      | some v => exact b.mono (by omega)
mutual
theorem run_pth {sz : List Int} {m : Nat} (hs : SzOk sz m) : ∀ (r : Rw) (d l : Nat) (s : Vs), r.G m d l → VOk sz m s → Pth s r.wk (r.run sz s).2
  | .read r c, d, l, s, g, h => by
    simp only [Rw.run]
    exact Pth.one (by simp [Rw.wk]) rfl ⟨_, c, _, rfl, rfl, fun j hj => absurd rfl hj⟩
  | .set c e, d, l, s, g, h => by
    obtain ⟨g1, g2⟩ := (show c < m ∧ e.G by simpa [Rw.G] using g)
    simp only [Rw.run]
    refine Pth.one (by simp [Rw.wk]) rfl ⟨_, c, _, rfl, by simp, fun j hj => ?_⟩
    rw [getD_set (by rw [h.len]; exact g1)] at hj
    by_cases hc : c = j
    · exact ⟨hc.symm, by decide⟩
    · simp [hc] at hj
  | .swap r c e f, d, l, s, g, h => by
    obtain ⟨g0, g1, g2, g3⟩ := (show r ≠ .x ∧ c < m ∧ e.G ∧ f.G by simpa [Rw.G] using g)
    simp only [Rw.run]
    by_cases hh : s.cells.getD c 0 = e.val s.held
    · simp only [hh, decide_true, if_true]
      refine Pth.one (by simp [Rw.wk]) rfl ⟨_, c, _, rfl, by simp, fun j hj => ?_⟩
      rw [getD_set (by rw [h.len]; exact g1)] at hj
      by_cases hc : c = j
      · exact ⟨hc.symm, by decide⟩
      · simp [hc] at hj
    · simp only [hh, decide_false, Bool.false_eq_true, if_false]
      exact Pth.one (by simp [Rw.wk]) rfl ⟨_, c, _, rfl, rfl, fun j hj => absurd rfl hj⟩
  | .keep r e, d, l, s, g, h => by
    simp only [Rw.run]
    exact .rfl' rfl rfl
  | .coin r, d, l, s, g, h => by
    simp only [Rw.run]
    cases e : s.falls with
    | nil => exact .rfl' rfl rfl
    | cons f fs => exact .rfl' rfl rfl
  | .ite e a b, d, l, s, g, h => by
    obtain ⟨g1, g2, g3, g4⟩ := (show e.G ∧ 0 < d ∧ GL m (d - 1) l a ∧ GL m (d - 1) l b by simpa [Rw.G] using g)
    simp only [Rw.run, Rw.wk]
    split
    · exact (runL_pth hs b (d - 1) l s g4 h).mono (by omega)
    · exact (runL_pth hs a (d - 1) l s g3 h).mono (by omega)
  | .times e b, d, l, s, g, h => by
    obtain ⟨g1, g2, g3, g4⟩ := (show e.G ∧ 0 < d ∧ l < 2 ∧ GL m (d - 1) (l + 1) b by simpa [Rw.G] using g)
    simp only [Rw.run, Rw.wk]
    have v := Ex.val_ok h.held g1.1
    have k := iter_pth (n := wkL b) (fun s h => runL_ok hs b (d - 1) (l + 1) s g4 h) (fun s h => runL_pth hs b (d - 1) (l + 1) s g4 h) (e.val s.held).toNat s h
    have hv : (e.val s.held).toNat ≤ 9 := by omega
    have := Nat.mul_le_mul_right (wkL b) hv
    exact k.mono (by omega)
  | .ans e, d, l, s, g, h => .rfl' rfl rfl
theorem runL_pth {sz : List Int} {m : Nat} (hs : SzOk sz m) : ∀ (r : List Rw) (d l : Nat) (s : Vs), GL m d l r → VOk sz m s → Pth s (wkL r) (runL sz r s).2
  | [], d, l, s, g, h => .rfl' rfl rfl
  | r :: rs, d, l, s, g, h => by
    obtain ⟨g1, g2⟩ := (show r.G m d l ∧ GL m d l rs by simpa [GL] using g)
    have k := run_ok hs r d l s g1 h
    have p := run_pth hs r d l s g1 h
    simp only [runL, wkL]
    cases e : r.run sz s with
    | mk o s' =>
      rw [e] at k p
      cases o with
      | none => exact p.trans (runL_pth hs rs d l s' g2 k)
      | some a => exact p.mono (by omega)
end
theorem Path.pl : ∀ {t : List D} {a b : List Int}, Path a t b → a.length < 1000000 → ∀ x ∈ t, pl 3 x
  | [], a, b, h, _, x, hx => by cases hx
  | e :: t, a, b, ⟨m, s, h⟩, hl, x, hx => by
    obtain ⟨kd, c, v, rfl, hm, _⟩ := s
    rcases List.mem_cons.mp hx with z | z
    · rw [z]
      refine ⟨by simp, fun y hy => ?_⟩
      simp only [List.mem_cons, List.mem_nil_iff, or_false] at hy
      rcases hy with rfl | rfl | rfl | rfl
      · trivial
      · trivial
      · trivial
      · refine ⟨by rw [List.length_map]; omega, fun q hq => ?_⟩
        obtain ⟨i, _, rfl⟩ := List.mem_map.mp hq
        trivial
    · exact h.pl (by omega) x z
end TD

set_option Elab.async false
set_option linter.all false
set_option maxRecDepth 100000
set_option maxHeartbeats 2000000
/-! TD24: raise X(), try .. except X: without a name. -/
namespace TD
open PySem PySem.Spec PyProof.Rows L2
/-- what is told of an own class of errors -/
structure ExcC (K : PySem.W.Frag) (C : Addr) : Prop where
  a : PySem.W.excIn K C He.veBase "ValueError.__new__" = true
  b : PySem.W.keepIn K (.ref C) = true
  c : PySem.W.subIn K (.ref C) (.type "BaseException") = some true
  d : PySem.W.typeIn K (.ref C) = some (.type "type")
theorem pmk_own0 {X : Cx} {C : Addr} {bmB : List Value} {B newId initId : String} {x : Str} {p pos : Pos} (F : ExcBaseFacts B newId initId bmB) (q : PySem.W.excIn X.K C bmB newId = true) (gC : X.mg x = some (.ref C))
    (kC : PySem.W.keepIn X.K (.ref C) = true) (r : Raises X (.ref C)) (hg : Gl X x) (hdb : (x == ("__debug__" : Str)) = false := by decide) :
    PMk X (.Call (.Name x p) [] [] pos) (fun _ H Q => Q (.ref C) none H) := by
  intro pins s σ H Q I h
  refine wpAny_Call_Name_kw (ld_glob I hg gC ?_ hdb)
  refine PySem.W.callWith_K0 I.kIn kC ?_
  show wpAny _ _ (call (.ref C) []) _ _ _
  obtain ⟨bm, N, nm, qn, bs, hdct, sn, sub, ab, col, dd, k0, k1, k2, k3, k5, mN, hC, hN, hni, T⟩ := exc_obj I.kIn q
  refine wpAny_call_exc_subT F T hC hN hni (fun h' e hm => ?_) (by show 0 ≤ sizeLine; exact Nat.zero_le _)
  exact mk_of I hm r h (I.hok.gone hm.new)
def sRaise (x : Str) : FS := fun ρ S => .exc ⟨x, none⟩ ρ S
theorem ds_raise0 {X : Cx} {W : WX} {C : Addr} {x : Str} {p pos pos' : Pos} (hc : X.calm = true) (tk : Takes X W) (F : ExcBaseFacts "ValueError" "ValueError.__new__" "ValueError.__init__" He.veBase) (gC : X.mg x = some (.ref C)) (ec : ExcC X.K C) (hg : Gl X x := by rfl) (hdb : (x == ("__debug__" : Str)) = false := by decide) :
    DS X W (.Raise (some (.Call (.Name x p) [] [] pos)) none pos') (sRaise x) :=
  (ps_raise hc tk (pmk_own0 F ec.a gC ec.b (raises_own ec.c ec.d) hg hdb)).to fun E σ H ⟨A, ρ, S, hv, hs, h⟩ => h A H σ _ none (Gr.refl _ _) hv hs ⟨C, gC, rfl, rfl⟩
theorem excC_of {K : PySem.W.Frag} {C : Addr} (h : PySem.W.excIn K C He.veBase "ValueError.__new__" = true ∧ PySem.W.keepIn K (.ref C) = true ∧ PySem.W.subIn K (.ref C) (.type "BaseException") = some true ∧ PySem.W.typeIn K (.ref C) = some (.type "type")) : ExcC K C := ⟨h.1, h.2.1, h.2.2.1, h.2.2.2⟩
/-- the table tells which classes are C's -/
def HT (K : PySem.W.Frag) (mg : Str → Option Value) (C : Addr) (tb : List (Str × Bool)) : Prop := ∀ y b, tb.lookup y = some b → ∀ D, mg y = some (.ref D) → PySem.W.exmOne K (.ref D) (.ref C) = some b
theorem ht_nil {K : PySem.W.Frag} {mg : Str → Option Value} {C : Addr} : HT K mg C [] := fun y b h => by cases h
theorem ht_cons {K : PySem.W.Frag} {mg : Str → Option Value} {C D : Addr} {n : Str} {b : Bool} {tb : List (Str × Bool)} (g : mg n = some (.ref D)) (e : PySem.W.exmOne K (.ref D) (.ref C) = some b) (r : HT K mg C tb) : HT K mg C ((n, b) :: tb) := fun y b' h D' h' => by
  rw [List.lookup_cons] at h
  by_cases hy : (y == n) = true
  · rw [hy] at h
    cases h
    have : y = n := by simpa using hy
    subst this
    rw [g] at h'
    cases h'
    exact e
  · rw [Bool.not_eq_true] at hy
    rw [hy] at h
    exact r y b' h D' h'
/-- which classes a clause takes, told by a table -/
def sTry (tb : List (Str × Bool)) (b u : FS) : FS := fun ρ S => match b ρ S with
  | .exc x ρ1 S1 => match tb.lookup x.cls with
    | some true => match u ρ1 S1 with
      | .exc _ _ _ => .bad
      | r => r
    | some false => .exc x ρ1 S1
    | none => .bad
  | r => r
theorem ds_try {X : Cx} {W : WX} {C : Addr} {x : Str} {np pos pos' : Pos} {body suite : List Stmt} {b₀ : Stmt} {fb fu : FS} {tb : List (Str × Bool)} (tk : Takes X W) (gC : X.mg x = some (.ref C))
    (ht : HT X.K X.mg C tb)
    (hb : ∀ (W' : WX) (pn : List (Addr × Obj)) (xe : Value → Shared → Prop), Takes (X.tr pn xe) W' → DSs (X.tr pn xe) W' body fb)
    (hu : ∀ (a : Addr) (pn : List (Addr × Obj)), DSs (X.suite a pn) WF (b₀ :: suite) fu)
    (hs : X.stack = X.env :: X.outer := by rfl) (hf : X.env.frame = some X.env.locals := by rfl) (hg : Gl X x := by rfl) (hdb : (x == ("__debug__" : Str)) = false := by decide) :
    DS X W (.Try body [.ExceptHandler (some (.Name x np)) none (b₀ :: suite) pos'] [] [] pos) (sTry tb fb fu) :=
  (ps_try_only (Wout := W) (tb := fun W' => cS (gx X) W' fb) (ts := fun _ _ _ => cS (gx X) WF fu) hs hf ⟨hg, hdb, .inl gC⟩ tk (fun W' pn xe t _ => hb W' pn xe t) (fun a oe cls d pn _ _ => hu a _)).to fun E σ H ⟨A, ρ, S, hv, hs, h⟩ => by
    refine ⟨A, ρ, S, hv, hs, ?_⟩
    unfold sTry at h
    cases e : fb ρ S with
    | exc y ρ1 S1 =>
      rw [e] at h
      intro A' H' σ' c dd g he' hs' hx
      obtain ⟨D, hD, rfl, hx2⟩ := hx
      cases e2 : tb.lookup y.cls with
      | none => simp only [e2] at h; exact h.elim
      | some b =>
        refine ⟨b, ht _ _ e2 D hD, fun hb a _ => ?_, fun hb => ?_⟩
        · subst hb
          simp only [e2] at h
          refine ⟨A', ρ1, S1, he', hs', ?_⟩
          cases e3 : fu ρ1 S1 with
          | exc z ρ3 S3 => rw [e3] at h; exact h.elim
          | nx ρ3 S3 => rw [e3] at h; exact SPost.grow g h
          | rt ρ3 S3 => rw [e3] at h; exact SPost.grow g h
          | bk ρ3 S3 => rw [e3] at h; exact SPost.grow g h
          | ct ρ3 S3 => rw [e3] at h; exact SPost.grow g h
          | bad => rw [e3] at h; exact h
        · subst hb
          simp only [e2] at h
          exact h A' H' σ' _ dd g he' hs' ⟨D, hD, rfl, hx2⟩
    | nx ρ3 S3 => rw [e] at h; exact h
    | rt ρ3 S3 => rw [e] at h; exact h
    | bk ρ3 S3 => rw [e] at h; exact h
    | ct ρ3 S3 => rw [e] at h; exact h
    | bad => rw [e] at h; exact h
end TD

set_option Elab.async false
set_option linter.all false
set_option maxRecDepth 100000
set_option maxHeartbeats 2000000
/-! TD25: raise and try, read; the ways in which coins fall. -/
namespace TD
open PySem PySem.Spec PyProof.Rows L2
section
variable {K : Kt} {S : Sto} {ρ : Env}
@[simp] theorem w_sRaise (x : Str) : WS (sRaise x ρ S) K ↔ K.ex ⟨x, none⟩ ρ S := Iff.rfl
/-- a try: what flies out of the body meets the table -/
theorem w_sTry {tb : List (Str × Bool)} {b u : FS} (h : WS (b ρ S) ⟨K.nx, K.rt, fun x ρ1 S1 => ∃ v, tb.lookup x.cls = some v ∧ if v = true then WS (u ρ1 S1) ⟨K.nx, K.rt, fun _ _ _ => False, K.bk, K.ct⟩ else K.ex x ρ1 S1, K.bk, K.ct⟩) : WS (sTry tb b u ρ S) K := by
  unfold sTry
  cases e : b ρ S with
  | exc x ρ1 S1 =>
    rw [e] at h
    obtain ⟨v, h1, h2⟩ := h
    simp only [h1]
    cases v with
    | false => exact h2
    | true =>
      have h2 : WS (u ρ1 S1) ⟨K.nx, K.rt, fun _ _ _ => False, K.bk, K.ct⟩ := by simpa using h2
      simp only []
      cases e3 : u ρ1 S1 with
      | exc z ρ3 S3 => rw [e3] at h2; exact h2.elim
      | nx ρ3 S3 => rw [e3] at h2; exact h2
      | rt ρ3 S3 => rw [e3] at h2; exact h2
      | bk ρ3 S3 => rw [e3] at h2; exact h2
      | ct ρ3 S3 => rw [e3] at h2; exact h2
      | bad => rw [e3] at h2; exact h2
  | nx ρ3 S3 => rw [e] at h; exact h
  | rt ρ3 S3 => rw [e] at h; exact h
  | bk ρ3 S3 => rw [e] at h; exact h
  | ct ρ3 S3 => rw [e] at h; exact h
  | bad => rw [e] at h; exact h
end
/-! ### the ways in which coins fall; q: the falls are too few -/
def lv (q : List Int → Bool) : Nat → List Int → List (List Int)
  | 0, f => [f]
  | n + 1, f => if q f = true then lv q n (f ++ [0]) ++ lv q n (f ++ [1]) else [f]
def ct : Nat → Nat
  | 0 => 1
  | n + 1 => 1 + 2 * ct n
def pend (q : List Int → Bool) : List (List Int) → List (List Int)
  | [] => []
  | f :: r => pend q r ++ lv q (4 - f.length) f
def cost : List (List Int) → Nat
  | [] => 0
  | f :: r => ct (4 - f.length) + cost r
theorem ct_pos : ∀ n, 1 ≤ ct n
  | 0 => Nat.le_refl _
  | n + 1 => by simp only [ct]; omega
theorem pend_app (q : List Int → Bool) : ∀ a b : List (List Int), pend q (a ++ b) = pend q b ++ pend q a
  | [], b => by simp [pend]
  | f :: a, b => by simp only [List.cons_append, pend, pend_app q a b, List.append_assoc]
theorem cost_app : ∀ a b : List (List Int), cost (a ++ b) = cost a + cost b
  | [], b => by simp [cost]
  | f :: a, b => by simp only [List.cons_append, cost, cost_app a b]; omega
theorem pend_lack {q : List Int → Bool} {s : List (List Int)} {f : List Int} (h : q f = true) (hl : f.length < 4) : pend q (s ++ [f]) = pend q (s ++ [f ++ [1], f ++ [0]]) := by
  rw [pend_app, pend_app]
  congr 1
  obtain ⟨n, hn⟩ : ∃ n, 4 - f.length = n + 1 := ⟨3 - f.length, by omega⟩
  have h1 : 4 - (f ++ [1]).length = n := by simp; omega
  have h0 : 4 - (f ++ [0]).length = n := by simp; omega
  simp only [pend, hn, h1, h0, lv, h, if_true, List.nil_append]
theorem pend_done {q : List Int → Bool} {s : List (List Int)} {f : List Int} (h : q f = false) : pend q (s ++ [f]) = f :: pend q s := by
  rw [pend_app]
  have : lv q (4 - f.length) f = [f] := by
    cases 4 - f.length with
    | zero => rfl
    | succ n => simp [lv, h]
  simp [pend, this]
theorem cost_lack {s : List (List Int)} {f : List Int} (hl : f.length < 4) : cost (s ++ [f ++ [1], f ++ [0]]) + 1 = cost (s ++ [f]) := by
  rw [cost_app, cost_app]
  obtain ⟨n, hn⟩ : ∃ n, 4 - f.length = n + 1 := ⟨3 - f.length, by omega⟩
  have h1 : 4 - (f ++ [1]).length = n := by simp; omega
  have h0 : 4 - (f ++ [0]).length = n := by simp; omega
  simp only [cost, hn, h1, h0, ct]
  omega
theorem cost_done {s : List (List Int)} {f : List Int} : cost s + 1 ≤ cost (s ++ [f]) := by
  rw [cost_app]
  have := ct_pos (4 - f.length)
  simp only [cost]
  omega
/-- a node of the tree: right falls, too few ahead of it -/
def Nd (q : List Int → Bool) (f : List Int) : Prop := f.length ≤ 4 ∧ (∀ x ∈ f, 0 ≤ x ∧ x ≤ 1) ∧ ∀ k : Nat, k < f.length → q (f.take k) = true
theorem Nd.nil {q : List Int → Bool} : Nd q [] := ⟨by simp, by simp, by simp⟩
theorem Nd.snoc {q : List Int → Bool} {f : List Int} (h : Nd q f) (hq : q f = true) (hl : f.length < 4) {x : Int} (h0 : 0 ≤ x) (h1 : x ≤ 1) : Nd q (f ++ [x]) := by
  refine ⟨by simp; omega, fun y hy => ?_, fun k hk => ?_⟩
  · rcases List.mem_append.mp hy with z | z
    · exact h.2.1 y z
    · simp at z
      omega
  · simp at hk
    rcases Nat.lt_or_ge k f.length with z | z
    · rw [List.take_append_of_le_length (by omega)]
      exact h.2.2 k z
    · have : k = f.length := by omega
      subst this
      rw [List.take_append_of_le_length (Nat.le_refl _), List.take_length]
      exact hq
def wt (f : List Int) : Nat := 2 ^ (4 - f.length)
def wts : List (List Int) → Nat
  | [] => 0
  | f :: r => wt f + wts r
theorem wts_app : ∀ a b : List (List Int), wts (a ++ b) = wts a + wts b
  | [], b => by simp [wts]
  | f :: a, b => by simp only [List.cons_append, wts, wts_app a b]; omega
theorem lv_all {q : List Int → Bool} (h4 : ∀ f : List Int, f.length = 4 → Nd q f → q f = false) : ∀ (n : Nat) (f : List Int), f.length + n = 4 → Nd q f → (∀ g ∈ lv q n f, Nd q g ∧ q g = false) ∧ wts (lv q n f) = wt f ∧ (lv q n f).length ≤ 2 ^ n
  | 0, f, hl, hn => ⟨fun g hg => by
    have : g = f := by simpa [lv] using hg
    subst this
    exact ⟨hn, h4 g (by omega) hn⟩, by simp [lv, wts], by simp [lv]⟩
  | n + 1, f, hl, hn => by
    cases hq : q f with
    | false =>
      simp only [lv, hq, Bool.false_eq_true, if_false]
      refine ⟨fun g hg => ?_, by simp [wts], by simp [Nat.one_le_two_pow]⟩
      have : g = f := by simpa using hg
      subst this
      exact ⟨hn, hq⟩
    | true =>
      obtain ⟨a1, a2, a3⟩ := lv_all h4 n (f ++ [0]) (by simp; omega) (hn.snoc hq (by omega) (by decide) (by decide))
      obtain ⟨b1, b2, b3⟩ := lv_all h4 n (f ++ [1]) (by simp; omega) (hn.snoc hq (by omega) (by decide) (by decide))
      simp only [lv, hq, if_true]
      refine ⟨fun g hg => ?_, ?_, ?_⟩
      · rcases List.mem_append.mp hg with z | z
        · exact a1 g z
        · exact b1 g z
      · rw [wts_app, a2, b2]
        simp only [wt, List.length_append, List.length_singleton]
        have : 4 - f.length = (4 - (f.length + 1)) + 1 := by omega
        rw [this, Nat.pow_succ]
        omega
      · rw [List.length_append, Nat.pow_succ]
        omega
end TD

set_option Elab.async false
set_option linter.all false
set_option maxRecDepth 100000
set_option maxHeartbeats 2000000
/-! TD26: dicts whose keys are tuples. -/
namespace TD
open PySem PySem.Spec PyProof.Rows L2
def keysOfL : List D → Option (List Key)
  | [] => some []
  | d :: ds => match keyOf d, keysOfL ds with
    | some k, some ks => some (k :: ks)
    | _, _ => none
def keyT : D → Option (List Key)
  | .tup ds => keysOfL ds
  | _ => none
def keyD : Key → D
  | .inl i => .int i
  | .inr x => .str x
theorem keysOfL_rep {G : GX} {A : List Addr} {H : Hp} : ∀ {ds : List D} {vs : List V} {ks : List Key}, Reps G A H ds vs → keysOfL ds = some ks → vs = ks.map kV
  | [], vs, ks, r, h => by cases h; cases r; rfl
  | d :: ds, vs, ks, r, h => by
    obtain ⟨v, t, rfl, r1, r2⟩ := r
    unfold keysOfL at h
    split at h
    · rename_i k ks' e1 e2
      cases h
      rw [keyOf_rep r1 e1, keysOfL_rep r2 e2]
      rfl
    · cases h
theorem keyT_rep {G : GX} {A : List Addr} {H : Hp} {d : D} {v : V} {ks : List Key} (r : Rep G A H d v) (h : keyT d = some ks) : ∃ b, v = .ref b ∧ H b = some (.tup (ks.map kV)) := by
  cases d with
  | tup ds =>
    obtain ⟨a, vs, rfl, h1, h2⟩ := r
    rw [keysOfL_rep h2 h] at h1
    exact ⟨a, rfl, h1⟩
  | _ => cases h
theorem kV_rep {G : GX} {A : List Addr} {H : Hp} : ∀ k : Key, Rep G A H (keyD k) (kV k)
  | .inl _ => rfl
  | .inr _ => rfl
theorem kVs_rep {G : GX} {A : List Addr} {H : Hp} : ∀ ks : List Key, Reps G A H (ks.map keyD) (ks.map kV)
  | [] => rfl
  | k :: ks => Reps.cons (kV_rep k) (kVs_rep ks)
/-- a dict with tuple keys, locked or not -/
def dttOf (S : Sto) : D → Option (Nat × List (List Key × D))
  | .ref n => match S[n]? with
    | some (.dtt kvs) => some (n, kvs)
    | some (.fdt kvs) => some (n, kvs)
    | _ => none
  | _ => none
theorem dtt_at {G : GX} {A : List Addr} {H : Hp} {S : Sto} {d : D} {v : V} {n : Nat} {kvs : List (List Key × D)} (hs : HR G A H S) (r : Rep G A H d v) (h : dttOf S d = some (n, kvs)) : ∃ a vs, d = .ref n ∧ A[n]? = some a ∧ v = .ref a ∧ Rd H a (.dT vs) ∧ RepKV G A H kvs vs := by
  unfold dttOf at h
  split at h
  · split at h
    · rename_i e
      cases h
      obtain ⟨a, ea, rfl⟩ := r
      obtain ⟨vs, h1, h2⟩ := hs.at ea e
      exact ⟨a, vs, rfl, ea, rfl, .inl h1, h2⟩
    · rename_i e
      cases h
      obtain ⟨a, ea, rfl⟩ := r
      obtain ⟨o, vs, h1, h2⟩ := hs.at ea e
      exact ⟨a, vs, rfl, ea, rfl, .inr ⟨o, h1⟩, h2⟩
    · cases h
  · cases h
theorem valT_is {G : GX} {A : List Addr} {H : Hp} {kvs : List (List Key × D)} {vs : List (List Key × V)} {k : List Key} (r : RepKV G A H kvs vs) : (valV vs k).isSome = (valD kvs k).isSome := by
  cases e3 : valD kvs k with
  | none => rw [valD_none r e3]; rfl
  | some d => obtain ⟨v, ev, _⟩ := valD_some r e3; rw [ev]; rfl
/-- d[t] -/
def gTGet : Sto → D → D → Res D := fun S x y => match dttOf S x, keyT y with
  | some (_, kvs), some k => match valD kvs k with
    | some d => .ok d S
    | none => .bad
  | _, _ => .bad
def gTIn (neg : Bool) : Sto → D → D → Res D := fun S y x => match dttOf S x, keyT y with
  | some (_, kvs), some k => .ok (.bl (if neg then !(valD kvs k).isSome else (valD kvs k).isSome)) S
  | _, _ => .bad
/-- d.get(t, x) -/
def gTGet2 (S : Sto) (x y z : D) : Res D := match dttOf S x, keyT y with
  | some (_, kvs), some k => .ok ((valD kvs k).getD z) S
  | _, _ => .bad
def dTGet2 (fo fk fz : FE) : FE := fun ρ S => (fo ρ S).bind fun x S1 => if (dttOf S1 x).isSome = true then (fk ρ S1).bind fun y S2 => (fz ρ S2).bind fun z S3 => gTGet2 S3 x y z else .bad
def sTPut (fo fk fv : FE) : FS := fun ρ S => match (fv ρ S).bind fun v S1 => (fo ρ S1).bind fun x S2 => (fk ρ S2).bind fun y S3 => match x with
    | .ref n => match S3[n]?, keyT y with
      | some (.dtt kvs), some k => if kvs.length < 1000000 then Res.ok () (S3.set n (.dtt (putD kvs k v))) else .bad
      | _, _ => .bad
    | _ => .bad with
  | .ok _ S1 => .nx ρ S1
  | .bad => .bad
  | .exc x S1 => .exc x ρ S1
/-- {}, for tuple keys -/
def dTNew : FE := fun _ S => .ok (.ref S.length) (S ++ [.dtt []])
def gTLen : Sto → List D → Res D := fun S ds => match ds with
  | [x] => match x with
    | .ref n => match S[n]? with
      | some (.dtt kvs) => .ok (.int kvs.length) S
      | _ => .bad
    | _ => .bad
  | _ => .bad
section
variable {X : Cx} {W : WX} {a b o i value e f : Expr} {fa fb fo fk fv fz : FE} {pos pos' apos cpos : Pos}
theorem de_tget {k : Nat} (hr : Room k X.A) (ho : DE X W a fa) (hi : DE X W b fb) (hs : NoSl b := by intro _ _; rfl) : DE X W (.Subscript a b pos) (dOp gTGet fa fb) := (pe_dget (hu_room hr) ho hi hs).to fun σ H Q ⟨A, ρ, S, he, hs, h⟩ =>
  can_bind he hs h fun d S1 A1 H1 v g1 r1 hs1 he1 h1 => can_bind he1 hs1 h1 fun e S2 A2 H2 w g2 r2 hs2 he2 h2 => by
    unfold gTGet at h2
    split at h2
    · rename_i n kvs k e1 e2
      obtain ⟨a, vs, rfl, ea, rfl, h3, h4⟩ := dtt_at hs2 (r1.mono g2) e1
      obtain ⟨kb, rfl, h5⟩ := keyT_rep r2 e2
      split at h2
      · rename_i d e3
        obtain ⟨v, ev, rv⟩ := valD_some h4 e3
        exact ⟨a, v, rfl, .inr ⟨vs, k, kb, h3, rfl, h5, ev.symm⟩, Post.val h2 rv hs2⟩
      · exact h2.elim
    · exact h2.elim
theorem tIn_read {neg : Bool} : ∀ σ H Q, cE (gx X) W (dOp (gTIn neg) fa fb) σ H Q → (fun σ H (Q : VK) => cE (gx X) W fa σ H fun y H1 => cE (gx X) W fb σ H1 fun x H2 => ∃ a o, x = .ref a ∧ DGet H2 a y o ∧ Q (.bl (if neg then !o.isSome else o.isSome)) H2) σ H Q := fun σ H Q ⟨A, ρ, S, he, hs, h⟩ =>
  can_bind he hs h fun d S1 A1 H1 v g1 r1 hs1 he1 h1 => can_bind he1 hs1 h1 fun e S2 A2 H2 w g2 r2 hs2 he2 h2 => by
    unfold gTIn at h2
    split at h2
    · rename_i n kvs k e1 e2
      obtain ⟨a, vs, rfl, ea, rfl, h3, h4⟩ := dtt_at hs2 r2 e1
      obtain ⟨kb, rfl, h5⟩ := keyT_rep (r1.mono g2) e2
      refine ⟨a, valV vs k, rfl, .inr ⟨vs, k, kb, h3, rfl, h5, rfl⟩, ?_⟩
      rw [valT_is h4]
      exact Post.val h2 rfl hs2
    · exact h2.elim
theorem dt_tin {k : Nat} (hr : Room k X.A) (ha : DE X W a fa) (hb : DE X W b fb) (hm : behindInMarks .In b = false := by rfl) : DT X W (.Compare a [.In] [b] pos) (dTst (dOp (gTIn false) fa fb)) := (pt_cmp (pc_din (hu_room hr) ha hb) hm).to fun σ H Q ⟨A, ρ, S, he, hs, h⟩ =>
  tIn_read (neg := false) σ H (fun z H1 => ∃ c, z = .bl c ∧ Q c H1) (can_bind he hs h fun d S1 A1 H1 v g1 r1 hs1 he1 h1 => by
    cases d with
    | bl b => exact ⟨b, r1, Post.val h1 rfl hs1⟩
    | _ => exact h1.elim)
theorem dt_tnotin {k : Nat} (hr : Room k X.A) (ha : DE X W a fa) (hb : DE X W b fb) (hm : behindInMarks .NotIn b = false := by rfl) : DT X W (.Compare a [.NotIn] [b] pos) (dTst (dOp (gTIn true) fa fb)) := (pt_cmp (pc_dnotin (hu_room hr) ha hb) hm).to fun σ H Q ⟨A, ρ, S, he, hs, h⟩ =>
  tIn_read (neg := true) σ H (fun z H1 => ∃ c, z = .bl c ∧ Q c H1) (can_bind he hs h fun d S1 A1 H1 v g1 r1 hs1 he1 h1 => by
    cases d with
    | bl b => exact ⟨b, r1, Post.val h1 rfl hs1⟩
    | _ => exact h1.elim)
theorem de_tnew : DE X W (.Dict [] [] pos) dTNew := pe_dnewT.to fun σ H Q ⟨A, ρ, S, he, hs, h⟩ p hp => by
  refine Post.valG h (Gr.push hp) ⟨p, ?_, rfl⟩ (hs.push (u := .dtt []) hp ⟨[], upd_same, .nil⟩)
  rw [List.getElem?_append_right (by rw [hs.len]; exact Nat.le_refl _), hs.len, Nat.sub_self]
  rfl
theorem de_tget2 {k : Nat} (hr : Room k X.A) (ho : DE X W o fo) (he : DE X W e fk) (hf : DE X W f fz) (m : M2 X o "get" apos e f cpos) : DE X W (.Call (.Attribute o "get" apos) [e, f] [] cpos) (dTGet2 fo fk fz) := (pe_dget2 (hu_room hr) ho he hf m).to fun σ H Q ⟨A, ρ, S, he, hs, h⟩ =>
  can_bind he hs h fun x S1 A1 H1 v g1 r1 hs1 he1 h1 => by
    split at h1
    · rename_i hi
      obtain ⟨⟨n, kvs⟩, e1⟩ := Option.isSome_iff_exists.mp hi
      obtain ⟨a, vs, rfl, ea, rfl, h3, h4⟩ := dtt_at hs1 r1 e1
      refine ⟨a, rfl, ?_, can_bind he1 hs1 h1 fun y S2 A2 H2 w g2 r2 hs2 he2 h2 => can_bind he2 hs2 h2 fun z S3 A3 H3 u g3 r3 hs3 he3 h5 => ?_⟩
      · exact .inr ⟨vs, h3⟩
      · unfold gTGet2 at h5
        split at h5
        · rename_i n' kvs' k' e2 e3
          obtain ⟨a', vs', e4, ea', e5, h6, h7⟩ := dtt_at hs3 ((r1.mono g2).mono g3) e2
          cases e5
          obtain ⟨kb, rfl, h8⟩ := keyT_rep (r2.mono g3) e3
          refine ⟨valV vs' k', .inr ⟨vs', k', kb, h6, rfl, h8, rfl⟩, ?_⟩
          cases e9 : valD kvs' k' with
          | none =>
            rw [e9] at h5
            rw [valD_none h7 e9]
            exact Post.val h5 r3 hs3
          | some d =>
            obtain ⟨v, ev, rv⟩ := valD_some h7 e9
            rw [e9] at h5
            rw [ev]
            exact Post.val h5 rv hs3
        · exact h5.elim
    · exact h1.elim
theorem ds_tput {k : Nat} (hr : Room k X.A) (ho : DE X W o fo) (hi : DE X W i fk) (hv : DE X W value fv) (hs : swapsWith value (some (.Subscript o i pos')) pos.line X.env = pure false := by rfl) : DS X W (.Assign [.Subscript o i pos'] value pos) (sTPut fo fk fv) := (ps_dput (hu_room hr) ho hi hv hs).to fun E σ H ⟨A, ρ, S, he, hs, h⟩ =>
  put_bind he hs h fun d S1 A1 H1 v g1 r1 hs1 he1 h1 => put_bind he1 hs1 h1 fun x S2 A2 H2 w g2 r2 hs2 he2 h2 => put_bind he2 hs2 h2 fun y S3 A3 H3 u g3 r3 hs3 he3 h3 => by
    cases x with
    | ref n =>
      dsimp only at h3
      cases e1 : S3[n]? with
      | none => rw [e1] at h3; exact h3.elim
      | some q =>
        cases q with
        | dtt kvs =>
          cases e2 : keyT y with
          | none => rw [e1, e2] at h3; exact h3.elim
          | some k =>
            rw [e1, e2] at h3
            dsimp only at h3
            by_cases hl : kvs.length < 1000000
            · rw [if_pos hl] at h3
              obtain ⟨a, ea, rfl⟩ := r2
              have ea := g3.get ea
              obtain ⟨vs, h4, h5⟩ := hs3.at ea e1
              obtain ⟨kb, rfl, h6⟩ := keyT_rep r3 e2
              have gput : Gr A3 H3 A3 (upd H3 a (.dT (putK vs k v))) := Gr.put h4 (fun _ z => nomatch z) (fun _ _ z => nomatch z)
              have rv : Rep (gx X) A3 H3 d v := (r1.mono g2).mono g3
              refine ⟨a, _, rfl, DPut.t h4 h6 (Nat.lt_of_lt_of_le ?_ (by decide : 1000000 ≤ sizeLine)), h3 A3 _ σ gput (he3.mono gput) (hs3.put (w := .dtt (putD kvs k d)) ea h4 (fun _ z => nomatch z) (fun _ _ z => nomatch z) ⟨_, upd_same, (putD_rep h5 rv).mono gput⟩)⟩
              rw [← Paired.length h5]
              exact hl
            · rw [if_neg hl] at h3; exact h3.elim
        | _ => rw [e1] at h3; exact h3.elim
    | _ => exact h3.elim
end
end TD

set_option Elab.async false
set_option linter.all false
set_option maxRecDepth 100000
set_option maxHeartbeats 2000000
/-! TD27: a dict with tuple keys is walked while it is locked. -/
namespace TD
open PySem PySem.Spec PyProof.Rows L2
section
variable {G : GX} {A : List Addr} {H : Hp} {a : Addr} {od : Obj} {vs : List (List Key × V)}
mutual
theorem Rep.unl (u : H a = some (.frz od (.dT vs))) : ∀ (d : D) {v : V}, Rep G A H d v → Rep G A (upd H a (.dT vs)) d v
  | .non, _, h => h
  | .bl _, _, h => h
  | .int _, _, h => h
  | .str _, _, h => h
  | .ref n, _, h => h
  | .glo _, _, h => h
  | .ty _, _, h => h
  | .tup ds, _, h => by
    obtain ⟨b, ws, e, h1, h2⟩ := h
    refine ⟨b, ws, e, ?_, Reps.unl u ds h2⟩
    rw [upd_ne (fun z => by rw [z, u] at h1; cases h1)]
    exact h1
  | .ktp ds, _, h => by
    obtain ⟨b, ws, e, h1, h2⟩ := h
    exact ⟨b, ws, e, h1, Reps.unl u ds h2⟩
  | .fls ds, _, h => by
    obtain ⟨b, ws, e, h1, h2⟩ := h
    refine ⟨b, ws, e, h1.imp (fun ⟨o, h1⟩ => ⟨o, ?_⟩) id, Reps.unl u ds h2⟩
    rw [upd_ne (fun z => by rw [z, u] at h1; cases h1)]
    exact h1
theorem Reps.unl (u : H a = some (.frz od (.dT vs))) : ∀ (ds : List D) {ws : List V}, Reps G A H ds ws → Reps G A (upd H a (.dT vs)) ds ws
  | [], _, h => h
  | d :: ds, _, h => by
    obtain ⟨v, r, e, h1, h2⟩ := h
    exact ⟨v, r, e, Rep.unl u d h1, Reps.unl u ds h2⟩
end
theorem RepKV.unl {κ : Type} (u : H a = some (.frz od (.dT vs))) {ks : List (κ × D)} {ws : List (κ × V)} (h : RepKV G A H ks ws) : RepKV G A (upd H a (.dT vs)) ks ws := Paired.mapP h fun _ _ k => ⟨k.1, Rep.unl u _ k.2⟩
theorem RepE.unl (u : H a = some (.frz od (.dT vs))) {ρ : Env} {σ : L2.St} (h : RepE G A H ρ σ) : RepE G A (upd H a (.dT vs)) ρ σ := ⟨h.len, fun i d e => by
  obtain ⟨v, e1, r⟩ := h.get i d e
  exact ⟨v, e1, Rep.unl u _ r⟩⟩
theorem RepO.unl (u : H a = some (.frz od (.dT vs))) {o : DO} {b : Addr} (hb : b ≠ a) (h : RepO G A H o b) : RepO G A (upd H a (.dT vs)) o b := by
  have e : (upd H a (.dT vs)) b = H b := upd_ne hb
  cases o with
  | lst xs => obtain ⟨ws, e1, r⟩ := h; exact ⟨ws, e.trans e1, Reps.unl u _ r⟩
  | dct xs => obtain ⟨ws, e1, r⟩ := h; exact ⟨ws, e.trans e1, RepKV.unl u r⟩
  | dtt xs => obtain ⟨ws, e1, r⟩ := h; exact ⟨ws, e.trans e1, RepKV.unl u r⟩
  | fdt xs => obtain ⟨o, ws, e1, r⟩ := h; exact ⟨o, ws, e.trans e1, RepKV.unl u r⟩
  | ins x fs => obtain ⟨C, dx, ws, hc, e1, r⟩ := h; exact ⟨C, dx, ws, hc, e.trans e1, RepKV.unl u r⟩
  | dead =>
    show (upd H a (.dT vs)) b ≠ none
    rw [e]
    exact h
theorem HR.unl (u : H a = some (.frz od (.dT vs))) {S : Sto} (h : HR G A H S) {n : Nat} (ea : A[n]? = some a) {kvs : List (List Key × D)} (e : S[n]? = some (.fdt kvs)) : HR G A (upd H a (.dT vs)) (S.set n (.dtt kvs)) := by
  refine ⟨by rw [List.length_set]; exact h.len, h.inj, fun m x em => ?_⟩
  by_cases hm : m = n
  · subst hm
    rw [List.getElem?_set] at em
    simp only [if_true] at em
    split at em
    · cases em
      obtain ⟨o, ws, e1, r⟩ := h.at ea e
      rw [u] at e1
      cases e1
      exact ⟨a, ea, vs, upd_same, RepKV.unl u r⟩
    · cases em
  · rw [List.getElem?_set_ne (Ne.symm hm)] at em
    obtain ⟨b, eb, q⟩ := h.obj m x em
    refine ⟨b, eb, RepO.unl u (fun z => ?_) q⟩
    exact hm (h.inj m n a (z ▸ eb) ea)
end
/-- the dict at n is free again -/
def unl (n : Nat) : SR → SR
  | .nx ρ S => match S[n]? with
    | some (.fdt kvs) => .nx ρ (S.set n (.dtt kvs))
    | _ => .bad
  | .bk ρ S => match S[n]? with
    | some (.fdt kvs) => .bk ρ (S.set n (.dtt kvs))
    | _ => .bad
  | .ct ρ S => match S[n]? with
    | some (.fdt kvs) => .ct ρ (S.set n (.dtt kvs))
    | _ => .bad
  | .rt d S => match S[n]? with
    | some (.fdt kvs) => .rt d (S.set n (.dtt kvs))
    | _ => .bad
  | _ => .bad
/-- the statement runs while the dict in slot i is locked -/
def sLk (i : Nat) (s : FS) : FS := fun ρ S => match ρ[i]? with
  | some (some (.ref n)) => match S[n]? with
    | some (.dtt kvs) => unl n (s ρ (S.set n (.fdt kvs)))
    | _ => .bad
  | _ => .bad
theorem ds_lk {X : Cx} {W : WX} {st : Stmt} {s : FS} (i : Nat) (h : DS X W st s) : DS X W st (sLk i s) := (ps_lock h).to fun E σ H ⟨A, ρ, S, he, hs, q⟩ => by
  unfold sLk at q
  split at q
  · rename_i n e1
    split at q
    · rename_i kvs e2
      obtain ⟨a, ea, vs, h1, h2⟩ := hs.obj n _ e2
      refine ⟨a, .dT vs, h1, trivial, fun od => ?_⟩
      have gput : Gr A H A (upd H a (.frz od (.dT vs))) := Gr.put h1 (fun _ z => nomatch z) (fun _ _ z => nomatch z)
      refine ⟨A, ρ, S.set n (.fdt kvs), he.mono gput, hs.put (w := .fdt kvs) ea h1 (fun _ z => nomatch z) (fun _ _ z => nomatch z) ⟨od, vs, upd_same, h2.mono gput⟩, ?_⟩
      have key : ∀ {A' : List Addr} {H' : Hp}, Gr A (upd H a (.frz od (.dT vs))) A' H' → H' a = some (.frz od (.dT vs)) ∧ A'[n]? = some a ∧ Gr A H A' (upd H' a (.dT vs)) := fun {A' H'} g => by
        have u := g.frz a od (.dT vs) upd_same
        refine ⟨u, g.get ea, g.adr, fun p xs e => ?_, fun p o x e => ?_⟩
        · have hp : p ≠ a := fun z => by rw [z, h1] at e; cases e
          rw [upd_ne hp]
          exact g.tup p xs (by rw [upd_ne hp]; exact e)
        · have hp : p ≠ a := fun z => by rw [z, h1] at e; cases e
          rw [upd_ne hp]
          exact g.frz p o x (by rw [upd_ne hp]; exact e)
      cases es : s ρ (S.set n (.fdt kvs)) with
      | bad => rw [es] at q; exact q
      | exc x ρ1 S1 => rw [es] at q; exact q.elim
      | nx ρ1 S1 =>
        rw [es] at q
        intro A' H' σ' g he' hs'
        obtain ⟨u, ea', gr⟩ := key g
        unfold unl at q
        dsimp only at q
        split at q
        · rename_i kvs' e3
          exact ⟨u, q A' _ σ' gr (RepE.unl u he') (HR.unl u hs' ea' e3)⟩
        · exact q.elim
      | bk ρ1 S1 =>
        rw [es] at q
        intro A' H' σ' g he' hs'
        obtain ⟨u, ea', gr⟩ := key g
        unfold unl at q
        dsimp only at q
        split at q
        · rename_i kvs' e3
          exact ⟨u, q A' _ σ' gr (RepE.unl u he') (HR.unl u hs' ea' e3)⟩
        · exact q.elim
      | ct ρ1 S1 =>
        rw [es] at q
        intro A' H' σ' g he' hs'
        obtain ⟨u, ea', gr⟩ := key g
        unfold unl at q
        dsimp only at q
        split at q
        · rename_i kvs' e3
          exact ⟨u, q A' _ σ' gr (RepE.unl u he') (HR.unl u hs' ea' e3)⟩
        · exact q.elim
      | rt d S1 =>
        rw [es] at q
        intro A' H' v g r hs'
        obtain ⟨u, ea', gr⟩ := key g
        unfold unl at q
        dsimp only at q
        split at q
        · rename_i kvs' e3
          exact ⟨u, q A' _ v gr (Rep.unl u _ r) (HR.unl u hs' ea' e3)⟩
        · exact q.elim
    · exact q.elim
  · exact q.elim
theorem keys_eq {G : GX} {A : List Addr} {H : Hp} : ∀ {kvs : List (List Key × D)} {vs : List (List Key × V)}, RepKV G A H kvs vs → kvs.map (·.1) = vs.map (·.1)
  | _, _, .nil => rfl
  | _, _, .cons hq t => by rw [List.map_cons, List.map_cons, keys_eq t, hq.1]
/-- the keys of a locked dict -/
def keyTs (kvs : List (List Key × D)) : List D := kvs.map fun kv => .tup (kv.1.map keyD)
def iKT (f : FE) : FI := fun ρ S => (f ρ S).bind fun x S1 => match x with
  | .ref n => match S1[n]? with
    | some (.fdt kvs) => .ok (keyTs kvs, none) S1
    | _ => .bad
  | _ => .bad
theorem ri_keysT {G : GX} {A : List Addr} {H : Hp} {a : Addr} {o : Obj} {kvs : List (List Key × D)} {vs : List (List Key × V)} (h : H a = some (.frz o (.dT vs))) (r : RepKV G A H kvs vs) : RI G A H (keyTs kvs, none) (Itkt a o vs) := by
  have hl : (keyTs kvs).length = vs.length := by
    unfold keyTs
    rw [List.length_map, Paired.length r]
  refine ⟨fun A' H' S' i g hs' hg hi => ⟨g.frz _ _ _ h, by rw [← hl]; exact hi⟩, fun A' H' S' g hs' hg => ⟨g.frz _ _ _ h, Nat.le_of_eq hl.symm⟩, fun A' H' S' i x H'' g hs' hg hi y => ?_⟩
  obtain ⟨rfl, k, v, q, e1, rfl, e2⟩ := y
  have e3 : kvs[i]?.map (·.1) = some k := by
    have := keys_eq r
    have e4 := congrArg (fun l : List (List Key) => l[i]?) this
    simp only [List.getElem?_map] at e4
    rw [e4, e1]
    rfl
  refine ⟨.tup (k.map keyD), ?_, Gr.refl _ _, hs', q, k.map kV, rfl, e2, kVs_rep k⟩
  unfold keyTs
  rw [List.getElem?_map]
  cases e5 : kvs[i]? with
  | none => rw [e5] at e3; cases e3
  | some p =>
    rw [e5] at e3
    cases e3
    rfl
theorem di_keysT {X : Cx} {W : WX} {tg e : Expr} {f : FE} (he : DE X W e f) : DI X W tg e (iKT f) := (pi_keys he).to fun σ H R ⟨A, ρ, S, hv, hs, h⟩ => can_bind hv hs h fun d S1 A1 H1 v g1 r1 hs1 he1 h1 => by
  cases d with
  | ref n =>
    dsimp only at h1
    split at h1
    · rename_i kvs e1
      obtain ⟨a, ea, rfl⟩ := r1
      obtain ⟨o, vs, h2, h3⟩ := hs1.at ea e1
      exact ⟨a, o, rfl, .inr ⟨vs, h2, Post.val h1 (ri_keysT h2 h3) hs1⟩⟩
    · exact h1.elim
  | _ => exact h1.elim
theorem cs_lent {G : GX} {W : WX} : CbS G W rLenT gTLen := fun σ A H S ds vs Q r hs h => by
  unfold gTLen at h
  split at h
  · rename_i x
    obtain ⟨v, t, rfl, r1, r2⟩ := r
    cases r2
    split at h
    · rename_i n
      split at h
      · rename_i kvs e1
        obtain ⟨a, ea, rfl⟩ := r1
        obtain ⟨ws, h2, h3⟩ := hs.at ea e1
        refine ⟨a, ws, rfl, h2, ?_⟩
        rw [← Paired.length h3]
        exact Post.val h rfl hs
      · exact h.elim
    · exact h.elim
  · exact h.elim
theorem de_lent {X : Cx} {W : WX} {e : Expr} {fr : FA} {p pos : Pos} (hm : X.mg "len" = none) (ha : DA X W [e] fr) (hg : Gl X "len" := by rfl) (he : starEach [e] X.env = (false, eval e X.env) :: starEach [] X.env := by rfl) : DE X W (.Call (.Name "len" p) [e] [] pos) (dCB gTLen fr) := de_cb call_len_dT cs_lent hg hm (by decide +kernel) ha (he := he) (hpl := rfl)
end TD

set_option Elab.async false
set_option linter.all false
set_option maxRecDepth 100000
set_option maxHeartbeats 2000000
/-! TD28: a display and a comprehension of a dict whose keys are tuples. -/
namespace TD
open PySem PySem.Spec PyProof.Rows L2
section
variable {X : Cx}
/-- what is stored under a tuple in the dict at p -/
theorem kt_written {pins : List (Addr × Obj)} {σ : L2.St} {H : Hp} {s : Shared} {p b : Addr} {kvs : List (List Key × V)} {ks : List Key} {z : V} {r : Value} {xs : List (List Key × Addr × Value)} {h' : Heap} {t' : Nat} (I : Inv X pins σ H s) (e : H p = some (.dT kvs)) (hl : kvs.length < sizeLine) (eb : H b = some (.tup (ks.map kV)))
    (rel : KT H kvs xs) (rv : RelV z r) (dd : h'.DictOfH (tupleKind (mixKind X.prog X.w)) p (storedH xs ks b r)) (sb : Heap.SameBut p s.heap h') : Inv X pins σ (upd H p (.dT (putK kvs ks z))) { s with heap := h', toks := t' } := by
  have hz : (putK kvs ks z).length ≤ sizeLine := by have := length_putK kvs ks z; omega
  obtain ⟨_, hd, _, _, _⟩ := dt_of I.hok e
  obtain ⟨ob, es, ep, q1, q2, q3, q4, _, q5⟩ := dd
  refine d_write I (by rw [e]; trivial) sb ⟨ob, q1⟩ ⟨hz, hd, _, (rel.put ks eb rv).keeps fun c ys ec => ?_, ob, es, ep, q1, q2, q3, q4, q5⟩
  rw [upd_ne (ne_of ec e (fun z => nomatch z))]
  exact ec
/-- d[t] = v inside of a display or a comprehension -/
theorem kt_store {pins : List (Addr × Obj)} {σ : L2.St} {H : Hp} {s : Shared} {E : Value → Shared → Prop} {p b : Addr} {kvs : List (List Key × V)} {ks : List Key} {z : V} {r : Value} {Q : Unit → Shared → Prop} (hu : X.A.units + 1 < cLine) (I : Inv X pins σ H s) (e : H p = some (.dT kvs)) (hl : kvs.length < sizeLine)
    (eb : H b = some (.tup (ks.map kV))) (rv : RelV z r) (q : ∀ s', Inv X pins σ (upd H p (.dT (putK kvs ks z))) s' → Q () s') : wpAny (model X.prog X.w) X.A (dictSet p (.ref b) r) Q E s := by
  obtain ⟨hz, _, xs, rel, dd⟩ := dt_of I.hok e
  refine wpAny_dictSet_heap (hsz := by rw [← Paired.length rel]; exact hz) (show X.A.units < cLine by omega) (key_of I.hok eb) dd fun h' dd' sb => q _ (kt_written I e hl eb rel rv dd' sb)
/-- {t: v}: one pair, the key a tuple -/
def tOneT (tk tv : TE) : TE := fun σ H Q => ∀ p, H p = none → tk σ (upd H p (.dT [])) fun y H2 => tv σ H2 fun z H3 => H3 p = some (.dT []) ∧ ∃ b ks, y = .ref b ∧ H3 b = some (.tup (List.map kV ks)) ∧ Q (.ref p) (upd H3 p (.dT [(ks, z)]))
theorem pe_oneT {k v : Expr} {pos : Pos} {tk tv : TE} (hu : X.A.units + 1 < cLine) (hk : PE X k tk) (hv : PE X v tv) : PE X (.Dict [some k] [v] pos) (tOneT tk tv) := by
  refine ⟨fun pins s σ H Q I q => ?_⟩
  have q0 := q _ (I.hok.fresh (Nat.le_refl s.heap.objs.size))
  have I0 := I.laid (a := s.heap.objs.size) (o := .dT []) (h' := s.heap.push { cls := .type "dict", data := .dict #[] }) (t' := s.toks) (fun _ _ e => Heap.get?_push_of_some _ e) (Nat.le_refl _) (dt_empty s.heap I.big)
  rw [arm_eval_Dict, show (evalEachOpt [some k] X.env).zip ((evalEach [v] X.env).map fun v => do let x ← v; standAt pos; pure x) = ([(eval k X.env, do let x ← eval v X.env; standAt pos; pure x)] : List (Sem Value × Sem Value)).map fun p => (some p.1, p.2) from rfl, dictDisplay_pairs _ (by simp) (by simp)]
  refine wpAny_bind (wpAny_standAt (wpAny_bind (wpAny_subDictH (knd := tupleKind (mixKind X.prog X.w)) (show X.A.units < cLine by omega) (by simp) (evalPairs_cons (thn (hk.run pins _ σ _ _ I0 q0) fun kv s1 ⟨y, H2, I2, ry, q2⟩ => wpAny_bind (thn (hv.run pins s1 σ H2 _ I2 q2) fun vv s2 ⟨z, H3, I3, rz, e3, b, ks, ey, eb, q3⟩ => wpAny_bind (wpAny_standAt (wpAny_pure (evalPairs_nil ?_)))))))))
  subst ey
  cases (show kv = Value.ref b from ry)
  obtain ⟨_, _, xs, rel, dd⟩ := dt_of I3.hok e3
  cases rel
  refine ⟨[(ks, b, vv)], ⟨rfl, rfl, key_of I3.hok eb, trivial⟩, dd, fun h' tk dd' sb => wpAny_pure ⟨.ref s.heap.objs.size, _, kt_written I3 e3 (by decide) eb .nil rz dd' sb, rfl, q3⟩⟩
/-- {t: v for .. in ..}, each key a tuple; p: the new dict -/
def tDcT (wi : TI) (g : TG) (tt : TT) (tk tv : TE) (vs : List Nat) : TE := fun σ H Q => wi σ H fun J H1 => ∀ p, H1 p = none → ∃ R : Nat → Nat → Hp → Prop, (∃ m, R 0 m (upd H1 p (.dT []))) ∧
  ∀ i m H, R i m H → (J.stop i H ∧ Q (.ref p) H) ∨
    (J.go i H ∧ ∃ Z : Hp → Prop, (∀ H', Z H' → ∃ n, n < m ∧ R (i + 1) n H') ∧ ∀ x H', J.yld i H x H' → g x (wipe σ vs) H' fun σ2 H2 => wipe σ2 vs = wipe σ vs ∧ tt σ2 H2 fun b H3 =>
      if b = true then tk σ2 H3 fun y H4 => tv σ2 H4 fun z H5 => ∃ kvs ks q, y = .ref q ∧ H5 q = some (.tup (List.map kV ks)) ∧ H5 p = some (.dT kvs) ∧ kvs.length < sizeLine ∧ Z (upd H5 p (.dT (putK kvs ks z))) else Z H3)
theorem pe_dcT {kx vx tg iter : Expr} {ifs : List Expr} {scope : Scope} {own : List (Str × Nat)} {pos : Pos} {wi : TI} {g : TG} {tt : TT} {tk tv : TE} (hu : X.A.units + 1 < cLine) (hc : X.calm = true) (hN : X.N.Nodup) (hi : PI X tg iter wi) (ok : BlkOk X.N X.env.scope scope own)
    (hg : ∀ s H C cl fp, PG (X.blk s H scope (compEnvC scope cl C X.env) fp) tg g) (ht : ∀ s H C cl fp, PTs (X.blk s H scope (compEnvC scope cl C X.env) fp) ifs tt)
    (hk : ∀ s H C cl fp, PE (X.blk s H scope (compEnvC scope cl C X.env) fp) kx tk) (hv : ∀ s H C cl fp, PE (X.blk s H scope (compEnvC scope cl C X.env) fp) vx tv) (hf : ∀ x, foldedSetIterable iter X.env x = pure x := by intro _; rfl) :
    PE X (.DictComp kx vx [⟨tg, iter, ifs, 0⟩] scope pos) (tDcT wi g tt tk tv (own.map (·.2))) := by
  refine ⟨fun pins s σ H Q I q => ?_⟩
  rw [arm_eval_DictComp]
  have free : ∀ y ∈ scope.names, y.2 = .free → ∃ c, X.env.cells.lookup y.1 = some c := fun y hy e => (ok.free y hy e).elim (fun k => I.ok.has _ (.inl k)) (fun k => I.ok.has _ (.inr k))
  refine wpAny_comprehension_free (use := none) rfl hf (closure_ok free) ok.kind (fun y hy e => by rw [ok.uniq y hy, e]) (thn (hi.run pins s σ H _ I q) fun u s1 h1 => thn h1 fun v s2 h2 => ?_)
  obtain ⟨it, fp, tn, J, Ha, ev, Ia, T, sta, fa, qa⟩ := h2
  subst ev
  refine wpAny_newObj_type (newEnv_comp ?_)
  have np : Ha s2.heap.objs.size = none := Ia.hok.fresh (Nat.le_refl _)
  obtain ⟨R, ⟨m0, r0⟩, turn⟩ := qa _ np
  generalize hp : s2.heap.objs.size = p at np r0 turn
  -- the heap with the new dict in it
  obtain ⟨s3, e3⟩ : ∃ s3 : Shared, s3 = { s2 with heap := s2.heap.push { cls := .type "dict", data := .dict #[] } } := ⟨_, rfl⟩
  have hh3 : s3.heap = s2.heap.push { cls := .type "dict", data := .dict #[] } := by rw [e3]
  have I3 : Inv X pins σ (upd Ha p (.dT [])) s3 := by
    rw [e3, ← hp]
    exact Ia.laid (t' := s2.toks) (fun _ _ e => Heap.get?_push_of_some _ e) (Nat.le_refl _) (dt_empty s2.heap Ia.big)
  have below : ∀ c ∈ fp, c < p := fun c hc => by
    obtain ⟨o, e, _⟩ := T.obj _ _ sta c hc
    rw [← hp]
    exact Heap.lt_size e
  have f3 : ∀ c ∈ fp, FpOk X pins (upd Ha p (.dT [])) c ∧ c < s3.heap.objs.size := fun c hc => by
    have hlt := below c hc
    refine ⟨⟨?_, (fa c hc).2⟩, by rw [hh3, Heap.size_push, hp]; exact Nat.lt_succ_of_lt hlt⟩
    rw [upd_ne (Nat.ne_of_lt hlt)]
    exact (fa c hc).1
  have w3 : tn 0 s3.heap := T.keep _ _ _ sta fun c _ o e => by
    rw [hh3]
    exact Heap.get?_push_of_some _ e
  have I4 := block_start I3 ok hN f3
  generalize eH3 : upd Ha p (.dT []) = H3 at I3 I4 f3 r0
  have eL : ∀ (C : Addr) (cl : List (Str × Addr)), (compEnvC scope cl C X.env).locals = C := fun _ _ => rfl
  obtain ⟨cl, ecl⟩ : ∃ cl, cl = cellsFrom (s3.heap.objs.size + 1) scope.names (cloFrom X.env.cells scope.names []) := ⟨_, rfl⟩
  rw [← ecl] at I4
  suffices goal : codeAny (model X.prog X.w) X.A (.compStart (.DictComp kx vx [⟨tg, iter, ifs, 0⟩] scope pos) 0 (.ref it) (.ref p) (compEnvC scope cl s3.heap.objs.size X.env)) (compPost (model X.prog X.w) X.A X.xe none (EP X pins σ Q) (.ref p) s3.heap.objs.size) { s3 with heap := pushCells (s3.heap.push { cls := .type "dict", data := .dict #[] }) scope.names } by
    subst ecl e3 hp
    exact goal
  -- the block's own context
  have pg := hg s3 H3 s3.heap.objs.size cl fp
  have pt := ht s3 H3 s3.heap.objs.size cl fp
  have pk := hk s3 H3 s3.heap.objs.size cl fp
  have pv := hv s3 H3 s3.heap.objs.size cl fp
  have lce : (compEnvC scope cl s3.heap.objs.size X.env).locals = s3.heap.objs.size := rfl
  generalize compEnvC scope cl s3.heap.objs.size X.env = ce at I4 pg pt pk pv lce ⊢
  generalize e4 : ({ s3 with heap := pushCells (s3.heap.push { cls := .type "dict", data := .dict #[] }) scope.names } : Shared) = s4 at I4 ⊢
  have w4 : tn 0 s4.heap := T.keep _ _ _ w3 fun c _ o e => by
    rw [← e4]
    exact pushCells_keeps _ _ _ _ (Heap.get?_push_of_some _ e)
  let B := X.blk s3 H3 scope ce fp
  have own' : ∀ {σ' : L2.St} {H' : Hp} {s' : Shared}, Inv B [] σ' H' s' → (∀ c ∈ fp, H' c = none) → ∀ c ∈ fp, FpOk B [] H' c := fun {σ' H' s'} I' hn c hc =>
    ⟨hn c hc, (I'.ok.exf c hc).1, I'.ok.exfs c hc, .inl hc, fun x d e => (I'.ok.exf c hc).2 x d e, fun r hr => absurd (show r ∈ ([] : List (Addr × Obj)) ++ [] from hr) (by simp)⟩
  suffices loop : codeAny (model X.prog X.w) X.A (.compLoop (.DictComp kx vx [⟨tg, iter, ifs, 0⟩] scope pos) 0 (.ref it) (.ref p) ce) (compPost (model X.prog X.w) X.A X.xe none (EP X pins σ Q) (.ref p) s3.heap.objs.size) s4 from codeAny_compStart_dict loop (T.self X.A 0 _ _ _ w4 loop)
  refine compLoop_anyD (fun n s' => ∃ i H', Inv B [] (wipe σ (own.map (·.2))) H' s' ∧ tn i s'.heap ∧ (∀ c ∈ fp, H' c = none) ∧ R i n H') ?_ m0 ⟨0, H3, I4, w4, fun c hc => (f3 c hc).1.1, r0⟩
  rintro n s5 ⟨i, H5, I5, w5, n5, r5⟩
  rcases turn i n H5 r5 with ⟨stop, fin⟩ | ⟨go, Z, hZ, step⟩
  · -- the last turn
    refine thnF (T.done B rfl rfl rfl hc i [] s5 _ H5 (fun _ _ => False) I5 (own' I5 n5) w5 stop) fun r s6 ⟨er, I6⟩ => ?_
    subst er
    have I7 : Inv X pins σ H5 s6 := I3.call' (ch := fp) I6.os I6.base I6.hok I6.bare fun c hc => ⟨(f3 c hc).1.2.2.2.1, (f3 c hc).1.2.1, (f3 c hc).1.2.2.2.2.1, (f3 c hc).1.2.2.2.2.2⟩
    have nC : H5 s3.heap.objs.size = none := by
      rw [← lce]
      exact I6.free
    obtain ⟨m, hm, _⟩ := I6.loc
    have hm : s6.heap.Ns ce.locals m := hm
    rw [lce] at hm
    obtain ⟨g0, g1, g2, g3, g4, g5⟩ := I3.fpOk (Nat.le_refl _) nC
    exact ⟨m, hm, fun h'' sb => ⟨.ref p, H5, I7.turned (t' := s6.toks) (fun c o hcc e => (sb.2 c hcc).trans e) g0 g1 g3 g4 g5, rfl, fin⟩⟩
  · -- one more
    refine thnF (T.item B rfl rfl rfl hc i [] s5 _ H5 (fun _ _ => False) I5 (own' I5 n5) w5 go) fun r s6 ⟨u6, er, h6⟩ => ?_
    subst er
    refine thnF h6 fun _ s7 ⟨x, H7, I7, x7, y7, w7, n7⟩ => ?_
    have I7' := I7.pinned (own' I7 n7) (T.obj _ _ w7)
    refine thnF (pg.run _ s7 _ H7 x u6 _ I7' x7 (step x H7 y7)) fun _ s8 ⟨σ8, H8, I8, v8, q8⟩ => ?_
    refine thnF (pt.run _ s8 σ8 H8 _ I8 q8) fun b s9 ⟨H9, I9, q9⟩ => ?_
    have again : ∀ {s' : Shared} {H' : Hp}, Inv B ([] ++ pinsAt fp s7.heap) σ8 H' s' → Z H' → ∃ m, m < n ∧ ∃ i H', Inv B [] (wipe σ (own.map (·.2))) H' s' ∧ tn i s'.heap ∧ (∀ c ∈ fp, H' c = none) ∧ R i m H' := fun {s' H'} I' z => by
      obtain ⟨m, hm, r'⟩ := hZ H' z
      have held : ∀ c ∈ fp, ∀ o, s7.heap.get? c = some o → s'.heap.get? c = some o ∧ H' c = none := fun c hc o e =>
        have y := I'.pin (c, o) (List.mem_append_right _ (List.mem_append_right _ (mem_pinsAt hc e)))
        ⟨y.1, y.2.1⟩
      refine ⟨m, hm, i + 1, H', (I'.unpinned (pins := [])).weak (by rw [← wipe_length σ8 (own.map (·.2)), v8]) (fun j v e => ?_), T.keep _ _ _ w7 fun c hc o e => (held c hc o e).1, fun c hc => ?_, r'⟩
      · rw [← v8] at e
        exact (wipe_some e).1
      · obtain ⟨o, e, _⟩ := T.obj _ _ w7 c hc
        exact (held c hc o e).2
    cases b with
    | false =>
      simp only [Bool.false_eq_true, if_false] at q9 ⊢
      exact again I9 q9
    | true =>
      simp only [if_true] at q9 ⊢
      refine thnF (pk.run _ s9 σ8 H9 _ I9 q9) fun kv s10 ⟨y, H10, I10, ry, q10⟩ => ?_
      refine thnF (pv.run _ s10 σ8 H10 _ I10 q10) fun vv s11 ⟨z, H11, I11, rz, kvs, ks, qa, ey, eb, ed, hl, nx⟩ => ?_
      subst ey
      cases (show kv = Value.ref qa from ry)
      exact kt_store (X := B) hu I11 ed hl eb rz fun s12 I12 => again I12 nx
end
end TD

set_option Elab.async false
set_option linter.all false
set_option maxRecDepth 100000
set_option maxHeartbeats 2000000
/-! TD29: rules for dicts with tuple keys; a comprehension with two loops; max of a list. -/
namespace TD
open PySem PySem.Spec PyProof.Rows L2
open Classical in
noncomputable def dtL (p : List D × Option (Nat × List D)) (bd : FG) (t : FT) (ek ev : FE) (n : Nat) (ρ0 : Env) : List D → Sto → Res D
  | [], S => if guardOk p S then .ok (.ref n) S else .bad
  | d :: ds, S => if guardOk p S then match bd d ρ0 with
    | some ρ1 => match t ρ1 S with
      | .ok b S1 => if b = true then match ek ρ1 S1 with
        | .ok y S2 => match ev ρ1 S2 with
          | .ok z S3 => match S3[n]?, keyT y with
            | some (.dtt acc), some k => if acc.length < 1000000 then dtL p bd t ek ev n ρ0 ds (S3.set n (.dtt (putD acc k z))) else .bad
            | _, _ => .bad
          | _ => .bad
        | _ => .bad
        else dtL p bd t ek ev n ρ0 ds S1
      | _ => .bad
    | none => .bad
    else .bad
noncomputable def dDt (fi : FI) (bd : FG) (t : FT) (ek ev : FE) (own : List Nat) : FE := fun ρ S => (fi ρ S).bind fun p S1 => dtL p bd t ek ev S1.length (wipeD ρ own) p.1 (S1 ++ [.dtt []])
theorem dtL_guard {G : GX} {W : WX} {σ : L2.St} {A : List Addr} {H : Hp} {Q : VK} {p : List D × Option (Nat × List D)} {bd : FG} {t : FT} {ek ev : FE} {n : Nat} {ρ0 : Env} {ds : List D} {S : Sto} (h : Post G W σ (Rep G) A H Q (dtL p bd t ek ev n ρ0 ds S)) : guardOk p S := by
  cases ds with
  | nil =>
    unfold dtL at h
    split at h
    · assumption
    · exact h.elim
  | cons d ds =>
    unfold dtL at h
    split at h
    · assumption
    · exact h.elim
section
variable {X : Cx} {W : WX} {tg iter kx vx : Expr} {ifs : List Expr} {scope : Scope} {own : List (Str × Nat)} {pos : Pos} {fi : FI} {is : List Nat} {bd : FG} {ft : FT} {fk fv : FE}
theorem dt_read (hs : ∀ i ∈ is, i ∈ own.map (·.2)) : ∀ σ H Q, cE (gx X) W (dDt fi bd ft fk fv (own.map (·.2))) σ H Q → tDcT (cI (gx X) W fi) (cG (gx X) is bd) (cT (gx X) WF ft) (cE (gx X) WF fk) (cE (gx X) WF fv) (own.map (·.2)) σ H Q := fun σ H Q ⟨A, ρ, S, he, hs0, h⟩ => can_bind he hs0 h fun p S1 A1 H1 J g1 r1 hs1 he1 h1 => by
  intro L hL
  have hn : (A1 ++ [L])[S1.length]? = some L := by
    rw [List.getElem?_append_right (by rw [hs1.len]; exact Nat.le_refl _), hs1.len, Nat.sub_self]
    rfl
  let Pv : Nat → Hp → Prop := fun i H' => ∃ A' S', Gr (A1 ++ [L]) (upd H1 L (.dT [])) A' H' ∧ HR (gx X) A' H' S' ∧ Post (gx X) W σ (Rep (gx X)) A' H' Q (dtL p bd ft fk fv S1.length (wipeD ρ (own.map (·.2))) (p.1.drop i) S')
  have gp : Gr A1 H1 (A1 ++ [L]) (upd H1 L (.dT [])) := Gr.push hL
  refine ⟨fun i m H' => m = p.1.length - i ∧ i ≤ p.1.length ∧ Pv i H', ⟨p.1.length, by simp, Nat.zero_le _, A1 ++ [L], S1 ++ [.dtt []], Gr.refl _ _, hs1.push (u := .dtt []) hL ⟨[], upd_same, .nil⟩, ?_⟩, ?_⟩
  · rw [List.drop_zero]
    exact Post.grow gp h1
  rintro i m H' ⟨rfl, hi', A', S', g, hs', h'⟩
  by_cases hi : i < p.1.length
  · refine .inr ⟨r1.go A' H' S' i (gp.trans g) hs' (dtL_guard h') hi, Pv (i + 1), fun H2 p2 => ⟨p.1.length - (i + 1), by omega, rfl, hi, p2⟩, fun x H'' y => ?_⟩
    obtain ⟨d, ed, g2, hs2, rd⟩ := r1.yld A' H' S' i x H'' (gp.trans g) hs' (dtL_guard h') hi y
    have hdrop : p.1.drop i = d :: p.1.drop (i + 1) := by
      rw [List.drop_eq_getElem_cons hi]
      congr 1
      rw [List.getElem?_eq_getElem hi] at ed
      exact Option.some.inj ed
    rw [hdrop] at h'
    unfold dtL at h'
    have he2 : RepE (gx X) A' H'' (wipeD ρ (own.map (·.2))) (wipe σ (own.map (·.2))) := ((he1.mono gp).mono (g.trans g2)).wipe _
    split at h'
    · split at h'
      · rename_i ρ1 hbd
        refine ⟨A', _, d, ρ1, rd, he2, hbd, fun σ1 he1' st => ⟨wipe_sets st hs, ?_⟩⟩
        have h' := Post.grow g2 h'
        refine ⟨A', ρ1, S', he1', hs2, ?_⟩
        cases et : ft ρ1 S' with
        | bad => rw [et] at h'; exact h'
        | exc x S2 => rw [et] at h'; exact h'.elim
        | ok b S2 =>
          rw [et] at h'
          intro A3 H3 c g3 rb hs3
          cases rb
          have h' := Post.grow g3 h'
          dsimp only at h'
          cases b with
          | false =>
            rw [if_neg Bool.false_ne_true] at h' ⊢
            exact ⟨A3, S2, (g.trans g2).trans g3, hs3, h'⟩
          | true =>
            rw [if_pos rfl] at h' ⊢
            refine ⟨A3, ρ1, S2, he1'.mono g3, hs3, ?_⟩
            cases ee : fk ρ1 S2 with
            | bad => rw [ee] at h'; exact h'
            | exc x S2 => rw [ee] at h'; exact h'.elim
            | ok yd S4 =>
              rw [ee] at h'
              intro A4 H4 yv g4 ry hs4
              have h' := Post.grow g4 h'
              refine ⟨A4, ρ1, S4, (he1'.mono g3).mono g4, hs4, ?_⟩
              dsimp only at h'
              cases e3 : fv ρ1 S4 with
              | bad => rw [e3] at h'; exact h'
              | exc x S2 => rw [e3] at h'; exact h'.elim
              | ok zd S5 =>
                rw [e3] at h'
                intro A5 H5 zv g5 rz hs5
                have h' := Post.grow g5 h'
                dsimp only at h'
                split at h'
                · rename_i acc k eacc ek
                  split at h'
                  · rename_i hlen
                    have gg := (((g.trans g2).trans g3).trans g4).trans g5
                    obtain ⟨vs, hv, rv⟩ := hs5.at (gg.get hn) eacc
                    have gput : Gr A5 H5 A5 (upd H5 L (.dT (putK vs k zv))) := Gr.put hv (fun _ z => nomatch z) (fun _ _ z => nomatch z)
                    obtain ⟨q, eq, hq⟩ := keyT_rep (ry.mono g5) ek
                    refine ⟨vs, k, q, eq, hq, hv, Nat.lt_of_lt_of_le (by rw [← Paired.length rv]; exact hlen) (by decide), A5, _, gg.trans gput, hs5.put (w := .dtt (putD acc k zd)) (gg.get hn) hv (fun _ z => nomatch z) (fun _ _ z => nomatch z) ⟨_, upd_same, (putD_rep rv rz).mono gput⟩, Post.grow gput h'⟩
                  · exact h'.elim
                · exact h'.elim
      · exact h'.elim
    · exact h'.elim
  · have e : i = p.1.length := by omega
    subst e
    refine .inl ⟨r1.stop A' H' S' (gp.trans g) hs' (dtL_guard h'), ?_⟩
    rw [List.drop_length] at h'
    unfold dtL at h'
    split at h'
    · exact Post.val h' ⟨L, g.get hn, rfl⟩ hs'
    · exact h'.elim
theorem de_dct {k : Nat} (hr : Room k X.A) (hc : X.calm = true) (hN : X.N.Nodup) (hi : DI X W tg iter fi) (ok : BlkOk X.N X.env.scope scope own)
    (hg : ∀ (s : Shared) (H : Hp) (C : Addr) (cl : List (Str × Addr)) (fp : List Addr), DG (X.blk s H scope (compEnvC scope cl C X.env) fp) tg is bd) (ht : ∀ (s : Shared) (H : Hp) (C : Addr) (cl : List (Str × Addr)) (fp : List Addr), DTs (X.blk s H scope (compEnvC scope cl C X.env) fp) WF ifs ft)
    (hk : ∀ (s : Shared) (H : Hp) (C : Addr) (cl : List (Str × Addr)) (fp : List Addr), DE (X.blk s H scope (compEnvC scope cl C X.env) fp) WF kx fk)
    (he : ∀ (s : Shared) (H : Hp) (C : Addr) (cl : List (Str × Addr)) (fp : List Addr), DE (X.blk s H scope (compEnvC scope cl C X.env) fp) WF vx fv) (hin : ∀ i ∈ is, i ∈ own.map (·.2) := by decide) (hs : ∀ x, foldedSetIterable iter X.env x = pure x := by intro _; rfl) :
    DE X W (.DictComp kx vx [⟨tg, iter, ifs, 0⟩] scope pos) (dDt fi bd ft fk fv (own.map (·.2))) := (pe_dcT (hu_room hr) hc hN hi ok hg ht hk he hs).to (dt_read hin)
end

/-- {t: v} -/
def dOneT (fk fv : FE) : FE := fun ρ S => (fk ρ (S ++ [.dtt []])).bind fun y S1 => (fv ρ S1).bind fun z S2 => match keyT y, S2[S.length]? with
  | some ks, some (.dtt []) => .ok (.ref S.length) (S2.set S.length (.dtt [(ks, z)]))
  | _, _ => .bad
theorem de_oneT {X : Cx} {W : WX} {k : Nat} {a b : Expr} {fa fb : FE} {pos : Pos} (hr : Room k X.A) (ha : DE X W a fa) (hb : DE X W b fb) : DE X W (.Dict [some a] [b] pos) (dOneT fa fb) := (pe_oneT (hu_room hr) ha hb).to fun σ H Q ⟨A, ρ, S, he, hs, h⟩ p hp => by
  have gp : Gr A H (A ++ [p]) (upd H p (.dT [])) := Gr.push hp
  have hn : (A ++ [p])[S.length]? = some p := by
    rw [List.getElem?_append_right (by rw [hs.len]; exact Nat.le_refl _), hs.len, Nat.sub_self]
    rfl
  refine can_bind (he.mono gp) (hs.push (u := .dtt []) hp ⟨[], upd_same, .nil⟩) (Post.grow gp h) fun y S1 A1 H1 v g1 r1 hs1 he1 h1 => can_bind he1 hs1 h1 fun z S2 A2 H2 w g2 r2 hs2 he2 h2 => ?_
  split at h2
  · rename_i ks e1 e2
    obtain ⟨q, rfl, hq⟩ := keyT_rep (r1.mono g2) e1
    obtain ⟨vs, h3, h4⟩ := hs2.at ((g1.trans g2).get hn) e2
    cases h4
    refine ⟨h3, q, ks, rfl, hq, ?_⟩
    have gput : Gr A2 H2 A2 (upd H2 p (.dT [(ks, w)])) := Gr.put h3 (fun _ z => nomatch z) (fun _ _ z => nomatch z)
    exact Post.valG h2 gput ⟨p, (g1.trans g2).get hn, rfl⟩ (hs2.put (w := .dtt [(ks, z)]) ((g1.trans g2).get hn) h3 (fun _ z => nomatch z) (fun _ _ z => nomatch z) ⟨_, upd_same, .cons ⟨rfl, r2.mono gput⟩ .nil⟩)
  · exact h2.elim
/-! ### [.. for .. in .. for .. in ..] -/
open Classical in
noncomputable def l2I (p : List D × Option (Nat × List D)) (bd : FG) (e : FE) (n : Nat) (ρ0 : Env) : List D → Sto → Res Unit
  | [], S => if guardOk p S then .ok () S else .bad
  | d :: ds, S => if guardOk p S then match bd d ρ0 with
    | some ρ1 => match e ρ1 S with
      | .ok y S2 => match S2[n]? with
        | some (.lst acc) => if acc.length < 1000000 then l2I p bd e n ρ0 ds (S2.set n (.lst (acc ++ [y]))) else .bad
        | _ => .bad
      | _ => .bad
    | none => .bad
    else .bad
open Classical in
noncomputable def l2O (p : List D × Option (Nat × List D)) (bd : FG) (fi1 : FI) (bd1 : FG) (e : FE) (n : Nat) (ρ0 : Env) (vs1 : List Nat) : List D → Sto → Res D
  | [], S => if guardOk p S then .ok (.ref n) S else .bad
  | d :: ds, S => if guardOk p S then match bd d ρ0 with
    | some ρ1 => match fi1 ρ1 S with
      | .ok p1 S1 => match l2I p1 bd1 e n (wipeD ρ1 vs1) p1.1 S1 with
        | .ok _ S2 => l2O p bd fi1 bd1 e n ρ0 vs1 ds S2
        | _ => .bad
      | _ => .bad
    | none => .bad
    else .bad
noncomputable def dLc2 (fi : FI) (bd : FG) (fi1 : FI) (bd1 : FG) (e : FE) (own vs1 : List Nat) : FE := fun ρ S => (fi ρ S).bind fun p S1 => l2O p bd fi1 bd1 e S1.length (wipeD ρ own) vs1 p.1 (S1 ++ [.lst []])
/-- the rest of the outer loop behind the inner one -/
noncomputable def l2R (p : List D × Option (Nat × List D)) (bd : FG) (fi1 : FI) (bd1 : FG) (e : FE) (n : Nat) (ρ0 : Env) (vs1 : List Nat) (ds : List D) : Res Unit → Res D
  | .ok _ S2 => l2O p bd fi1 bd1 e n ρ0 vs1 ds S2
  | _ => .bad
theorem l2O_guard {G : GX} {W : WX} {σ : L2.St} {A : List Addr} {H : Hp} {Q : VK} {p : List D × Option (Nat × List D)} {bd : FG} {fi1 : FI} {bd1 : FG} {e : FE} {n : Nat} {ρ0 : Env} {vs1 : List Nat} {ds : List D} {S : Sto} (h : Post G W σ (Rep G) A H Q (l2O p bd fi1 bd1 e n ρ0 vs1 ds S)) : guardOk p S := by
  cases ds with
  | nil =>
    unfold l2O at h
    split at h
    · assumption
    · exact h.elim
  | cons d ds =>
    unfold l2O at h
    split at h
    · assumption
    · exact h.elim
theorem l2I_guard {G : GX} {W : WX} {σ : L2.St} {A : List Addr} {H : Hp} {Q : VK} {k : Res Unit → Res D} (hk : k .bad = .bad) {p : List D × Option (Nat × List D)} {bd : FG} {e : FE} {n : Nat} {ρ0 : Env} {ds : List D} {S : Sto} (h : Post G W σ (Rep G) A H Q (k (l2I p bd e n ρ0 ds S))) : guardOk p S := by
  cases ds with
  | nil =>
    unfold l2I at h
    split at h
    · assumption
    · rw [hk] at h; exact h.elim
  | cons d ds =>
    unfold l2I at h
    split at h
    · assumption
    · rw [hk] at h; exact h.elim
section
variable {X : Cx} {W : WX} {tg iter tg1 iter1 elt : Expr} {scope : Scope} {own : List (Str × Nat)} {vs1 : List Nat} {pos : Pos} {fi fi1 : FI} {is is1 : List Nat} {bd bd1 : FG} {fe : FE}
theorem lc2_read (hs : ∀ i ∈ is, i ∈ own.map (·.2)) (hs1' : ∀ i ∈ is1, i ∈ vs1) : ∀ σ H Q, cE (gx X) W (dLc2 fi bd fi1 bd1 fe (own.map (·.2)) vs1) σ H Q → tLc2 (cI (gx X) W fi) (cG (gx X) is bd) (cT (gx X) WF tTrue) (cI (gx X) WF fi1) (cG (gx X) is1 bd1) (cT (gx X) WF tTrue) (cE (gx X) WF fe) (own.map (·.2)) vs1 σ H Q := fun σ H Q ⟨A, ρ, S, he, hs0, h⟩ => can_bind he hs0 h fun p S1 A1 H1 J g1 r1 hs1 he1 h1 => by
  intro L hL
  have hn : (A1 ++ [L])[S1.length]? = some L := by
    rw [List.getElem?_append_right (by rw [hs1.len]; exact Nat.le_refl _), hs1.len, Nat.sub_self]
    rfl
  have gp : Gr A1 H1 (A1 ++ [L]) (upd H1 L (.lst [])) := Gr.push hL
  let Pv : Nat → Hp → Prop := fun i H' => ∃ A' S', Gr (A1 ++ [L]) (upd H1 L (.lst [])) A' H' ∧ HR (gx X) A' H' S' ∧ Post (gx X) W σ (Rep (gx X)) A' H' Q (l2O p bd fi1 bd1 fe S1.length (wipeD ρ (own.map (·.2))) vs1 (p.1.drop i) S')
  refine ⟨fun i m H' => m = p.1.length - i ∧ i ≤ p.1.length ∧ Pv i H', ⟨p.1.length, by simp, Nat.zero_le _, A1 ++ [L], S1 ++ [.lst []], Gr.refl _ _, hs1.push (u := .lst []) hL ⟨[], upd_same, Reps.nil⟩, by rw [List.drop_zero]; exact Post.grow gp h1⟩, ?_⟩
  rintro i m H' ⟨rfl, hi', A', S', g, hs', h'⟩
  by_cases hi : i < p.1.length
  · refine .inr ⟨r1.go A' H' S' i (gp.trans g) hs' (l2O_guard h') hi, Pv (i + 1), fun H2 p2 => ⟨p.1.length - (i + 1), by omega, rfl, hi, p2⟩, fun x H'' y => ?_⟩
    obtain ⟨d, ed, g2, hs2, rd⟩ := r1.yld A' H' S' i x H'' (gp.trans g) hs' (l2O_guard h') hi y
    have hdrop : p.1.drop i = d :: p.1.drop (i + 1) := by
      rw [List.drop_eq_getElem_cons hi]
      congr 1
      rw [List.getElem?_eq_getElem hi] at ed
      exact Option.some.inj ed
    rw [hdrop] at h'
    unfold l2O at h'
    have he2 : RepE (gx X) A' H'' (wipeD ρ (own.map (·.2))) (wipe σ (own.map (·.2))) := ((he1.mono gp).mono (g.trans g2)).wipe _
    split at h'
    · split at h'
      · rename_i ρ1 hbd
        refine ⟨A', _, d, ρ1, rd, he2, hbd, fun σ1 he1' st => ⟨wipe_sets st hs, A', ρ1, S', he1', hs2, fun A3 H3 c g3 rb hs3 => ?_⟩⟩
        cases rb
        rw [if_pos rfl]
        have h' := Post.grow (g2.trans g3) h'
        refine ⟨A3, ρ1, S', he1'.mono g3, hs3, ?_⟩
        cases ef : fi1 ρ1 S' with
        | bad => rw [ef] at h'; exact h'
        | exc x S2 => rw [ef] at h'; exact h'.elim
        | ok p1 S2 =>
          rw [ef] at h'
          intro A4 H4 J1 g4 rJ hs4
          have h' := Post.grow g4 h'
          have he4 := (he1'.mono g3).mono g4
          have G4 := ((g.trans g2).trans g3).trans g4
          change Post (gx X) W σ (Rep (gx X)) A4 H4 Q (l2R p bd fi1 bd1 fe S1.length (wipeD ρ (own.map (·.2))) vs1 (p.1.drop (i + 1)) (l2I p1 bd1 fe S1.length (wipeD ρ1 vs1) p1.1 S2)) at h'
          refine ⟨fun j k H' => k = p1.1.length - j ∧ j ≤ p1.1.length ∧ ∃ A' S', Gr A4 H4 A' H' ∧ HR (gx X) A' H' S' ∧ Post (gx X) W σ (Rep (gx X)) A' H' Q (l2R p bd fi1 bd1 fe S1.length (wipeD ρ (own.map (·.2))) vs1 (p.1.drop (i + 1)) (l2I p1 bd1 fe S1.length (wipeD ρ1 vs1) (p1.1.drop j) S')), ⟨p1.1.length, by simp, Nat.zero_le _, A4, S2, Gr.refl _ _, hs4, by rw [List.drop_zero]; exact h'⟩, ?_⟩
          rintro j k H5 ⟨rfl, hj', A5, S5, g5, hs5, h5⟩
          by_cases hj : j < p1.1.length
          · refine .inr ⟨rJ.go A5 H5 S5 j g5 hs5 (l2I_guard rfl h5) hj, fun H' => ∃ A' S', Gr A4 H4 A' H' ∧ HR (gx X) A' H' S' ∧ Post (gx X) W σ (Rep (gx X)) A' H' Q (l2R p bd fi1 bd1 fe S1.length (wipeD ρ (own.map (·.2))) vs1 (p.1.drop (i + 1)) (l2I p1 bd1 fe S1.length (wipeD ρ1 vs1) (p1.1.drop (j + 1)) S')), fun H6 p6 => ⟨p1.1.length - (j + 1), by omega, rfl, hj, p6⟩, fun x H6 y6 => ?_⟩
            obtain ⟨d6, ed6, g6, hs6, rd6⟩ := rJ.yld A5 H5 S5 j x H6 g5 hs5 (l2I_guard rfl h5) hj y6
            have hdrop6 : p1.1.drop j = d6 :: p1.1.drop (j + 1) := by
              rw [List.drop_eq_getElem_cons hj]
              congr 1
              rw [List.getElem?_eq_getElem hj] at ed6
              exact Option.some.inj ed6
            rw [hdrop6] at h5
            unfold l2I at h5
            have he6 : RepE (gx X) A5 H6 (wipeD ρ1 vs1) (wipe σ1 vs1) := (he4.mono (g5.trans g6)).wipe _
            split at h5
            · split at h5
              · rename_i ρ6 hbd6
                refine ⟨A5, _, d6, ρ6, rd6, he6, hbd6, fun σ6 he6' st6 => ⟨wipe_sets st6 hs1', A5, ρ6, S5, he6', hs6, fun A7 H7 c g7 rb hs7 => ?_⟩⟩
                cases rb
                rw [if_pos rfl]
                have h5 := Post.grow (g6.trans g7) h5
                refine ⟨A7, ρ6, S5, he6'.mono g7, hs7, ?_⟩
                cases ee : fe ρ6 S5 with
                | bad => rw [ee] at h5; exact h5.elim
                | exc x S2 => rw [ee] at h5; exact h5.elim
                | ok yd S8 =>
                  rw [ee] at h5
                  intro A8 H8 yv g8 ry hs8
                  have h5 := Post.grow g8 h5
                  dsimp only at h5
                  split at h5
                  · rename_i acc eacc
                    split at h5
                    · rename_i hlen
                      have gg := ((g5.trans g6).trans g7).trans g8
                      have gL := (G4.trans gg).get hn
                      obtain ⟨vs, hv, rv⟩ := hs8.at gL eacc
                      have gput : Gr A8 H8 A8 (upd H8 L (.lst (vs ++ [yv]))) := Gr.put hv (fun _ z => nomatch z) (fun _ _ z => nomatch z)
                      exact ⟨vs, hv, Nat.lt_of_lt_of_le (by rw [rv.len]; exact hlen) (by decide), A8, _, gg.trans gput, hs8.put (w := .lst (acc ++ [yd])) gL hv (fun _ z => nomatch z) (fun _ _ z => nomatch z) ⟨_, upd_same, (rv.snoc ry).mono gput⟩, Post.grow gput h5⟩
                    · exact h5.elim
                  · exact h5.elim
              · exact h5.elim
            · exact h5.elim
          · have e : j = p1.1.length := by omega
            subst e
            refine .inl ⟨rJ.stop A5 H5 S5 g5 hs5 (l2I_guard rfl h5), ?_⟩
            rw [List.drop_length] at h5
            unfold l2I at h5
            split at h5
            · exact ⟨A5, S5, G4.trans g5, hs5, h5⟩
            · exact h5.elim
      · exact h'.elim
    · exact h'.elim
  · have e : i = p.1.length := by omega
    subst e
    refine .inl ⟨r1.stop A' H' S' (gp.trans g) hs' (l2O_guard h'), ?_⟩
    rw [List.drop_length] at h'
    unfold l2O at h'
    split at h'
    · exact Post.val h' ⟨L, g.get hn, rfl⟩ hs'
    · exact h'.elim
theorem de_lc2 (hc : X.calm = true) (hN : X.N.Nodup) (hi : DI X W tg iter fi) (ok : BlkOk X.N X.env.scope scope own)
    (hg : ∀ (s : Shared) (H : Hp) (C : Addr) (cl : List (Str × Addr)) (fp : List Addr), DG (X.blk s H scope (compEnvC scope cl C X.env) fp) tg is bd)
    (hi1 : ∀ (s : Shared) (H : Hp) (C : Addr) (cl : List (Str × Addr)) (fp : List Addr), DI (X.blk s H scope (compEnvC scope cl C X.env) fp) WF tg1 iter1 fi1)
    (hg1 : ∀ (s : Shared) (H : Hp) (C : Addr) (cl : List (Str × Addr)) (fp : List Addr), DG (X.blk s H scope (compEnvC scope cl C X.env) fp) tg1 is1 bd1)
    (he : ∀ (s : Shared) (H : Hp) (C : Addr) (cl : List (Str × Addr)) (fp : List Addr), DE (X.blk s H scope (compEnvC scope cl C X.env) fp) WF elt fe) (hin : ∀ i ∈ is, i ∈ own.map (·.2) := by decide) (hin1 : ∀ i ∈ is1, i ∈ vs1 := by decide) (hv : ∀ i ∈ vs1, i ∈ own.map (·.2) := by decide)
    (hs : ∀ x, foldedSetIterable iter X.env x = pure x := by intro _; rfl) (hs1 : ∀ env x, foldedSetIterable iter1 env x = pure x := by intro _ _; rfl) :
    DE X W (.ListComp elt [⟨tg, iter, [], 0⟩, ⟨tg1, iter1, [], 0⟩] scope pos) (dLc2 fi bd fi1 bd1 fe (own.map (·.2)) vs1) := (pe_lc2 hc hN hi ok hv hg (fun _ _ _ _ _ => dts_nil) hi1 hg1 (fun _ _ _ _ _ => dts_nil) he hs hs1).to (lc2_read hin hin1)
end
/-! ### max of a list of numbers -/
def intsOf : List D → Option (List Int)
  | [] => some []
  | .int i :: r => (intsOf r).map (i :: ·)
  | _ :: _ => none
def mxI : Int → List Int → Int
  | m, [] => m
  | m, i :: r => mxI (if m < i then i else m) r
theorem mxI_ge : ∀ (l : List Int) (m : Int), m ≤ mxI m l ∧ ∀ y ∈ l, y ≤ mxI m l
  | [], m => ⟨Int.le_refl _, by simp⟩
  | i :: r, m => by
    obtain ⟨h1, h2⟩ := mxI_ge r (if m < i then i else m)
    simp only [mxI]
    have : m ≤ (if m < i then i else m) ∧ i ≤ (if m < i then i else m) := by split <;> omega
    refine ⟨by omega, fun y hy => ?_⟩
    rcases List.mem_cons.mp hy with z | z
    · subst z; omega
    · exact h2 y z
theorem mxI_mem : ∀ (l : List Int) (m : Int), mxI m l = m ∨ mxI m l ∈ l
  | [], m => .inl rfl
  | i :: r, m => by
    simp only [mxI]
    rcases mxI_mem r (if m < i then i else m) with h | h
    · rw [h]
      split
      · exact .inr (by simp)
      · exact .inl rfl
    · exact .inr (List.mem_cons_of_mem _ h)
def gMaxL : Sto → D → Res D := fun S d => match listOf S d with
  | some xs => match intsOf xs with
    | some (i :: r) => .ok (.int (mxI i r)) S
    | _ => .bad
  | none => .bad
theorem intsOf_rep {G : GX} {A : List Addr} {H : Hp} : ∀ {ds : List D} {vs : List V} {ns : List Int}, Reps G A H ds vs → intsOf ds = some ns → vs = ns.map V.int
  | [], vs, ns, r, h => by cases h; cases r; rfl
  | d :: ds, vs, ns, r, h => by
    obtain ⟨v, t, rfl, r1, r2⟩ := r
    cases d with
    | int i =>
      simp only [intsOf] at h
      cases e : intsOf ds with
      | none => rw [e] at h; cases h
      | some ms =>
        rw [e] at h
        cases h
        cases r1
        rw [intsOf_rep r2 e]
        rfl
    | _ => cases h
theorem cs_maxL {G : GX} {W : WX} : CbS G W (rMax G.K) (one gMaxL) := cb_one fun σ A H S d v Q r hs h => by
  unfold gMaxL at h
  split at h
  · rename_i xs e
    split at h
    · rename_i i l eb
      obtain ⟨a, vs, rfl, k1, k2⟩ := listOf_at hs r e
      rw [intsOf_rep k2 eb] at k1
      refine ⟨a, i :: l, rfl, k1, by simp, fun m hm hy => ?_⟩
      have h1 := mxI_ge l i
      have h2 := mxI_mem l i
      have e1 : m ≤ mxI i l := by
        rcases List.mem_cons.mp hm with z | z
        · rw [z]; exact h1.1
        · exact h1.2 m z
      have e2 : mxI i l ≤ m := by
        rcases h2 with z | z
        · rw [z]; exact hy i (by simp)
        · exact hy _ (List.mem_cons_of_mem _ z)
      have : m = mxI i l := by omega
      rw [this]
      exact Post.val h rfl hs
    · exact h.elim
  · exact h.elim
theorem de_maxL {X : Cx} {W : WX} {e : Expr} {fr : FA} {p pos : Pos} (hc : X.calm = true) (hm : X.mg "max" = none) (ha : DA X W [e] fr) (hg : Gl X "max" := by rfl) (he : starEach [e] X.env = (false, eval e X.env) :: starEach [] X.env := by rfl) : DE X W (.Call (.Name "max" p) [e] [] pos) (dCB (one gMaxL) fr) := de_cb (cr_max hc) cs_maxL hg hm (by decide +kernel) ha (he := he) (hpl := rfl)
end TD

set_option Elab.async false
set_option linter.all false
set_option maxRecDepth 100000
set_option maxHeartbeats 2000000
/-! TD30: enumerate of a list. -/
namespace TD
open PySem PySem.Spec PyProof.Rows L2
def enD : Nat → List D → List D
  | _, [] => []
  | k, x :: xs => .tup [.int (k : Int), x] :: enD (k + 1) xs
theorem enD_len : ∀ (xs : List D) (k : Nat), (enD k xs).length = xs.length
  | [], _ => rfl
  | x :: xs, k => by rw [enD, List.length_cons, enD_len xs, List.length_cons]
theorem enD_get : ∀ {xs : List D} {k i : Nat} {x : D}, xs[i]? = some x → (enD k xs)[i]? = some (.tup [.int ((k + i : Nat) : Int), x])
  | [], _, _, _, h => by simp at h
  | y :: xs, k, 0, x, h => by
    simp at h
    subst h
    rfl
  | y :: xs, k, i + 1, x, h => by
    rw [enD, List.getElem?_cons_succ, enD_get (k := k + 1) (by simpa using h)]
    congr 4
    omega
def iEn (a : FA) : FI := fun ρ S => (a ρ S).bind fun ds S1 => match ds with
  | [d] => match listOf S1 d with
    | some xs => .ok (enD 0 xs, guardOf xs d) S1
    | none => .bad
  | _ => .bad
theorem ri_enum {G : GX} {A : List Addr} {H : Hp} {S : Sto} {d : D} {a : Addr} {xs : List D} (hs : HR G A H S) (r : Rep G A H d (.ref a)) (h : listOf S d = some xs) : RI G A H (enD 0 xs, guardOf xs d) (Ite G.K a) := by
  obtain ⟨b, e, k⟩ := list_stays hs r h
  cases e
  refine ⟨fun A' H' S' i g hs' hg hi => ?_, fun A' H' S' g hs' hg => ?_, fun A' H' S' i x H'' g hs' hg hi y => ?_⟩
  · obtain ⟨vs, k1, k2⟩ := k A' H' S' g hs' hg
    rw [enD_len] at hi
    obtain ⟨v, e, _⟩ := k2.get (List.getElem?_eq_getElem hi)
    exact ⟨vs, v, k1, e⟩
  · obtain ⟨vs, k1, k2⟩ := k A' H' S' g hs' hg
    exact ⟨vs, k1, by rw [enD_len]; exact Nat.le_of_eq k2.len⟩
  · obtain ⟨vs, k1, k2⟩ := k A' H' S' g hs' hg
    obtain ⟨T, u, rfl, hT, rfl, hu⟩ := y
    obtain ⟨dd, e, q⟩ := k2.nth (hu vs k1)
    refine ⟨_, enD_get e, Gr.new hT, hs'.new hT, T, _, rfl, upd_same, Reps.cons ?_ (Reps.cons (q.mono (Gr.new hT)) Reps.nil)⟩
    show V.int _ = V.int _
    rw [Nat.zero_add]
theorem di_enum {X : Cx} {W : WX} {e : Expr} {fr : FA} {p pos tpos : Pos} {elts : List Expr} {kk : Nat} (hm : X.mg "enumerate" = none) (ha : DA X W [e] fr) (hg : Gl X "enumerate" := by rfl) (hs : starEach [e] X.env = [(false, eval e X.env)] := by rfl) : DI X W (.Tuple elts kk tpos) (.Call (.Name "enumerate" p) [e] [] pos) (iEn fr) :=
  (pi_enum hg hm ha hs).to fun σ H R ⟨A, ρ, S, hv, hs, h⟩ => can_bind hv hs h fun ds S1 A1 H1 vs g1 r1 hs1 he1 h1 => by
    split at h1
    · rename_i d
      obtain ⟨v, t, rfl, r2, r3⟩ := r1
      cases r3
      split at h1
      · rename_i xs e1
        obtain ⟨a, ws, rfl, k1, k2⟩ := listOf_at hs1 r2 e1
        exact ⟨a, ws, rfl, k1, Post.val h1 (ri_enum hs1 r2 e1) hs1⟩
      · exact h1.elim
    · exact h1.elim
end TD

set_option Elab.async false
set_option linter.all false
set_option maxRecDepth 100000
set_option maxHeartbeats 2000000
/-! TD31: reading the operations of dicts with tuple keys. -/
namespace TD
open PySem PySem.Spec PyProof.Rows L2
def DttP (o : Option DO) (P : List (List Key × D) → Prop) : Prop := match o with
  | some (.dtt kvs) => P kvs
  | some (.fdt kvs) => P kvs
  | _ => False
def FdtP (o : Option DO) (P : List (List Key × D) → Prop) : Prop := match o with
  | some (.fdt kvs) => P kvs
  | _ => False
def DtP (o : Option DO) (P : List (List Key × D) → Prop) : Prop := match o with
  | some (.dtt kvs) => P kvs
  | _ => False
@[simp] theorem dttP_dtt (kvs : List (List Key × D)) (P : List (List Key × D) → Prop) : DttP (some (.dtt kvs)) P ↔ P kvs := Iff.rfl
@[simp] theorem dttP_fdt (kvs : List (List Key × D)) (P : List (List Key × D) → Prop) : DttP (some (.fdt kvs)) P ↔ P kvs := Iff.rfl
@[simp] theorem fdtP_fdt (kvs : List (List Key × D)) (P : List (List Key × D) → Prop) : FdtP (some (.fdt kvs)) P ↔ P kvs := Iff.rfl
@[simp] theorem dtP_dtt (kvs : List (List Key × D)) (P : List (List Key × D) → Prop) : DtP (some (.dtt kvs)) P ↔ P kvs := Iff.rfl
section
variable {Q : D → Sto → Prop} {X : Exc → Sto → Prop} {S : Sto} {ρ : Env}
@[simp] theorem g_tget {n : Nat} {y : D} : WR (gTGet S (.ref n) y) Q X ↔ DttP S[n]? (fun kvs => OptP (keyT y) fun ks => OptP (valD kvs ks) fun d => Q d S) := by
  simp only [gTGet, dttOf]
  cases h : S[n]? with
  | none => exact Iff.rfl
  | some o => cases o with
    | dtt kvs =>
      simp only [dttP_dtt]
      cases h2 : keyT y with
      | none => exact Iff.rfl
      | some ks =>
        simp only [optP_some]
        cases h3 : valD kvs ks <;> exact Iff.rfl
    | fdt kvs =>
      simp only [dttP_fdt]
      cases h2 : keyT y with
      | none => exact Iff.rfl
      | some ks =>
        simp only [optP_some]
        cases h3 : valD kvs ks <;> exact Iff.rfl
    | _ => exact Iff.rfl
@[simp] theorem g_tin {n : Nat} {y : D} {neg : Bool} : WR (gTIn neg S y (.ref n)) Q X ↔ DttP S[n]? (fun kvs => OptP (keyT y) fun ks => Q (.bl (if neg then !(valD kvs ks).isSome else (valD kvs ks).isSome)) S) := by
  simp only [gTIn, dttOf]
  cases h : S[n]? with
  | none => exact Iff.rfl
  | some o => cases o with
    | dtt kvs =>
      simp only [dttP_dtt]
      cases h2 : keyT y <;> exact Iff.rfl
    | fdt kvs =>
      simp only [dttP_fdt]
      cases h2 : keyT y <;> exact Iff.rfl
    | _ => exact Iff.rfl
@[simp] theorem g_tget2 {n : Nat} {y z : D} : WR (gTGet2 S (.ref n) y z) Q X ↔ DttP S[n]? (fun kvs => OptP (keyT y) fun ks => Q ((valD kvs ks).getD z) S) := by
  simp only [gTGet2, dttOf]
  cases h : S[n]? with
  | none => exact Iff.rfl
  | some o => cases o with
    | dtt kvs =>
      simp only [dttP_dtt]
      cases h2 : keyT y <;> exact Iff.rfl
    | fdt kvs =>
      simp only [dttP_fdt]
      cases h2 : keyT y <;> exact Iff.rfl
    | _ => exact Iff.rfl
@[simp] theorem w_dTGet2 {fo fk fz : FE} : WR (dTGet2 fo fk fz ρ S) Q X ↔ WR (fo ρ S) (fun x S1 => (dttOf S1 x).isSome = true ∧ WR (fk ρ S1) (fun y S2 => WR (fz ρ S2) (fun z S3 => WR (gTGet2 S3 x y z) Q X) X) X) X := by
  unfold dTGet2
  rw [wr_bind]
  cases fo ρ S with
  | ok x S1 =>
    simp only [wr_ok]
    split
    · rename_i h
      simp only [h, true_and, wr_bind]
    · rename_i h
      simp [h]
  | exc x S1 => exact Iff.rfl
  | bad => exact Iff.rfl
theorem dttOf_dtt {n : Nat} {kvs : List (List Key × D)} (h : S[n]? = some (.dtt kvs)) : (dttOf S (.ref n)).isSome = true := by simp [dttOf, h]
@[simp] theorem g_tlen {n : Nat} : WR (gTLen S [.ref n]) Q X ↔ DtP S[n]? (fun kvs => Q (.int kvs.length) S) := by
  simp only [gTLen]
  cases h : S[n]? with
  | none => exact Iff.rfl
  | some o => cases o <;> exact Iff.rfl
@[simp] theorem w_dTNew : WR (dTNew ρ S) Q X ↔ Q (.ref S.length) (S ++ [.dtt []]) := Iff.rfl
@[simp] theorem w_dOneT {fk fv : FE} : WR (dOneT fk fv ρ S) Q X ↔ WR (fk ρ (S ++ [.dtt []])) (fun y S1 => WR (fv ρ S1) (fun z S2 => OptP (keyT y) fun ks => S2[S.length]? = some (.dtt []) ∧ Q (.ref S.length) (S2.set S.length (.dtt [(ks, z)]))) X) X := by
  unfold dOneT
  simp only [wr_bind]
  cases fk ρ (S ++ [.dtt []]) with
  | ok y S1 =>
    simp only [wr_ok]
    cases fv ρ S1 with
    | ok z S2 =>
      simp only [wr_ok]
      cases keyT y with
      | none => exact Iff.rfl
      | some ks =>
        simp only [optP_some]
        cases h : S2[S.length]? with
        | none => simp
        | some o => cases o with
          | dtt kvs => cases kvs <;> simp
          | _ => simp
    | exc x S1 => exact Iff.rfl
    | bad => exact Iff.rfl
  | exc x S1 => exact Iff.rfl
  | bad => exact Iff.rfl
@[simp] theorem w_sTPut {K : Kt} {fo fk fv : FE} : WS (sTPut fo fk fv ρ S) K ↔ WR (fv ρ S) (fun v S1 => WR (fo ρ S1) (fun x S2 => WR (fk ρ S2) (fun y S3 => ∃ n, x = .ref n ∧ DtP S3[n]? (fun kvs => OptP (keyT y) fun ks => kvs.length < 1000000 ∧ K.nx ρ (S3.set n (.dtt (putD kvs ks v))))) (fun x S1 => K.ex x ρ S1)) (fun x S1 => K.ex x ρ S1)) (fun x S1 => K.ex x ρ S1) := by
  unfold sTPut
  cases fv ρ S with
  | ok v S1 =>
    simp only [Res.bind_ok, wr_ok]
    cases fo ρ S1 with
    | ok x S2 =>
      simp only [Res.bind_ok, wr_ok]
      cases fk ρ S2 with
      | ok y S3 =>
        simp only [Res.bind_ok, wr_ok]
        cases x with
        | ref n =>
          simp only [D.ref.injEq, exists_eq_left']
          cases h : S3[n]? with
          | none => exact Iff.rfl
          | some o => cases o with
            | dtt kvs =>
              simp only [dtP_dtt]
              cases keyT y with
              | none => exact Iff.rfl
              | some ks =>
                simp only [optP_some]
                by_cases hl : kvs.length < 1000000
                · simp [hl]
                · simp [hl]
            | _ => exact Iff.rfl
        | _ => simp
      | exc x S1 => exact Iff.rfl
      | bad => exact Iff.rfl
    | exc x S1 => exact Iff.rfl
    | bad => exact Iff.rfl
  | exc x S1 => exact Iff.rfl
  | bad => exact Iff.rfl
@[simp] theorem w_iKT {Q : List D × Option (Nat × List D) → Sto → Prop} {f : FE} : WR (iKT f ρ S) Q X ↔ WR (f ρ S) (fun x S1 => ∃ n, x = .ref n ∧ FdtP S1[n]? (fun kvs => Q (keyTs kvs, none) S1)) X := by
  unfold iKT
  rw [wr_bind]
  cases f ρ S with
  | ok x S1 =>
    simp only [wr_ok]
    cases x with
    | ref n =>
      simp only [D.ref.injEq, exists_eq_left']
      cases h : S1[n]? with
      | none => exact Iff.rfl
      | some o => cases o <;> exact Iff.rfl
    | _ => simp
  | exc x S1 => exact Iff.rfl
  | bad => exact Iff.rfl
@[simp] theorem w_iEn {Q : List D × Option (Nat × List D) → Sto → Prop} {fr : FA} : WR (iEn fr ρ S) Q X ↔ WR (fr ρ S) (fun ds S1 => ∃ d, ds = [d] ∧ OptP (TD.listOf S1 d) (fun xs => Q (enD 0 xs, guardOf xs d) S1)) X := by
  unfold iEn
  rw [wr_bind]
  cases fr ρ S with
  | ok ds S1 =>
    simp only [wr_ok]
    split
    · rename_i d
      simp only [List.cons.injEq, and_true, exists_eq_left']
      cases TD.listOf S1 d <;> exact Iff.rfl
    · rename_i h
      simp only [wr_bad, false_iff]
      rintro ⟨d, e, _⟩
      exact h d e
  | exc x S1 => exact Iff.rfl
  | bad => exact Iff.rfl
@[simp] theorem w_maxL {n : Nat} : WR (gMaxL S (.ref n)) Q X ↔ LstP S[n]? (fun xs => ∃ i r, intsOf xs = some (i :: r) ∧ Q (.int (mxI i r)) S) := by
  simp only [gMaxL, TD.listOf]
  cases h : S[n]? with
  | none => exact Iff.rfl
  | some o => cases o with
    | lst xs =>
      simp only [lstP_lst]
      cases e : intsOf xs with
      | none => simp
      | some l => cases l with
        | nil => simp
        | cons i r =>
          simp only [Option.some.injEq, List.cons.injEq]
          exact ⟨fun q => ⟨i, r, ⟨rfl, rfl⟩, q⟩, by rintro ⟨_, _, ⟨rfl, rfl⟩, q⟩; exact q⟩
    | _ => exact Iff.rfl
end
@[simp] theorem keyT_ints (s : List Int) : keyT (.tup (s.map D.int)) = some (s.map Sum.inl) := by
  show keysOfL (s.map D.int) = _
  induction s with
  | nil => rfl
  | cons i s ih => simp only [List.map_cons, keysOfL, keyOf, ih]
/-! the statement while a dict is locked -/
def unK (n : Nat) (K : Kt) : Kt := ⟨fun ρ S => FdtP S[n]? (fun kvs => K.nx ρ (S.set n (.dtt kvs))), fun d S => FdtP S[n]? (fun kvs => K.rt d (S.set n (.dtt kvs))), fun _ _ _ => False, fun ρ S => FdtP S[n]? (fun kvs => K.bk ρ (S.set n (.dtt kvs))), fun ρ S => FdtP S[n]? (fun kvs => K.ct ρ (S.set n (.dtt kvs)))⟩
theorem ws_lk {K : Kt} {S : Sto} {ρ : Env} {i n : Nat} {s : FS} {kvs : List (List Key × D)} (h1 : ρ[i]? = some (some (.ref n))) (h2 : S[n]? = some (.dtt kvs)) (h : WS (s ρ (S.set n (.fdt kvs))) (unK n K)) : WS (sLk i s ρ S) K := by
  unfold sLk
  simp only [h1, h2]
  cases e : s ρ (S.set n (.fdt kvs)) with
  | bad => rw [e] at h; exact h.elim
  | exc x ρ1 S1 => rw [e] at h; exact h.elim
  | nx ρ1 S1 =>
    rw [e] at h
    simp only [unl]
    have h : FdtP S1[n]? (fun kvs => K.nx ρ1 (S1.set n (.dtt kvs))) := h
    cases e2 : S1[n]? with
    | none => rw [e2] at h; exact h.elim
    | some o => rw [e2] at h; cases o <;> first | exact h | exact h.elim
  | bk ρ1 S1 =>
    rw [e] at h
    simp only [unl]
    have h : FdtP S1[n]? (fun kvs => K.bk ρ1 (S1.set n (.dtt kvs))) := h
    cases e2 : S1[n]? with
    | none => rw [e2] at h; exact h.elim
    | some o => rw [e2] at h; cases o <;> first | exact h | exact h.elim
  | ct ρ1 S1 =>
    rw [e] at h
    simp only [unl]
    have h : FdtP S1[n]? (fun kvs => K.ct ρ1 (S1.set n (.dtt kvs))) := h
    cases e2 : S1[n]? with
    | none => rw [e2] at h; exact h.elim
    | some o => rw [e2] at h; cases o <;> first | exact h | exact h.elim
  | rt d S1 =>
    rw [e] at h
    simp only [unl]
    have h : FdtP S1[n]? (fun kvs => K.rt d (S1.set n (.dtt kvs))) := h
    cases e2 : S1[n]? with
    | none => rw [e2] at h; exact h.elim
    | some o => rw [e2] at h; cases o <;> first | exact h | exact h.elim
/-! comprehensions -/
theorem wr_dtL {Q : D → Sto → Prop} {X : Exc → Sto → Prop} {p : List D × Option (Nat × List D)} {bd : FG} {ek ev : FE} {n : Nat} {ρ0 : Env} (I : List D → List (List Key × D) → Sto → Prop) (hI : ∀ ds acc S, I ds acc S → guardOk p S)
    (hs : ∀ d ds acc S, I (d :: ds) acc S → ∃ ρ1, bd d ρ0 = some ρ1 ∧ WR (ek ρ1 S) (fun y S2 => WR (ev ρ1 S2) (fun z S3 => ∃ ks, keyT y = some ks ∧ S3[n]? = some (.dtt acc) ∧ acc.length < 1000000 ∧ I ds (putD acc ks z) (S3.set n (.dtt (putD acc ks z)))) NX) NX)
    (hn : ∀ acc S, I [] acc S → Q (.ref n) S) : ∀ (ds : List D) (acc : List (List Key × D)) (S : Sto), I ds acc S → WR (dtL p bd tTrue ek ev n ρ0 ds S) Q X
  | [], acc, S, h => by
    unfold dtL
    rw [if_pos (hI _ _ _ h)]
    exact hn acc S h
  | d :: ds, acc, S, h => by
    unfold dtL
    rw [if_pos (hI _ _ _ h)]
    obtain ⟨ρ1, e1, hb⟩ := hs d ds acc S h
    simp only [e1, tTrue, if_true]
    cases e2 : ek ρ1 S with
    | ok y S2 =>
      rw [e2] at hb
      have hb : WR (ev ρ1 S2) (fun z S3 => ∃ ks, keyT y = some ks ∧ S3[n]? = some (.dtt acc) ∧ acc.length < 1000000 ∧ I ds (putD acc ks z) (S3.set n (.dtt (putD acc ks z)))) NX := hb
      simp only []
      cases e3 : ev ρ1 S2 with
      | ok z S3 =>
        rw [e3] at hb
        obtain ⟨ks, k1, k2, k3, k4⟩ := hb
        simp only [k1, k2, k3, if_true]
        exact wr_dtL I hI hs hn ds _ _ k4
      | exc x S3 => rw [e3] at hb; exact hb.elim
      | bad => rw [e3] at hb; exact hb.elim
    | exc x S2 => rw [e2] at hb; exact hb.elim
    | bad => rw [e2] at hb; exact hb.elim
theorem wr_l2I {p : List D × Option (Nat × List D)} {bd : FG} {e : FE} {n : Nat} {ρ0 : Env} {Q : Sto → Prop} (I : List D → List D → Sto → Prop) (hI : ∀ ds acc S, I ds acc S → guardOk p S)
    (hs : ∀ d ds acc S, I (d :: ds) acc S → ∃ ρ1, bd d ρ0 = some ρ1 ∧ WR (e ρ1 S) (fun y S2 => S2[n]? = some (.lst acc) ∧ acc.length < 1000000 ∧ I ds (acc ++ [y]) (S2.set n (.lst (acc ++ [y])))) NX)
    (hn : ∀ acc S, I [] acc S → Q S) : ∀ (ds acc : List D) (S : Sto), I ds acc S → ∃ S2, l2I p bd e n ρ0 ds S = .ok () S2 ∧ Q S2
  | [], acc, S, h => ⟨S, by unfold l2I; rw [if_pos (hI _ _ _ h)], hn acc S h⟩
  | d :: ds, acc, S, h => by
    unfold l2I
    rw [if_pos (hI _ _ _ h)]
    obtain ⟨ρ1, e1, hb⟩ := hs d ds acc S h
    simp only [e1]
    cases e2 : e ρ1 S with
    | ok y S2 =>
      rw [e2] at hb
      obtain ⟨k2, k3, k4⟩ := hb
      simp only [k2, k3, if_true]
      exact wr_l2I I hI hs hn ds _ _ k4
    | exc x S2 => rw [e2] at hb; exact hb.elim
    | bad => rw [e2] at hb; exact hb.elim
theorem wr_l2O {Q : D → Sto → Prop} {X : Exc → Sto → Prop} {p : List D × Option (Nat × List D)} {bd : FG} {fi1 : FI} {bd1 : FG} {e : FE} {n : Nat} {ρ0 : Env} {vs1 : List Nat} (I : List D → Sto → Prop) (hI : ∀ ds S, I ds S → guardOk p S)
    (hs : ∀ d ds S, I (d :: ds) S → ∃ ρ1, bd d ρ0 = some ρ1 ∧ WR (fi1 ρ1 S) (fun p1 S1 => ∃ S2, l2I p1 bd1 e n (wipeD ρ1 vs1) p1.1 S1 = .ok () S2 ∧ I ds S2) NX)
    (hn : ∀ S, I [] S → Q (.ref n) S) : ∀ (ds : List D) (S : Sto), I ds S → WR (l2O p bd fi1 bd1 e n ρ0 vs1 ds S) Q X
  | [], S, h => by
    unfold l2O
    rw [if_pos (hI _ _ h)]
    exact hn S h
  | d :: ds, S, h => by
    unfold l2O
    rw [if_pos (hI _ _ h)]
    obtain ⟨ρ1, e1, hb⟩ := hs d ds S h
    simp only [e1]
    cases e2 : fi1 ρ1 S with
    | ok p1 S1 =>
      rw [e2] at hb
      obtain ⟨S2, k1, k2⟩ := hb
      simp only [k1]
      exact wr_l2O I hI hs hn ds S2 k2
    | exc x S2 => rw [e2] at hb; exact hb.elim
    | bad => rw [e2] at hb; exact hb.elim
section
variable {Q : D → Sto → Prop} {X : Exc → Sto → Prop} {S : Sto} {ρ : Env}
@[simp] theorem w_dDt {fi : FI} {bd : FG} {t : FT} {ek ev : FE} {own : List Nat} : WR (dDt fi bd t ek ev own ρ S) Q X ↔ WR (fi ρ S) (fun p S1 => WR (dtL p bd t ek ev S1.length (wipeD ρ own) p.1 (S1 ++ [.dtt []])) Q X) X := by
  unfold dDt
  rw [wr_bind]
@[simp] theorem w_dLc2 {fi fi1 : FI} {bd bd1 : FG} {e : FE} {own vs1 : List Nat} : WR (dLc2 fi bd fi1 bd1 e own vs1 ρ S) Q X ↔ WR (fi ρ S) (fun p S1 => WR (l2O p bd fi1 bd1 e S1.length (wipeD ρ own) vs1 p.1 (S1 ++ [.lst []])) Q X) X := by
  unfold dLc2
  rw [wr_bind]
end
end TD

set_option Elab.async false
set_option linter.all false
set_option maxRecDepth 100000
set_option maxHeartbeats 2000000
/-! TD32: states with weights. -/
namespace TD
open PySem PySem.Spec PyProof.Rows L2
abbrev WM := List (List Int × Nat)
def kI (s : List Int) : List Key := s.map Sum.inl
theorem kI_inj : ∀ {s t : List Int}, kI s = kI t → s = t
  | [], [], _ => rfl
  | [], _ :: _, h => by simp [kI] at h
  | _ :: _, [], h => by simp [kI] at h
  | i :: s, j :: t, h => by
    simp only [kI, List.map_cons, List.cons.injEq, Sum.inl.injEq] at h
    rw [h.1, kI_inj (s := s) (t := t) h.2]
def dm (M : WM) : List (List Key × D) := M.map fun p => (kI p.1, .int p.2)
def ks (M : WM) : List (List Int) := M.map (·.1)
def wI (h : List Int → Nat) : WM → Nat
  | [] => 0
  | p :: r => p.2 * h p.1 + wI h r
def ind (k : List Int) : List Int → Nat := fun x => if x = k then 1 else 0
def wget (M : WM) (k : List Int) : Nat := wI (ind k) M
def wadd (M : WM) (k : List Int) (v : Nat) : WM := if k ∈ ks M then M.map (fun p => if p.1 = k then (p.1, p.2 + v) else p) else M ++ [(k, v)]
theorem wI_app (h : List Int → Nat) : ∀ M N : WM, wI h (M ++ N) = wI h M + wI h N
  | [], N => by simp [wI]
  | p :: M, N => by simp only [List.cons_append, wI, wI_app h M N]; omega
theorem wI_congr {h g : List Int → Nat} : ∀ {M : WM}, (∀ p ∈ M, h p.1 = g p.1) → wI h M = wI g M
  | [], _ => rfl
  | p :: M, k => by
    simp only [wI]
    rw [k p (by simp), wI_congr (M := M) fun q hq => k q (by simp [hq])]
theorem wI_upd (h : List Int → Nat) (k : List Int) (v : Nat) : ∀ {M : WM}, (ks M).Nodup → wI h (M.map fun p => if p.1 = k then (p.1, p.2 + v) else p) = wI h M + (if k ∈ ks M then v * h k else 0)
  | [], _ => by simp [wI, ks]
  | p :: M, hn => by
    have hn' : p.1 ∉ ks M ∧ (ks M).Nodup := by simpa [ks] using hn
    have ih := wI_upd h k v (M := M) hn'.2
    have hm : k ∈ ks (p :: M) ↔ k = p.1 ∨ k ∈ ks M := by simp [ks]
    simp only [List.map_cons, wI]
    by_cases e : p.1 = k
    · have nk : k ∉ ks M := fun z => hn'.1 (e ▸ z)
      rw [ih, if_neg nk, if_pos (hm.mpr (.inl e.symm))]
      simp only [e, if_true]
      rw [Nat.add_mul]
      omega
    · have e' : ¬ k = p.1 := fun z => e z.symm
      rw [ih]
      simp only [e, if_false]
      by_cases z : k ∈ ks M
      · rw [if_pos z, if_pos (hm.mpr (.inr z))]
        omega
      · rw [if_neg z, if_neg (fun y => (hm.mp y).elim e' z)]
        omega
theorem wI_add (h : List Int → Nat) {M : WM} (hn : (ks M).Nodup) (k : List Int) (v : Nat) : wI h (wadd M k v) = wI h M + v * h k := by
  unfold wadd
  split
  · rename_i hk
    rw [wI_upd h k v hn, if_pos hk]
  · rw [wI_app]
    simp [wI]
theorem ks_upd (k : List Int) (v : Nat) : ∀ M : WM, ks (M.map fun p => if p.1 = k then (p.1, p.2 + v) else p) = ks M
  | [] => rfl
  | p :: M => by
    have ih := ks_upd k v M
    simp only [ks, List.map_cons] at ih ⊢
    rw [ih]
    split <;> rfl
theorem ks_add (M : WM) (k : List Int) (v : Nat) : ks (wadd M k v) = if k ∈ ks M then ks M else ks M ++ [k] := by
  unfold wadd
  split
  · exact ks_upd k v M
  · simp [ks]
/-- what a map of weights is to be -/
structure WOk (M : WM) : Prop where
  nd : (ks M).Nodup
  pos : ∀ p ∈ M, 1 ≤ p.2
theorem WOk.nil : WOk [] := ⟨by simp [ks], by simp⟩
theorem WOk.add {M : WM} (h : WOk M) (k : List Int) {v : Nat} (hv : 1 ≤ v) : WOk (wadd M k v) := by
  refine ⟨?_, fun p hp => ?_⟩
  · rw [ks_add]
    split
    · exact h.nd
    · rename_i hk
      rw [List.nodup_append]
      exact ⟨h.nd, by simp, fun a ha b hb e => hk (by simp at hb; rw [← hb, ← e]; exact ha)⟩
  · unfold wadd at hp
    split at hp
    · obtain ⟨q, hq, rfl⟩ := List.mem_map.mp hp
      have := h.pos q hq
      split
      · exact Nat.le_trans this (Nat.le_add_right _ _)
      · exact this
    · rcases List.mem_append.mp hp with z | z
      · exact h.pos p z
      · simp at z
        subst z
        exact hv
theorem wget_pos {M : WM} (h : WOk M) (k : List Int) : k ∈ ks M ↔ 0 < wget M k := by
  have : ∀ M : WM, (∀ p ∈ M, 1 ≤ p.2) → (k ∈ ks M ↔ 0 < wget M k) := fun M => by
    induction M with
    | nil => intro _; simp [ks, wget, wI]
    | cons p M ih =>
      intro hp
      have ih := ih fun q hq => hp q (by simp [hq])
      have h1 := hp p (by simp)
      have e : wget (p :: M) k = p.2 * ind k p.1 + wget M k := rfl
      have hm : k ∈ ks (p :: M) ↔ k = p.1 ∨ k ∈ ks M := by simp [ks]
      rw [e, hm, ih]
      unfold ind
      by_cases q : p.1 = k
      · simp only [q, if_true, Nat.mul_one, true_or, true_iff]
        omega
      · simp only [q, if_false, Nat.mul_zero, Nat.zero_add]
        exact ⟨fun z => z.elim (fun y => absurd y.symm q) id, .inr⟩
  exact this M h.pos
theorem wget_mem {M : WM} (hn : (ks M).Nodup) : ∀ {p : List Int × Nat}, p ∈ M → wget M p.1 = p.2 := by
  induction M with
  | nil => intro p h; cases h
  | cons q M ih =>
    intro p hp
    have hn' : q.1 ∉ ks M ∧ (ks M).Nodup := by simpa [ks] using hn
    have e : wget (q :: M) p.1 = q.2 * ind p.1 q.1 + wget M p.1 := rfl
    have z0 : ∀ k : List Int, k ∉ ks M → wget M k = 0 := fun k hk => by
      have : ∀ N : WM, k ∉ ks N → wget N k = 0 := fun N => by
        induction N with
        | nil => intro _; rfl
        | cons r N ih2 =>
          intro hN
          have hN' : ¬ k = r.1 ∧ k ∉ ks N := by simpa [ks] using hN
          show r.2 * ind k r.1 + wget N k = 0
          rw [ih2 hN'.2]
          unfold ind
          rw [if_neg (fun z => hN'.1 z.symm), Nat.mul_zero]
      exact this M hk
    rw [e]
    rcases List.mem_cons.mp hp with z | z
    · subst z
      rw [z0 _ hn'.1]
      simp [ind]
    · have ne : q.1 ≠ p.1 := fun y => hn'.1 (by rw [y]; exact List.mem_map.mpr ⟨p, z, rfl⟩)
      rw [ih hn'.2 z]
      simp [ind, ne]
theorem valD_dm {M : WM} (h : WOk M) (k : List Int) : valD (dm M) (kI k) = if k ∈ ks M then some (.int (wget M k)) else none := by
  have key : ∀ N : WM, (∀ p ∈ N, p ∈ M) → valD (dm N) (kI k) = if k ∈ ks N then some (.int (wget M k)) else none := fun N => by
    induction N with
    | nil => intro _; simp [dm, ks, valD]
    | cons p N ih =>
      intro hN
      have ih := ih fun q hq => hN q (by simp [hq])
      have hm : k ∈ ks (p :: N) ↔ k = p.1 ∨ k ∈ ks N := by simp [ks]
      have e : dm (p :: N) = (kI p.1, .int p.2) :: dm N := rfl
      rw [e, valD_cons]
      by_cases q : p.1 = k
      · rw [if_pos (by rw [q]), if_pos (hm.mpr (.inl q.symm)), ← q, wget_mem h.nd (hN p (by simp))]
      · rw [if_neg (fun z => q (kI_inj z)), ih]
        by_cases z : k ∈ ks N
        · rw [if_pos z, if_pos (hm.mpr (.inr z))]
        · rw [if_neg z, if_neg (fun y => (hm.mp y).elim (fun w => q w.symm) z)]
  exact key M fun _ h => h
theorem putD_dm {M : WM} (h : WOk M) (k : List Int) (v : Nat) : putD (dm M) (kI k) (.int ((wget M k + v : Nat) : Int)) = dm (wadd M k v) := by
  have hany : ((dm M).any fun kv => decide (kv.1 = kI k)) = decide (k ∈ ks M) := by
    unfold dm ks
    rw [List.any_map]
    rw [Bool.eq_iff_iff, List.any_eq_true, decide_eq_true_iff, List.mem_map]
    constructor
    · rintro ⟨p, hp, e⟩
      exact ⟨p, hp, kI_inj (by simpa using e)⟩
    · rintro ⟨p, hp, e⟩
      exact ⟨p, hp, by simp [e]⟩
  unfold putD wadd
  rw [hany]
  by_cases hk : k ∈ ks M
  · rw [if_pos (by simpa using hk), if_pos hk]
    unfold dm
    rw [List.map_map, List.map_map]
    apply List.map_congr_left
    intro p hp
    simp only [Function.comp]
    by_cases q : p.1 = k
    · rw [if_pos (by rw [q]), if_pos q, ← q, wget_mem h.nd hp]
    · rw [if_neg (fun z => q (kI_inj z)), if_neg q]
  · have z0 : wget M k = 0 := by
      rcases Nat.eq_zero_or_pos (wget M k) with z | z
      · exact z
      · exact absurd ((wget_pos h k).mpr z) hk
    rw [if_neg (by simpa using hk), if_neg hk, z0, Nat.zero_add]
    simp [dm]
/-! one step: each state's ends, with weights -/
def addL (w : Nat) (N : WM) (E : WM) : WM := E.foldl (fun N q => wadd N q.1 (w * q.2)) N
def stepW (E : List Int → WM) (N M : WM) : WM := M.foldl (fun N p => addL p.2 N (E p.1)) N
theorem addL_ok {w : Nat} (hw : 1 ≤ w) : ∀ {E N : WM}, WOk N → (∀ q ∈ E, 1 ≤ q.2) → WOk (addL w N E)
  | [], N, h, _ => h
  | q :: E, N, h, hq => addL_ok (E := E) (N := wadd N q.1 (w * q.2)) hw (h.add q.1 (Nat.mul_pos hw (hq q (by simp)))) fun r hr => hq r (by simp [hr])
theorem stepW_ok {E : List Int → WM} : ∀ {M N : WM}, WOk N → (∀ p ∈ M, 1 ≤ p.2) → (∀ p ∈ M, ∀ q ∈ E p.1, 1 ≤ q.2) → WOk (stepW E N M)
  | [], N, h, _, _ => h
  | p :: M, N, h, hp, hq => stepW_ok (M := M) (N := addL p.2 N (E p.1)) (addL_ok (hp p (by simp)) h (hq p (by simp))) (fun r hr => hp r (by simp [hr])) fun r hr => hq r (by simp [hr])
theorem addL_I (h : List Int → Nat) {w : Nat} (hw : 1 ≤ w) : ∀ {E N : WM}, WOk N → (∀ q ∈ E, 1 ≤ q.2) → wI h (addL w N E) = wI h N + w * wI h E
  | [], N, _, _ => by simp [addL, wI]
  | q :: E, N, hN, hq => by
    have ih := addL_I h hw (E := E) (hN.add q.1 (Nat.mul_pos hw (hq q (by simp)))) fun r hr => hq r (by simp [hr])
    show wI h (addL w (wadd N q.1 (w * q.2)) E) = _
    rw [ih, wI_add h hN.nd]
    simp only [wI]
    rw [Nat.mul_add, ← Nat.mul_assoc]
    omega
theorem stepW_I (h : List Int → Nat) {E : List Int → WM} : ∀ {M N : WM}, WOk N → (∀ p ∈ M, 1 ≤ p.2) → (∀ p ∈ M, ∀ q ∈ E p.1, 1 ≤ q.2) → wI h (stepW E N M) = wI h N + wI (fun s => wI h (E s)) M
  | [], N, _, _, _ => by simp [stepW, wI]
  | p :: M, N, hN, hp, hq => by
    have ih := stepW_I h (E := E) (M := M) (addL_ok (hp p (by simp)) hN (hq p (by simp))) (fun r hr => hp r (by simp [hr])) fun r hr => hq r (by simp [hr])
    show wI h (stepW E (addL p.2 N (E p.1)) M) = _
    rw [ih, addL_I h (hp p (by simp)) hN (hq p (by simp))]
    simp only [wI]
    omega
/-- all weights times c -/
def scl (c : Nat) (M : WM) : WM := M.map fun p => (p.1, c * p.2)
theorem ks_scl (c : Nat) (M : WM) : ks (scl c M) = ks M := by simp [ks, scl]
theorem wadd_scl (c : Nat) (M : WM) (k : List Int) (v : Nat) : wadd (scl c M) k (c * v) = scl c (wadd M k v) := by
  unfold wadd
  rw [ks_scl]
  split
  · unfold scl
    rw [List.map_map, List.map_map]
    apply List.map_congr_left
    intro p _
    simp only [Function.comp]
    by_cases q : p.1 = k
    · rw [if_pos q, if_pos q, Nat.mul_add]
    · rw [if_neg q, if_neg q]
  · simp [scl]
theorem addL_scl (c e w : Nat) : ∀ (E N : WM), addL (c * w) (scl (c * e) N) (scl e E) = scl (c * e) (addL w N E)
  | [], N => rfl
  | q :: E, N => by
    show addL (c * w) (wadd (scl (c * e) N) q.1 (c * w * (e * q.2))) (scl e E) = _
    have : c * w * (e * q.2) = c * e * (w * q.2) := by
      simp only [Nat.mul_assoc, Nat.mul_left_comm]
    rw [this, wadd_scl, addL_scl c e w E]
    rfl
theorem stepW_scl (c e : Nat) (E : List Int → WM) : ∀ (M N : WM), stepW (fun s => scl e (E s)) (scl (c * e) N) (scl c M) = scl (c * e) (stepW E N M)
  | [], N => rfl
  | p :: M, N => by
    show stepW (fun s => scl e (E s)) (addL (c * p.2) (scl (c * e) N) (scl e (E p.1))) (scl c M) = _
    rw [addL_scl, stepW_scl c e E M]
    rfl
theorem wI_scl (h : List Int → Nat) (c : Nat) : ∀ M : WM, wI h (scl c M) = c * wI h M
  | [] => by simp [scl, wI]
  | p :: M => by
    show c * p.2 * h p.1 + wI h (scl c M) = c * (p.2 * h p.1 + wI h M)
    rw [wI_scl h c M, Nat.mul_add, Nat.mul_assoc]
theorem WOk.scl {M : WM} (h : WOk M) {c : Nat} (hc : 1 ≤ c) : WOk (scl c M) := ⟨by rw [ks_scl]; exact h.nd, fun p hp => by
  obtain ⟨q, hq, rfl⟩ := List.mem_map.mp hp
  exact Nat.mul_pos hc (h.pos q hq)⟩
/-! how many there can be -/
theorem nd_len {α : Type} [DecidableEq α] : ∀ {l m : List α}, l.Nodup → (∀ x ∈ l, x ∈ m) → l.length ≤ m.length
  | [], _, _, _ => Nat.zero_le _
  | x :: l, m, hn, h => by
    have hn' := List.nodup_cons.mp hn
    have hx := h x (by simp)
    have ih := nd_len (l := l) (m := m.erase x) hn'.2 fun y hy => by
      have hne : y ≠ x := fun e => hn'.1 (e ▸ hy)
      exact (List.mem_erase_of_ne hne).mpr (h y (by simp [hy]))
    rw [List.length_erase_of_mem hx] at ih
    have := List.length_pos_of_mem hx
    rw [List.length_cons]
    omega
def allS : Nat → List (List Int)
  | 0 => [[]]
  | n + 1 => (allS n).flatMap fun t => (List.range 9).map fun i : Nat => Int.ofNat i :: t
theorem flat9 : ∀ l : List (List Int), (l.flatMap fun t => (List.range 9).map fun i : Nat => Int.ofNat i :: t).length = 9 * l.length
  | [] => rfl
  | t :: l => by
    rw [List.flatMap_cons, List.length_append, flat9 l, List.length_map, List.length_range, List.length_cons]
    omega
theorem allS_len : ∀ n, (allS n).length = 9 ^ n
  | 0 => rfl
  | n + 1 => by rw [allS, flat9, allS_len n, Nat.pow_succ]; omega
theorem allS_mem : ∀ (s : List Int), (∀ x ∈ s, 0 ≤ x ∧ x ≤ 8) → s ∈ allS s.length
  | [], _ => by simp [allS]
  | x :: s, h => by
    rw [List.length_cons, allS, List.mem_flatMap]
    refine ⟨s, allS_mem s fun y hy => h y (by simp [hy]), ?_⟩
    rw [List.mem_map]
    have := h x (by simp)
    exact ⟨x.toNat, by rw [List.mem_range]; omega, by congr 1; exact Int.toNat_of_nonneg this.1⟩
theorem few {M : WM} (h : (ks M).Nodup) {m : Nat} (hm : m ≤ 6) (hk : ∀ k ∈ ks M, k.length = m ∧ ∀ x ∈ k, 0 ≤ x ∧ x ≤ 8) : M.length ≤ 531441 := by
  have := nd_len h (m := allS m) fun k hk' => by
    obtain ⟨h1, h2⟩ := hk k hk'
    rw [← h1]
    exact allS_mem k h2
  rw [allS_len] at this
  have e : (ks M).length = M.length := by simp [ks]
  have h6 : 9 ^ m ≤ 9 ^ 6 := Nat.pow_le_pow_right (by decide) hm
  have : (9 : Nat) ^ 6 = 531441 := by decide
  omega
end TD

set_option Elab.async false
set_option linter.all false
set_option maxRecDepth 100000
set_option maxHeartbeats 2000000
/-! TD33: // by numbers below 2 ** 64. -/
namespace TD
open PySem PySem.Spec PyProof.Rows L2
def gDivW : Sto → D → D → Res D := fun S x y => match x, y with
  | .int i, .int j => if 0 < j ∧ j < 18446744073709551616 then .ok (.int (i / j)) S else .bad
  | _, _ => .bad
theorem os_divW {G : GX} {W : WX} : OpS G W (rI CDivW fun i j => .int (i / j)) gDivW := opS_int fun σ A H S d e Q h => by
  unfold gDivW at h
  split at h
  · rename_i i j
    split at h
    · rename_i hc
      refine ⟨_, _, rfl, rfl, ⟨hc.1, ?_⟩, _, h, fun _ _ => rfl⟩
      have : j.natAbs < 2 ^ 64 := by omega
      have := (Nat.log2_lt (n := j.natAbs) (k := 64) (by omega)).mpr this
      omega
    · exact h.elim
  · exact h.elim
theorem de_divW {X : Cx} {W : WX} {a b : Expr} {fa fb : FE} {pos : Pos} (ha : DE X W a fa) (hb : DE X W b fb) : DE X W (.BinOp a .FloorDiv b pos) (dOp gDivW fa fb) := de_op op_fdivW os_divW ha hb
@[simp] theorem g_divW {Q : D → Sto → Prop} {X : Exc → Sto → Prop} {S : Sto} {i j : Int} : WR (gDivW S (.int i) (.int j)) Q X ↔ (0 < j ∧ j < 18446744073709551616) ∧ Q (.int (i / j)) S := by
  simp only [gDivW]
  split <;> simp [*]
end TD

set_option Elab.async false
set_option linter.all false
set_option maxRecDepth 100000
set_option maxHeartbeats 2000000
/-! TD34: a, b = x, y with plain local names. -/
namespace TD
open PySem PySem.Spec PyProof.Rows L2
def parK (i j : Nat) (ρ : Env) (r : Res (List D)) : SR := match r with
  | .ok ds S1 => (match ds with
    | [d, e] => .nx ((ρ.set i (some d)).set j (some e)) S1
    | _ => .bad)
  | .bad => .bad
  | .exc x S1 => .exc x ρ S1
def sPar (i j : Nat) (fr : FA) : FS := fun ρ S => parK i j ρ (fr ρ S)
theorem ds_par {X : Cx} {W : WX} {pos : Pos} {i j : Nat} {x y : Str} {a b : Expr} {fr : FA} {px py pt : Pos} {kt k2 pt2} (hc : X.calm = true) (hN : X.N.Nodup) (hij : i ≠ j) (ha : DA X W [a, b] fr) (hi : X.N[i]? = some x := by rfl) (hj : X.N[j]? = some y := by rfl)
    (hx : X.env.scope.names.lookup x = some .local := by rfl) (hy : X.env.scope.names.lookup y = some .local := by rfl)
    (hw : swappedStores [.Tuple [.Name x px, .Name y py] kt pt] (.Tuple [a, b] k2 pt2) X.env = pure (some [x, y]) := by rfl)
    (hs : swapsWithSole [.Tuple [.Name x px, .Name y py] kt pt] (.Tuple [a, b] k2 pt2) pos.line X.env = pure false := by rfl) :
    DS X W (.Assign [.Tuple [.Name x px, .Name y py] kt pt] (.Tuple [a, b] k2 pt2) pos) (sPar i j fr) := (ps_par hc hN hi hj hij hx hy ha hw hs).to fun E σ H ⟨A, ρ, S, hv, hs, h⟩ =>
  SPost_of_exp (k := parK i j) hv hs h (fun _ => rfl) (fun _ _ _ => rfl) fun ds S1 A1 H1 vs g1 r1 hs1 he1 h1 => by
    unfold parK at h1
    dsimp only at h1
    split at h1
    · obtain ⟨v0, r0, rfl, p, w0, r1, rfl, p', q⟩ := r1
      have : r1 = [] := q
      subst this
      exact ⟨_, _, rfl, h1 A1 H1 _ (Gr.refl _ _) ((he1.set p i).set p' j) hs1⟩
    · exact h1.elim
def TwoP (ds : List D) (P : D → D → Prop) : Prop := match ds with
  | [d, e] => P d e
  | _ => False
@[simp] theorem twoP_two (d e : D) (P : D → D → Prop) : TwoP [d, e] P ↔ P d e := Iff.rfl
@[simp] theorem w_sPar {K : Kt} {ρ : Env} {S : Sto} {i j : Nat} {fr : FA} : WS (sPar i j fr ρ S) K ↔ WR (fr ρ S) (fun ds S1 => TwoP ds fun d e => K.nx ((ρ.set i (some d)).set j (some e)) S1) (fun x S1 => K.ex x ρ S1) := by
  unfold sPar parK
  cases fr ρ S with
  | ok ds S1 =>
    simp only [wr_ok]
    match ds with
    | [] => exact Iff.rfl
    | [_] => exact Iff.rfl
    | [_, _] => exact Iff.rfl
    | _ :: _ :: _ :: _ => exact Iff.rfl
  | exc x S1 => simp
  | bad => simp
end TD

set_option Elab.async false
set_option linter.all false
set_option maxRecDepth 100000
set_option maxHeartbeats 2000000
/-! TD35: states with weights, many steps; fractions. -/
namespace TD
theorem addL_congr {w : Nat} {N E E' : WM} (h : E = E') : addL w N E = addL w N E' := by rw [h]
theorem stepW_congr {E E' : List Int → WM} : ∀ {M N : WM}, (∀ p ∈ M, E p.1 = E' p.1) → stepW E N M = stepW E' N M
  | [], N, _ => rfl
  | p :: M, N, h => by
    show stepW E (addL p.2 N (E p.1)) M = stepW E' (addL p.2 N (E' p.1)) M
    rw [h p (by simp)]
    exact stepW_congr fun q hq => h q (by simp [hq])
theorem ks_wadd {M : WM} {k x : List Int} {v : Nat} (h : x ∈ ks (wadd M k v)) : x ∈ ks M ∨ x = k := by
  rw [ks_add] at h
  split at h
  · exact .inl h
  · rcases List.mem_append.mp h with z | z
    · exact .inl z
    · simp at z
      exact .inr z
theorem ks_addL {w : Nat} {x : List Int} : ∀ {E N : WM}, x ∈ ks (addL w N E) → x ∈ ks N ∨ x ∈ ks E
  | [], N, h => .inl h
  | q :: E, N, h => by
    rcases ks_addL (E := E) (N := wadd N q.1 (w * q.2)) h with z | z
    · rcases ks_wadd z with y | y
      · exact .inl y
      · exact .inr (by simp [ks, y])
    · exact .inr (by simp only [ks, List.map_cons, List.mem_cons]; exact .inr z)
theorem ks_stepW {E : List Int → WM} {x : List Int} : ∀ {M N : WM}, x ∈ ks (stepW E N M) → x ∈ ks N ∨ ∃ p ∈ M, x ∈ ks (E p.1)
  | [], N, h => .inl h
  | p :: M, N, h => by
    rcases ks_stepW (M := M) (N := addL p.2 N (E p.1)) h with z | ⟨q, hq, z⟩
    · rcases ks_addL z with y | y
      · exact .inl y
      · exact .inr ⟨p, by simp, y⟩
    · exact .inr ⟨q, by simp [hq], z⟩
section
variable {γ : Type} {E : γ → List Int → WM}
def runW (E : γ → List Int → WM) (M : WM) (row : List γ) : WM := row.foldl (fun M c => stepW (E c) [] M) M
def valW (E : γ → List Int → WM) : List γ → (List Int → Nat) → List Int → Nat
  | [], h => h
  | c :: r, h => fun s => wI (valW E r h) (E c s)
theorem step_ok {c : γ} {M : WM} (hE : ∀ c s, ∀ q ∈ E c s, 1 ≤ q.2) (h : WOk M) : WOk (stepW (E c) [] M) := stepW_ok WOk.nil h.pos fun p _ => hE c p.1
theorem runW_ok (hE : ∀ c s, ∀ q ∈ E c s, 1 ≤ q.2) : ∀ {row : List γ} {M : WM}, WOk M → WOk (runW E M row)
  | [], M, h => h
  | c :: r, M, h => runW_ok hE (row := r) (step_ok hE h)
theorem step_I (hE : ∀ c s, ∀ q ∈ E c s, 1 ≤ q.2) (h : List Int → Nat) {c : γ} {M : WM} (hM : WOk M) : wI h (stepW (E c) [] M) = wI (fun s => wI h (E c s)) M := by
  rw [stepW_I h WOk.nil hM.pos fun p _ => hE c p.1]
  simp [wI]
theorem runW_I (hE : ∀ c s, ∀ q ∈ E c s, 1 ≤ q.2) (h : List Int → Nat) : ∀ {row : List γ} {M : WM}, WOk M → wI h (runW E M row) = wI (valW E row h) M
  | [], M, _ => rfl
  | c :: r, M, hM => by
    show wI h (runW E (stepW (E c) [] M) r) = _
    rw [runW_I hE h (row := r) (step_ok hE hM), step_I hE _ hM]
    rfl
theorem one_ok (s : List Int) : WOk [(s, 1)] := ⟨by simp [ks], by simp⟩
/-- a row of two parts: mixed from each state behind the first part -/
theorem mix_I (hE : ∀ c s, ∀ q ∈ E c s, 1 ≤ q.2) (h : List Int → Nat) {r1 r2 : List γ} {M : WM} (hM : WOk M) :
    wI h (stepW (fun s => runW E [(s, 1)] r2) [] (runW E M r1)) = wI h (runW E M (r1 ++ r2)) := by
  have h1 := runW_ok hE (row := r1) hM
  rw [stepW_I h WOk.nil h1.pos fun p _ => (runW_ok hE (one_ok p.1)).pos]
  have : runW E M (r1 ++ r2) = runW E (runW E M r1) r2 := by simp [runW]
  rw [this, runW_I hE h h1]
  simp only [wI, Nat.zero_add]
  exact wI_congr fun p _ => by
    rw [runW_I hE h (one_ok p.1)]
    simp [wI]
theorem wI_const (c : Nat) : ∀ M : WM, wI (fun _ => c) M = c * wI (fun _ => 1) M
  | [] => by simp [wI]
  | p :: M => by
    simp only [wI]
    rw [wI_const c M, Nat.mul_add, Nat.mul_one, Nat.mul_comm c p.2]
theorem runW_mass (hE : ∀ c s, ∀ q ∈ E c s, 1 ≤ q.2) {P : List Int → Prop} {C : γ → Prop} (h16 : ∀ c s, C c → P s → wI (fun _ => 1) (E c s) = 16) (hP : ∀ c s, C c → P s → ∀ x ∈ ks (E c s), P x) : ∀ {row : List γ} {M : WM}, (∀ c ∈ row, C c) → WOk M → (∀ s ∈ ks M, P s) → wI (fun _ => 1) (runW E M row) = 16 ^ row.length * wI (fun _ => 1) M ∧ ∀ s ∈ ks (runW E M row), P s
  | [], M, _, _, hs => ⟨by simp [runW], hs⟩
  | c :: r, M, hc, hM, hs => by
    have hcc := hc c (by simp)
    have mem : ∀ p ∈ M, P p.1 := fun p hp => hs p.1 (List.mem_map.mpr ⟨p, hp, rfl⟩)
    obtain ⟨i1, i2⟩ := runW_mass hE h16 hP (row := r) (M := stepW (E c) [] M) (fun d hd => hc d (by simp [hd])) (step_ok hE hM) fun x hx => by
      rcases ks_stepW hx with z | ⟨p, hp, z⟩
      · simp [ks] at z
      · exact hP c p.1 hcc (mem p hp) x z
    refine ⟨?_, i2⟩
    show wI _ (runW E (stepW (E c) [] M) r) = _
    rw [i1, step_I hE _ hM, wI_congr (g := fun _ => 16) fun p hp => h16 c p.1 hcc (mem p hp), wI_const, List.length_cons, Nat.pow_succ, Nat.mul_assoc]
end
/-! a weight is no more than all -/
theorem le_mass : ∀ {M : WM} {p : List Int × Nat}, p ∈ M → p.2 ≤ wI (fun _ => 1) M
  | [], _, h => by cases h
  | q :: M, p, h => by
    simp only [wI]
    rcases List.mem_cons.mp h with z | z
    · subst z
      omega
    · have := le_mass z
      omega
/-! fractions -/
theorem red_ok {w t c j : Nat} (hw : 1 ≤ w) (hwt : w ≤ t) (ht : t = 2 ^ j) (hc : 1 ≤ c) : 1 ≤ w / Nat.gcd w t ∧ w / Nat.gcd w t ≤ c * t ∧ 1 ≤ t / Nat.gcd w t ∧ t / Nat.gcd w t ≤ c * t ∧ (w / Nat.gcd w t) * (c * t) = (c * w) * (t / Nat.gcd w t) ∧ (c * t) % (t / Nat.gcd w t) = 0 ∧ (t / Nat.gcd w t = 1 ∨ (w / Nat.gcd w t) % 2 = 1) ∧ (w / Nat.gcd w t) * ((c * t) / (t / Nat.gcd w t)) = c * w := by
  have hg : 0 < Nat.gcd w t := Nat.gcd_pos_of_pos_left _ hw
  have co : ∀ k, k ∣ w → k ∣ t → k ∣ Nat.gcd w t := fun k h1 h2 => Nat.dvd_gcd h1 h2
  have e1 := Nat.div_mul_cancel (Nat.gcd_dvd_left w t)
  have e2 := Nat.div_mul_cancel (Nat.gcd_dvd_right w t)
  generalize Nat.gcd w t = g at *
  generalize w / g = p at *
  generalize t / g = q at *
  have hp : 1 ≤ p := by
    rcases Nat.eq_zero_or_pos p with z | z
    · subst z; omega
    · exact z
  have hq : 1 ≤ q := by
    rcases Nat.eq_zero_or_pos q with z | z
    · subst z; omega
    · exact z
  have htc : t ≤ c * t := by
    have := Nat.mul_le_mul_right t hc
    omega
  have pw : p ≤ w := by rw [← e1]; exact Nat.le_mul_of_pos_right _ hg
  have qt : q ≤ t := by rw [← e2]; exact Nat.le_mul_of_pos_right _ hg
  have ct : c * t = (c * g) * q := by rw [← e2, Nat.mul_comm q g, Nat.mul_assoc]
  refine ⟨hp, by omega, hq, by omega, ?_, ?_, ?_, ?_⟩
  · rw [← e1, ← e2]
    simp only [Nat.mul_assoc, Nat.mul_comm, Nat.mul_left_comm]
  · rw [ct]
    exact Nat.mul_mod_left _ _
  · rcases Nat.mod_two_eq_zero_or_one q with z | z
    · refine .inr ?_
      rcases Nat.mod_two_eq_zero_or_one p with y | y
      · exfalso
        have k1 : 2 * g ∣ w := by rw [← e1]; exact Nat.mul_dvd_mul (Nat.dvd_of_mod_eq_zero y) (Nat.dvd_refl g)
        have k2 : 2 * g ∣ t := by rw [← e2]; exact Nat.mul_dvd_mul (Nat.dvd_of_mod_eq_zero z) (Nat.dvd_refl g)
        have := Nat.le_of_dvd hg (co _ k1 k2)
        omega
      · exact y
    · refine .inl ?_
      have d : q ∣ 2 ^ j := by
        rw [← ht, ← e2]
        exact Nat.dvd_mul_right _ _
      have k : Nat.Coprime q 2 := by
        unfold Nat.Coprime
        rw [Nat.gcd_comm, Nat.gcd_rec, z]
        decide
      exact Nat.Coprime.eq_one_of_dvd (Nat.Coprime.pow_right j k) d
  · rw [ct, Nat.mul_div_cancel _ hq, ← e1]
    simp only [Nat.mul_assoc, Nat.mul_comm, Nat.mul_left_comm]
/-! the divisor's loop -/
theorem gcd_step {a b : Nat} (h : b ≤ a) (hb : 1 ≤ b) {k : Nat} (hk : a * b < 2 ^ (k + 1)) : a % b ≤ b ∧ b * (a % b) < 2 ^ k := by
  have r1 := Nat.mod_lt a hb
  refine ⟨by omega, ?_⟩
  have e := Nat.div_add_mod a b
  have q1 : 1 ≤ a / b := Nat.div_pos h hb
  have : b ≤ b * (a / b) := Nat.le_mul_of_pos_right _ q1
  have r2 : 2 * (a % b) ≤ a := by omega
  have : b * (2 * (a % b)) ≤ b * a := Nat.mul_le_mul_left b r2
  rw [Nat.mul_left_comm, Nat.mul_comm b a] at this
  rw [Nat.pow_succ] at hk
  omega
end TD

set_option Elab.async false
set_option linter.all false
set_option maxRecDepth 100000
set_option maxHeartbeats 2000000
/-! TD36: a run keeps a state a state. -/
namespace TD
open PySem PySem.Spec PyProof.Rows L2
theorem StOk.put {sz st : List Int} {m : Nat} (hs : SzOk sz m) (h : StOk sz st) {c : Nat} (hc : c < m) (v : Int) : StOk sz (st.set c (v % sz.getD c 0)) := by
  refine ⟨by rw [List.length_set]; exact h.1, fun j hj => ?_⟩
  rw [getD_set (by rw [h.1, hs.1]; exact hc)]
  obtain ⟨h1, h2⟩ := hs.2 c hc
  split
  · rename_i e
    subst e
    exact ⟨Int.emod_nonneg v (by omega), Int.emod_lt_of_pos v (by omega)⟩
  · exact h.2 j hj
theorem iter_st {sz : List Int} {f : Vs → Option Int × Vs} (hf : ∀ s, StOk sz s.cells → StOk sz (f s).2.cells) : ∀ (n : Nat) (s : Vs), StOk sz s.cells → StOk sz (iter f n s).2.cells
  | 0, s, h => h
  | n + 1, s, h => by
    have k := hf s h
    unfold iter
    cases e : f s with
    | mk o s' =>
      rw [e] at k
      cases o with
      | none => exact iter_st hf n s' k
      | some a => exact k
mutual
theorem run_st {sz : List Int} {m : Nat} (hs : SzOk sz m) : ∀ (r : Rw) (d l : Nat) (s : Vs), r.G m d l → StOk sz s.cells → StOk sz (r.run sz s).2.cells
  | .read r c, d, l, s, g, h => by
    simp only [Rw.run]
    exact h
  | .set c e, d, l, s, g, h => by
    obtain ⟨g1, g2⟩ := (show c < m ∧ e.G by simpa [Rw.G] using g)
    simp only [Rw.run]
    exact h.put hs g1 _
  | .swap r c e f, d, l, s, g, h => by
    obtain ⟨g0, g1, g2, g3⟩ := (show r ≠ .x ∧ c < m ∧ e.G ∧ f.G by simpa [Rw.G] using g)
    simp only [Rw.run]
    by_cases hh : s.cells.getD c 0 = e.val s.held
    · simp only [hh, decide_true, if_true]
      exact h.put hs g1 _
    · simp only [hh, decide_false, Bool.false_eq_true, if_false]
      exact h
  | .keep r e, d, l, s, g, h => by
    simp only [Rw.run]
    exact h
  | .coin r, d, l, s, g, h => by
    simp only [Rw.run]
    cases e : s.falls with
    | nil => exact h
    | cons f fs => exact h
  | .ite e a b, d, l, s, g, h => by
    obtain ⟨g1, g2, g3, g4⟩ := (show e.G ∧ 0 < d ∧ GL m (d - 1) l a ∧ GL m (d - 1) l b by simpa [Rw.G] using g)
    simp only [Rw.run]
    split
    · exact runL_st hs b (d - 1) l s g4 h
    · exact runL_st hs a (d - 1) l s g3 h
  | .times e b, d, l, s, g, h => by
    obtain ⟨g1, g2, g3, g4⟩ := (show e.G ∧ 0 < d ∧ l < 2 ∧ GL m (d - 1) (l + 1) b by simpa [Rw.G] using g)
    simp only [Rw.run]
    exact iter_st (fun s h => runL_st hs b (d - 1) (l + 1) s g4 h) _ s h
  | .ans e, d, l, s, g, h => h
theorem runL_st {sz : List Int} {m : Nat} (hs : SzOk sz m) : ∀ (r : List Rw) (d l : Nat) (s : Vs), GL m d l r → StOk sz s.cells → StOk sz (runL sz r s).2.cells
  | [], d, l, s, g, h => h
  | r :: rs, d, l, s, g, h => by
    obtain ⟨g1, g2⟩ := (show r.G m d l ∧ GL m d l rs by simpa [GL] using g)
    have k := run_st hs r d l s g1 h
    simp only [runL]
    cases e : r.run sz s with
    | mk o s' =>
      rw [e] at k
      cases o with
      | none => exact runL_st hs rs d l s' g2 k
      | some a => exact k
end
end TD

set_option Elab.async false
set_option linter.all false
set_option maxRecDepth 100000
set_option maxHeartbeats 8000000
namespace K13
open PySem PySem.Spec PyProof.Rows L2 TD
def topS (i : Nat) : Stmt := PySem.Challenge.pw_traceless_k13_whole_shares_by_own_fracti.main.body.getD i (.Pass ⟨0, 0, 0, 0⟩)
def c_DEEPEST_EXPRESSION : D := .int 6
def c_DEEPEST_ROW : D := .int 12
def t_FORMS : List (Str × D) := [("read", .str "RC"), ("set", .str "CE"), ("swap", .str "RCEE"), ("keep", .str "RE"), ("coin", .str "R"), ("if", .str "EBB"), ("times", .str "EB"), ("answer", .str "E")]
def c_KEEPERS : D := .ktp [.str "a", .str "b", .str "c", .str "d"]
def c_LETTERS : D := .str "abcdefghijklmnopqrstuvwxyz"
def c_MOST_COINS : D := .int 4
def c_MOST_ROWS : D := .int 2000
def c_POWERS : D := .ktp [.int 1, .int 2, .int 4, .int 8, .int 16]
def c_REGISTERS : D := .ktp [.str "a", .str "b", .str "c", .str "d", .str "x"]
def c_SIGNS : D := .ktp [.str "+", .str "-", .str "*", .str "=", .str "<"]
abbrev s_is_integer : Stmt := (topS 17)
theorem bd_is_integer {K : PySem.W.Frag} {f : Addr} {fd : FuncData} (F : Fun K "is_integer" "is_integer" s_is_integer f fd) : Binds K fd ["thing"] [] := F.binds fun _ _ _ _ _ _ us hl => match us, hl with | [_], _ => rfl
theorem sc_is_integer : FnScope ["thing"] ["thing"] (defScope s_is_integer) := ⟨rfl, rfl, rfl, by decide +kernel, rfl, by decide +kernel, by decide +kernel⟩
abbrev s_good_cells : Stmt := (topS 21)
theorem bd_good_cells {K : PySem.W.Frag} {f : Addr} {fd : FuncData} (F : Fun K "good_cells" "good_cells" s_good_cells f fd) : Binds K fd ["thing"] [] := F.binds fun _ _ _ _ _ _ us hl => match us, hl with | [_], _ => rfl
theorem sc_good_cells : FnScope ["thing", "cell"] ["thing"] (defScope s_good_cells) := ⟨rfl, rfl, rfl, by decide +kernel, rfl, by decide +kernel, by decide +kernel⟩
abbrev s_Body___init__ : Stmt := (inClass (topS 20) 0)
theorem bd_Body___init__ {K : PySem.W.Frag} {f : Addr} {fd : FuncData} (F : Fun K "__init__" "Body.__init__" s_Body___init__ f fd) : Binds K fd ["self", "many_cells"] [] := F.binds fun _ _ _ _ _ _ us hl => match us, hl with | [_, _], _ => rfl
theorem sc_Body___init__ : FnScope ["self", "many_cells"] ["self", "many_cells"] (defScope s_Body___init__) := ⟨rfl, rfl, rfl, by decide +kernel, rfl, by decide +kernel, by decide +kernel⟩
abbrev s_is_expression : Stmt := (topS 19)
theorem bdd_is_expression_0 {K : PySem.W.Frag} {f : Addr} {fd : FuncData} (F : FunD K "is_expression" "is_expression" (defArgs s_is_expression) (defBody s_is_expression) (defScope s_is_expression) [.int 6] [] f fd) : BndD K fd ["thing", "depth"] [] := F.binds1 2 1 (by simp) rfl fun _ _ _ _ _ _ _ us ds h1 h2 => match us, ds, h1, h2 with | [_, _], [_], _, _ => ⟨_, rfl, rfl⟩
theorem bdd_is_expression_1 {K : PySem.W.Frag} {f : Addr} {fd : FuncData} (F : FunD K "is_expression" "is_expression" (defArgs s_is_expression) (defBody s_is_expression) (defScope s_is_expression) [.int 6] [] f fd) : BndD K fd ["thing", "depth"] [.int 6] := F.binds1 1 0 (by simp) rfl fun _ _ _ _ _ _ _ us ds h1 h2 => match us, ds, h1, h2 with | [_], [_], _, _ => ⟨_, rfl, rfl⟩
theorem bd_is_expression {K : PySem.W.Frag} {f : Addr} {fd : FuncData} (F : FunD K "is_expression" "is_expression" (defArgs s_is_expression) (defBody s_is_expression) (defScope s_is_expression) [.int 6] [] f fd) : Binds K fd ["thing", "depth"] [] := (bdd_is_expression_0 F).all
theorem sc_is_expression : FnScope ["thing", "depth"] ["thing", "depth"] (defScope s_is_expression) := ⟨rfl, rfl, rfl, by decide +kernel, rfl, by decide +kernel, by decide +kernel⟩
abbrev s_Body_good_part : Stmt := (inClass (topS 20) 3)
theorem bd_Body_good_part {K : PySem.W.Frag} {f : Addr} {fd : FuncData} (F : Fun K "good_part" "Body.good_part" s_Body_good_part f fd) : Binds K fd ["self", "sort", "part", "depth", "loops"] [] := F.binds fun _ _ _ _ _ _ us hl => match us, hl with | [_, _, _, _, _], _ => rfl
theorem sc_Body_good_part : FnScope ["self", "sort", "part", "depth", "loops"] ["self", "sort", "part", "depth", "loops"] (defScope s_Body_good_part) := ⟨rfl, rfl, rfl, by decide +kernel, rfl, by decide +kernel, by decide +kernel⟩
abbrev s_Body_good_row : Stmt := (inClass (topS 20) 2)
theorem bd_Body_good_row {K : PySem.W.Frag} {f : Addr} {fd : FuncData} (F : Fun K "good_row" "Body.good_row" s_Body_good_row f fd) : Binds K fd ["self", "row", "depth", "loops"] [] := F.binds fun _ _ _ _ _ _ us hl => match us, hl with | [_, _, _, _], _ => rfl
theorem sc_Body_good_row : FnScope ["self", "row", "depth", "loops", "sort", "part"] ["self", "row", "depth", "loops"] (defScope s_Body_good_row) := ⟨rfl, rfl, rfl, by decide +kernel, rfl, by decide +kernel, by decide +kernel⟩
abbrev s_Body_good_rows : Stmt := (inClass (topS 20) 1)
theorem bd_Body_good_rows {K : PySem.W.Frag} {f : Addr} {fd : FuncData} (F : Fun K "good_rows" "Body.good_rows" s_Body_good_rows f fd) : Binds K fd ["self", "thing", "depth", "loops"] [] := F.binds fun _ _ _ _ _ _ us hl => match us, hl with | [_, _, _, _], _ => rfl
theorem sc_Body_good_rows : FnScope ["self", "thing", "depth", "loops", "row"] ["self", "thing", "depth", "loops"] (defScope s_Body_good_rows) := ⟨rfl, rfl, rfl, by decide +kernel, rfl, by decide +kernel, by decide +kernel⟩
abbrev s_is_name : Stmt := (topS 18)
theorem bd_is_name {K : PySem.W.Frag} {f : Addr} {fd : FuncData} (F : Fun K "is_name" "is_name" s_is_name f fd) : Binds K fd ["thing"] [] := F.binds fun _ _ _ _ _ _ us hl => match us, hl with | [_], _ => rfl
theorem sc_is_name : FnScope ["thing", "letter"] ["thing"] (defScope s_is_name) := ⟨rfl, rfl, rfl, by decide +kernel, rfl, by decide +kernel, by decide +kernel⟩
abbrev s_good_heads : Stmt := (topS 22)
theorem bd_good_heads {K : PySem.W.Frag} {f : Addr} {fd : FuncData} (F : Fun K "good_heads" "good_heads" s_good_heads f fd) : Binds K fd ["thing", "width"] [] := F.binds fun _ _ _ _ _ _ us hl => match us, hl with | [_, _], _ => rfl
theorem sc_good_heads : FnScope ["thing", "width", "seen", "deed"] ["thing", "width"] (defScope s_good_heads) := ⟨rfl, rfl, rfl, by decide +kernel, rfl, by decide +kernel, by decide +kernel⟩
abbrev s_good_deeds : Stmt := (topS 23)
theorem bd_good_deeds {K : PySem.W.Frag} {f : Addr} {fd : FuncData} (F : Fun K "good_deeds" "good_deeds" s_good_deeds f fd) : Binds K fd ["thing", "many_cells"] [] := F.binds fun _ _ _ _ _ _ us hl => match us, hl with | [_, _], _ => rfl
theorem sc_good_deeds : FnScope ["thing", "many_cells", "deed", "body"] ["thing", "many_cells"] (defScope s_good_deeds) := ⟨rfl, rfl, rfl, by decide +kernel, rfl, by decide +kernel, by decide +kernel⟩
abbrev s_has_coin : Stmt := (topS 24)
theorem bd_has_coin {K : PySem.W.Frag} {f : Addr} {fd : FuncData} (F : Fun K "has_coin" "has_coin" s_has_coin f fd) : Binds K fd ["rows"] [] := F.binds fun _ _ _ _ _ _ us hl => match us, hl with | [_], _ => rfl
theorem sc_has_coin : FnScope ["rows", "row"] ["rows"] (defScope s_has_coin) := ⟨rfl, rfl, rfl, by decide +kernel, rfl, by decide +kernel, by decide +kernel⟩
abbrev s_Vault___init__ : Stmt := (inClass (topS 42) 0)
theorem bd_Vault___init__ {K : PySem.W.Frag} {f : Addr} {fd : FuncData} (F : Fun K "__init__" "Vault.__init__" s_Vault___init__ f fd) : Binds K fd ["self", "cells", "deeds"] [] := F.binds fun _ _ _ _ _ _ us hl => match us, hl with | [_, _, _], _ => rfl
theorem sc_Vault___init__ : FnScope ["self", "cells", "deeds", "cell", "deed"] ["self", "cells", "deeds"] (defScope s_Vault___init__) := ⟨rfl, rfl, rfl, by decide +kernel, rfl, by decide +kernel, by decide +kernel⟩
abbrev s_law_calls : Stmt := (topS 52)
theorem bd_law_calls {K : PySem.W.Frag} {f : Addr} {fd : FuncData} (F : Fun K "_law_calls" "_law_calls" s_law_calls f fd) : Binds K fd ["deeds"] [] := F.binds fun _ _ _ _ _ _ us hl => match us, hl with | [_], _ => rfl
theorem sc_law_calls : FnScope ["deeds", "calls", "deed", "argument"] ["deeds"] (defScope s_law_calls) := ⟨rfl, rfl, rfl, by decide +kernel, rfl, by decide +kernel, by decide +kernel⟩
abbrev s_law_draw : Stmt := (topS 46)
theorem bd_law_draw {K : PySem.W.Frag} {f : Addr} {fd : FuncData} (F : Fun K "_law_draw" "_law_draw" s_law_draw f fd) : Binds K fd ["pool", "many"] [] := F.binds fun _ _ _ _ _ _ us hl => match us, hl with | [_, _], _ => rfl
theorem sc_law_draw : FnScope ["pool", "many", "digit", "number"] ["pool", "many"] (defScope s_law_draw) := ⟨rfl, rfl, rfl, by decide +kernel, rfl, by decide +kernel, by decide +kernel⟩
abbrev s_law_cells : Stmt := (topS 47)
theorem bd_law_cells {K : PySem.W.Frag} {f : Addr} {fd : FuncData} (F : Fun K "_law_cells" "_law_cells" s_law_cells f fd) : Binds K fd ["pool"] [] := F.binds fun _ _ _ _ _ _ us hl => match us, hl with | [_], _ => rfl
theorem sc_law_cells : FnScope ["pool", "many", "cells", "k", "size"] ["pool"] (defScope s_law_cells) := ⟨rfl, rfl, rfl, by decide +kernel, rfl, by decide +kernel, by decide +kernel⟩
abbrev s_law_e : Stmt := (topS 48)
theorem bd_law_e {K : PySem.W.Frag} {f : Addr} {fd : FuncData} (F : Fun K "_law_e" "_law_e" s_law_e f fd) : Binds K fd ["pool", "depth"] [] := F.binds fun _ _ _ _ _ _ us hl => match us, hl with | [_, _], _ => rfl
theorem sc_law_e : FnScope ["pool", "depth", "kind", "sign", "left"] ["pool", "depth"] (defScope s_law_e) := ⟨rfl, rfl, rfl, by decide +kernel, rfl, by decide +kernel, by decide +kernel⟩
abbrev s_law_rows : Stmt := (topS 49)
theorem bd_law_rows {K : PySem.W.Frag} {f : Addr} {fd : FuncData} (F : Fun K "_law_rows" "_law_rows" s_law_rows f fd) : Binds K fd ["pool", "many", "depth", "loops", "budget"] [] := F.binds fun _ _ _ _ _ _ us hl => match us, hl with | [_, _, _, _, _], _ => rfl
theorem sc_law_rows : FnScope ["pool", "many", "depth", "loops", "budget", "rows", "turn", "kind", "cell", "reg", "e", "first", "count"] ["pool", "many", "depth", "loops", "budget"] (defScope s_law_rows) := ⟨rfl, rfl, rfl, by decide +kernel, rfl, by decide +kernel, by decide +kernel⟩
abbrev s_law_coin_tree : Stmt := (topS 60)
theorem bd_law_coin_tree {K : PySem.W.Frag} {f : Addr} {fd : FuncData} (F : Fun K "_law_coin_tree" "_law_coin_tree" s_law_coin_tree f fd) : Binds K fd ["pool", "many", "deep", "left"] [] := F.binds fun _ _ _ _ _ _ us hl => match us, hl with | [_, _, _, _], _ => rfl
theorem sc_law_coin_tree : FnScope ["pool", "many", "deep", "left", "rows", "reg", "test", "hidden", "first", "second"] ["pool", "many", "deep", "left"] (defScope s_law_coin_tree) := ⟨rfl, rfl, rfl, by decide +kernel, rfl, by decide +kernel, by decide +kernel⟩
abbrev s_law_body : Stmt := (topS 50)
theorem bd_law_body {K : PySem.W.Frag} {f : Addr} {fd : FuncData} (F : Fun K "_law_body" "_law_body" s_law_body f fd) : Binds K fd ["pool", "many", "coins"] [] := F.binds fun _ _ _ _ _ _ us hl => match us, hl with | [_, _, _], _ => rfl
theorem sc_law_body : FnScope ["pool", "many", "coins", "kind", "c", "d", "e", "stop"] ["pool", "many", "coins"] (defScope s_law_body) := ⟨rfl, rfl, rfl, by decide +kernel, rfl, by decide +kernel, by decide +kernel⟩
abbrev s_law_deeds : Stmt := (topS 51)
theorem bd_law_deeds {K : PySem.W.Frag} {f : Addr} {fd : FuncData} (F : Fun K "_law_deeds" "_law_deeds" s_law_deeds f fd) : Binds K fd ["pool", "many", "coins"] [] := F.binds fun _ _ _ _ _ _ us hl => match us, hl with | [_, _, _], _ => rfl
theorem sc_law_deeds : FnScope ["pool", "many", "coins", "letters", "deeds", "k", "name", "choices", "turn"] ["pool", "many", "coins"] (defScope s_law_deeds) := ⟨rfl, rfl, rfl, by decide +kernel, rfl, by decide +kernel, by decide +kernel⟩
abbrev s_law_coin_vault : Stmt := (topS 61)
theorem bd_law_coin_vault {K : PySem.W.Frag} {f : Addr} {fd : FuncData} (F : Fun K "_law_coin_vault" "_law_coin_vault" s_law_coin_vault f fd) : Binds K fd ["pool", "cells"] [] := F.binds fun _ _ _ _ _ _ us hl => match us, hl with | [_, _], _ => rfl
theorem sc_law_coin_vault : FnScope ["pool", "cells", "deeds", "at", "rows"] ["pool", "cells"] (defScope s_law_coin_vault) := ⟨rfl, rfl, rfl, by decide +kernel, rfl, by decide +kernel, by decide +kernel⟩
abbrev s_is_state_of : Stmt := (topS 26)
theorem bd_is_state_of {K : PySem.W.Frag} {f : Addr} {fd : FuncData} (F : Fun K "is_state_of" "is_state_of" s_is_state_of f fd) : Binds K fd ["sizes", "thing"] [] := F.binds fun _ _ _ _ _ _ us hl => match us, hl with | [_, _], _ => rfl
theorem sc_is_state_of : FnScope ["sizes", "thing", "size", "held"] ["sizes", "thing"] (defScope s_is_state_of) := ⟨rfl, rfl, rfl, by decide +kernel, rfl, by decide +kernel, by decide +kernel⟩
abbrev s_is_state : Stmt := (topS 27)
theorem bd_is_state {K : PySem.W.Frag} {f : Addr} {fd : FuncData} (F : Fun K "is_state" "is_state" s_is_state f fd) : Binds K fd ["vault", "thing"] [] := F.binds fun _ _ _ _ _ _ us hl => match us, hl with | [_, _], _ => rfl
theorem sc_is_state : FnScope ["vault", "thing"] ["vault", "thing"] (defScope s_is_state) := ⟨rfl, rfl, rfl, by decide +kernel, rfl, by decide +kernel, by decide +kernel⟩
abbrev s_check_state : Stmt := (topS 30)
theorem bd_check_state {K : PySem.W.Frag} {f : Addr} {fd : FuncData} (F : Fun K "check_state" "check_state" s_check_state f fd) : Binds K fd ["vault", "thing"] [] := F.binds fun _ _ _ _ _ _ us hl => match us, hl with | [_, _], _ => rfl
theorem sc_check_state : FnScope ["vault", "thing"] ["vault", "thing"] (defScope s_check_state) := ⟨rfl, rfl, rfl, by decide +kernel, rfl, by decide +kernel, by decide +kernel⟩
abbrev s_begun : Stmt := (topS 43)
theorem bd_begun {K : PySem.W.Frag} {f : Addr} {fd : FuncData} (F : Fun K "begun" "begun" s_begun f fd) : Binds K fd ["vault", "state"] [] := F.binds fun _ _ _ _ _ _ us hl => match us, hl with | [_, _], _ => rfl
theorem sc_begun : FnScope ["vault", "state", "cells", "held", "size"] ["vault", "state"] (defScope s_begun) := ⟨rfl, rfl, rfl, by decide +kernel, rfl, by decide +kernel, by decide +kernel⟩
abbrev s_is_call : Stmt := (topS 28)
theorem bd_is_call {K : PySem.W.Frag} {f : Addr} {fd : FuncData} (F : Fun K "is_call" "is_call" s_is_call f fd) : Binds K fd ["vault", "thing"] [] := F.binds fun _ _ _ _ _ _ us hl => match us, hl with | [_, _], _ => rfl
theorem sc_is_call : FnScope ["vault", "thing"] ["vault", "thing"] (defScope s_is_call) := ⟨rfl, rfl, rfl, by decide +kernel, rfl, by decide +kernel, by decide +kernel⟩
abbrev s_row_fault : Stmt := (topS 29)
theorem bd_row_fault {K : PySem.W.Frag} {f : Addr} {fd : FuncData} (F : Fun K "row_fault" "row_fault" s_row_fault f fd) : Binds K fd ["vault", "thing"] [] := F.binds fun _ _ _ _ _ _ us hl => match us, hl with | [_, _], _ => rfl
theorem sc_row_fault : FnScope ["vault", "thing", "at", "item"] ["vault", "thing"] (defScope s_row_fault) := ⟨rfl, rfl, rfl, by decide +kernel, rfl, by decide +kernel, by decide +kernel⟩
abbrev s_check_row : Stmt := (topS 31)
theorem bd_check_row {K : PySem.W.Frag} {f : Addr} {fd : FuncData} (F : Fun K "check_row" "check_row" s_check_row f fd) : Binds K fd ["vault", "thing"] [] := F.binds fun _ _ _ _ _ _ us hl => match us, hl with | [_, _], _ => rfl
theorem sc_check_row : FnScope ["vault", "thing", "fault"] ["vault", "thing"] (defScope s_check_row) := ⟨rfl, rfl, rfl, by decide +kernel, rfl, by decide +kernel, by decide +kernel⟩
abbrev s_common_divisor : Stmt := (topS 37)
theorem bd_common_divisor {K : PySem.W.Frag} {f : Addr} {fd : FuncData} (F : Fun K "common_divisor" "common_divisor" s_common_divisor f fd) : Binds K fd ["one", "other"] [] := F.binds fun _ _ _ _ _ _ us hl => match us, hl with | [_, _], _ => rfl
theorem sc_common_divisor : FnScope ["one", "other"] ["one", "other"] (defScope s_common_divisor) := ⟨rfl, rfl, rfl, by decide +kernel, rfl, by decide +kernel, by decide +kernel⟩
abbrev s_reduced : Stmt := (topS 38)
theorem bd_reduced {K : PySem.W.Frag} {f : Addr} {fd : FuncData} (F : Fun K "reduced" "reduced" s_reduced f fd) : Binds K fd ["weight", "total"] [] := F.binds fun _ _ _ _ _ _ us hl => match us, hl with | [_, _], _ => rfl
theorem sc_reduced : FnScope ["weight", "total", "divisor"] ["weight", "total"] (defScope s_reduced) := ⟨rfl, rfl, rfl, by decide +kernel, rfl, by decide +kernel, by decide +kernel⟩
abbrev s_Walk_do_coin : Stmt := (inClass (topS 35) 4)
theorem bd_Walk_do_coin {K : PySem.W.Frag} {f : Addr} {fd : FuncData} (F : Fun K "do_coin" "Walk.do_coin" s_Walk_do_coin f fd) : Binds K fd ["self", "keeper"] [] := F.binds fun _ _ _ _ _ _ us hl => match us, hl with | [_, _], _ => rfl
theorem sc_Walk_do_coin : FnScope ["self", "keeper"] ["self", "keeper"] (defScope s_Walk_do_coin) := ⟨rfl, rfl, rfl, by decide +kernel, rfl, by decide +kernel, by decide +kernel⟩
abbrev s_value : Stmt := (topS 34)
theorem bd_value {K : PySem.W.Frag} {f : Addr} {fd : FuncData} (F : Fun K "value" "value" s_value f fd) : Binds K fd ["e", "held"] [] := F.binds fun _ _ _ _ _ _ us hl => match us, hl with | [_, _], _ => rfl
theorem sc_value : FnScope ["e", "held", "left", "right"] ["e", "held"] (defScope s_value) := ⟨rfl, rfl, rfl, by decide +kernel, rfl, by decide +kernel, by decide +kernel⟩
abbrev s_Walk_do_step : Stmt := (inClass (topS 35) 5)
theorem bd_Walk_do_step {K : PySem.W.Frag} {f : Addr} {fd : FuncData} (F : Fun K "do_step" "Walk.do_step" s_Walk_do_step f fd) : Binds K fd ["self", "row"] [] := F.binds fun _ _ _ _ _ _ us hl => match us, hl with | [_, _], _ => rfl
theorem sc_Walk_do_step : FnScope ["self", "row", "cell", "came", "old", "new"] ["self", "row"] (defScope s_Walk_do_step) := ⟨rfl, rfl, rfl, by decide +kernel, rfl, by decide +kernel, by decide +kernel⟩
abbrev s_Walk_do_times : Stmt := (inClass (topS 35) 3)
theorem bd_Walk_do_times {K : PySem.W.Frag} {f : Addr} {fd : FuncData} (F : Fun K "do_times" "Walk.do_times" s_Walk_do_times f fd) : Binds K fd ["self", "many", "rows"] [] := F.binds fun _ _ _ _ _ _ us hl => match us, hl with | [_, _, _], _ => rfl
theorem sc_Walk_do_times : FnScope ["self", "many", "rows", "turn", "result"] ["self", "many", "rows"] (defScope s_Walk_do_times) := ⟨rfl, rfl, rfl, by decide +kernel, rfl, by decide +kernel, by decide +kernel⟩
abbrev s_Walk_do_row : Stmt := (inClass (topS 35) 2)
theorem bd_Walk_do_row {K : PySem.W.Frag} {f : Addr} {fd : FuncData} (F : Fun K "do_row" "Walk.do_row" s_Walk_do_row f fd) : Binds K fd ["self", "row"] [] := F.binds fun _ _ _ _ _ _ us hl => match us, hl with | [_, _], _ => rfl
theorem sc_Walk_do_row : FnScope ["self", "row"] ["self", "row"] (defScope s_Walk_do_row) := ⟨rfl, rfl, rfl, by decide +kernel, rfl, by decide +kernel, by decide +kernel⟩
abbrev s_Walk_do_rows : Stmt := (inClass (topS 35) 1)
theorem bd_Walk_do_rows {K : PySem.W.Frag} {f : Addr} {fd : FuncData} (F : Fun K "do_rows" "Walk.do_rows" s_Walk_do_rows f fd) : Binds K fd ["self", "rows"] [] := F.binds fun _ _ _ _ _ _ us hl => match us, hl with | [_, _], _ => rfl
theorem sc_Walk_do_rows : FnScope ["self", "rows", "row", "result"] ["self", "rows"] (defScope s_Walk_do_rows) := ⟨rfl, rfl, rfl, by decide +kernel, rfl, by decide +kernel, by decide +kernel⟩
abbrev s_Walk___init__ : Stmt := (inClass (topS 35) 0)
theorem bd_Walk___init__ {K : PySem.W.Frag} {f : Addr} {fd : FuncData} (F : Fun K "__init__" "Walk.__init__" s_Walk___init__ f fd) : Binds K fd ["self", "vault", "state", "call", "coins"] [] := F.binds fun _ _ _ _ _ _ us hl => match us, hl with | [_, _, _, _, _], _ => rfl
theorem sc_Walk___init__ : FnScope ["self", "vault", "state", "call", "coins"] ["self", "vault", "state", "call", "coins"] (defScope s_Walk___init__) := ⟨rfl, rfl, rfl, by decide +kernel, rfl, by decide +kernel, by decide +kernel⟩
abbrev s_outcomes_of : Stmt := (topS 36)
theorem bd_outcomes_of {K : PySem.W.Frag} {f : Addr} {fd : FuncData} (F : Fun K "outcomes_of" "outcomes_of" s_outcomes_of f fd) : Binds K fd ["vault", "state", "call"] [] := F.binds fun _ _ _ _ _ _ us hl => match us, hl with | [_, _, _], _ => rfl
theorem sc_outcomes_of : FnScope ["vault", "state", "call", "done", "waiting", "coins", "walk"] ["vault", "state", "call"] (defScope s_outcomes_of) := ⟨rfl, rfl, rfl, by decide +kernel, rfl, by decide +kernel, by decide +kernel⟩
abbrev s_spread : Stmt := (topS 39)
theorem bd_spread {K : PySem.W.Frag} {f : Addr} {fd : FuncData} (F : Fun K "spread" "spread" s_spread f fd) : Binds K fd ["vault", "weights", "call"] [] := F.binds fun _ _ _ _ _ _ us hl => match us, hl with | [_, _, _], _ => rfl
theorem sc_spread : FnScope ["vault", "weights", "call", "ends", "deepest", "behind", "state", "coins", "answer", "after", "end"] ["vault", "weights", "call"] (defScope s_spread) := ⟨rfl, rfl, rfl, by decide +kernel, rfl, by decide +kernel, by decide +kernel⟩
abbrev s_share : Stmt := (topS 40)
theorem bd_share {K : PySem.W.Frag} {f : Addr} {fd : FuncData} (F : Fun K "share" "share" s_share f fd) : Binds K fd ["vault", "row"] [] := F.binds fun _ _ _ _ _ _ us hl => match us, hl with | [_, _], _ => rfl
theorem sc_share : FnScope ["vault", "row", "weights", "total", "call", "grown", "state"] ["vault", "row"] (defScope s_share) := ⟨rfl, rfl, rfl, by decide +kernel, rfl, by decide +kernel, by decide +kernel⟩
abbrev s_law_mixed : Stmt := (topS 66)
theorem bd_law_mixed {K : PySem.W.Frag} {f : Addr} {fd : FuncData} (F : Fun K "_law_mixed" "_law_mixed" s_law_mixed f fd) : Binds K fd ["vault", "first", "second", "total"] [] := F.binds fun _ _ _ _ _ _ us hl => match us, hl with | [_, _, _, _], _ => rfl
theorem sc_law_mixed : FnScope ["vault", "first", "second", "total", "mixed", "ahead", "state", "weight", "behind", "after"] ["vault", "first", "second", "total"] (defScope s_law_mixed) := ⟨rfl, rfl, rfl, by decide +kernel, rfl, by decide +kernel, by decide +kernel⟩
abbrev s_law_pool : Stmt := (topS 45)
theorem bd_law_pool {K : PySem.W.Frag} {f : Addr} {fd : FuncData} (F : Fun K "_law_pool" "_law_pool" s_law_pool f fd) : Binds K fd ["script", "k"] [] := F.binds fun _ _ _ _ _ _ us hl => match us, hl with | [_, _], _ => rfl
theorem sc_law_pool : FnScope ["script", "k", "cell", "seed"] ["script", "k"] (defScope s_law_pool) := ⟨rfl, rfl, rfl, by decide +kernel, rfl, by decide +kernel, by decide +kernel⟩
abbrev s_law_good_int : Stmt := (topS 59)
theorem bd_law_good_int {K : PySem.W.Frag} {f : Addr} {fd : FuncData} (F : Fun K "_law_good_int" "_law_good_int" s_law_good_int f fd) : Binds K fd ["thing", "least", "greatest"] [] := F.binds fun _ _ _ _ _ _ us hl => match us, hl with | [_, _, _], _ => rfl
theorem sc_law_good_int : FnScope ["thing", "least", "greatest"] ["thing", "least", "greatest"] (defScope s_law_good_int) := ⟨rfl, rfl, rfl, by decide +kernel, rfl, by decide +kernel, by decide +kernel⟩
abbrev s_law_fraction : Stmt := (topS 63)
theorem bd_law_fraction {K : PySem.W.Frag} {f : Addr} {fd : FuncData} (F : Fun K "_law_fraction" "_law_fraction" s_law_fraction f fd) : Binds K fd ["told", "weight", "total"] [] := F.binds fun _ _ _ _ _ _ us hl => match us, hl with | [_, _, _], _ => rfl
theorem sc_law_fraction : FnScope ["told", "weight", "total"] ["told", "weight", "total"] (defScope s_law_fraction) := ⟨rfl, rfl, rfl, by decide +kernel, rfl, by decide +kernel, by decide +kernel⟩
abbrev s_law_good_ints : Stmt := (topS 65)
theorem bd_law_good_ints {K : PySem.W.Frag} {f : Addr} {fd : FuncData} (F : Fun K "_law_good_ints" "_law_good_ints" s_law_good_ints f fd) : Binds K fd ["state"] [] := F.binds fun _ _ _ _ _ _ us hl => match us, hl with | [_], _ => rfl
theorem sc_law_good_ints : FnScope ["state", "held"] ["state"] (defScope s_law_good_ints) := ⟨rfl, rfl, rfl, by decide +kernel, rfl, by decide +kernel, by decide +kernel⟩
abbrev s_law_right : Stmt := (topS 64)
theorem bd_law_right {K : PySem.W.Frag} {f : Addr} {fd : FuncData} (F : Fun K "_law_right" "_law_right" s_law_right f fd) : Binds K fd ["told", "now", "total"] [] := F.binds fun _ _ _ _ _ _ us hl => match us, hl with | [_, _, _], _ => rfl
theorem sc_law_right : FnScope ["told", "now", "total", "state"] ["told", "now", "total"] (defScope s_law_right) := ⟨rfl, rfl, rfl, by decide +kernel, rfl, by decide +kernel, by decide +kernel⟩
abbrev s_law_row : Stmt := (topS 53)
theorem bd_law_row {K : PySem.W.Frag} {f : Addr} {fd : FuncData} (F : Fun K "_law_row" "_law_row" s_law_row f fd) : Binds K fd ["pool", "calls", "longest"] [] := F.binds fun _ _ _ _ _ _ us hl => match us, hl with | [_, _, _], _ => rfl
theorem sc_law_row : FnScope ["pool", "calls", "longest", "row", "turn"] ["pool", "calls", "longest"] (defScope s_law_row) := ⟨rfl, rfl, rfl, by decide +kernel, rfl, by decide +kernel, by decide +kernel⟩
abbrev s_law_value : Stmt := (topS 54)
theorem bd_law_value {K : PySem.W.Frag} {f : Addr} {fd : FuncData} (F : Fun K "_law_value" "_law_value" s_law_value f fd) : Binds K fd ["e", "held"] [] := F.binds fun _ _ _ _ _ _ us hl => match us, hl with | [_, _], _ => rfl
theorem sc_law_value : FnScope ["e", "held", "one", "two"] ["e", "held"] (defScope s_law_value) := ⟨rfl, rfl, rfl, by decide +kernel, rfl, by decide +kernel, by decide +kernel⟩
abbrev s_law_step : Stmt := (topS 55)
theorem bd_law_step {K : PySem.W.Frag} {f : Addr} {fd : FuncData} (F : Fun K "_law_step" "_law_step" s_law_step f fd) : Binds K fd ["row", "sizes", "cells", "held", "trace"] [] := F.binds fun _ _ _ _ _ _ us hl => match us, hl with | [_, _, _, _, _], _ => rfl
theorem sc_law_step : FnScope ["row", "sizes", "cells", "held", "trace", "one", "two", "hit"] ["row", "sizes", "cells", "held", "trace"] (defScope s_law_step) := ⟨rfl, rfl, rfl, by decide +kernel, rfl, by decide +kernel, by decide +kernel⟩
abbrev s_law_do : Stmt := (topS 56)
theorem bd_law_do {K : PySem.W.Frag} {f : Addr} {fd : FuncData} (F : Fun K "_law_do" "_law_do" s_law_do f fd) : Binds K fd ["rows", "sizes", "cells", "held", "falls", "trace"] [] := F.binds fun _ _ _ _ _ _ us hl => match us, hl with | [_, _, _, _, _, _], _ => rfl
theorem sc_law_do : FnScope ["rows", "sizes", "cells", "held", "falls", "trace", "row", "answer", "turn"] ["rows", "sizes", "cells", "held", "falls", "trace"] (defScope s_law_do) := ⟨rfl, rfl, rfl, by decide +kernel, rfl, by decide +kernel, by decide +kernel⟩
abbrev s_law_call : Stmt := (topS 57)
theorem bd_law_call {K : PySem.W.Frag} {f : Addr} {fd : FuncData} (F : Fun K "_law_call" "_law_call" s_law_call f fd) : Binds K fd ["cells", "deeds", "state", "call", "falls"] [] := F.binds fun _ _ _ _ _ _ us hl => match us, hl with | [_, _, _, _, _], _ => rfl
theorem sc_law_call : FnScope ["cells", "deeds", "state", "call", "falls", "sizes", "rows", "held", "now", "left", "trace", "answer", "cell", "deed"] ["cells", "deeds", "state", "call", "falls"] (defScope s_law_call) := ⟨rfl, rfl, rfl, by decide +kernel, rfl, by decide +kernel, by decide +kernel⟩
abbrev s_law_outs : Stmt := (topS 58)
theorem bd_law_outs {K : PySem.W.Frag} {f : Addr} {fd : FuncData} (F : Fun K "_law_outs" "_law_outs" s_law_outs f fd) : Binds K fd ["cells", "deeds", "state", "call"] [] := F.binds fun _ _ _ _ _ _ us hl => match us, hl with | [_, _, _, _], _ => rfl
theorem sc_law_outs : FnScope ["cells", "deeds", "state", "call", "outs", "todo", "turn", "falls", "came"] ["cells", "deeds", "state", "call"] (defScope s_law_outs) := ⟨rfl, rfl, rfl, by decide +kernel, rfl, by decide +kernel, by decide +kernel⟩
abbrev s_law_weights : Stmt := (topS 62)
theorem bd_law_weights {K : PySem.W.Frag} {f : Addr} {fd : FuncData} (F : Fun K "_law_weights" "_law_weights" s_law_weights f fd) : Binds K fd ["cells", "deeds", "row"] [] := F.binds fun _ _ _ _ _ _ us hl => match us, hl with | [_, _, _], _ => rfl
theorem sc_law_weights : FnScope ["cells", "deeds", "row", "first", "now", "total", "call", "behind", "state", "falls", "answer", "after", "cell"] ["cells", "deeds", "row"] (defScope s_law_weights) := ⟨rfl, rfl, rfl, by decide +kernel, rfl, by decide +kernel, by decide +kernel⟩
abbrev s_law : Stmt := (topS 67)
theorem bd_law {K : PySem.W.Frag} {f : Addr} {fd : FuncData} (F : Fun K "law" "law" s_law f fd) : Binds K fd ["script"] [] := F.binds fun _ _ _ _ _ _ us hl => match us, hl with | [_], _ => rfl
theorem sc_law : FnScope ["script", "pool", "place", "cells", "deeds", "vault", "calls", "row", "weighed", "row_in", "told", "half", "mixed", "state", "first", "k", "cell"] ["script"] (defScope s_law) := ⟨rfl, rfl, rfl, by decide +kernel, rfl, by decide +kernel, by decide +kernel⟩
structure Tx (P : Program) (w : World) (K : PySem.W.Frag) (mg : Str → Option Value) where
  n_abs : mg "abs" = none
  n_any : mg "any" = none
  n_bool : mg "bool" = none
  n_dict : mg "dict" = none
  n_enumerate : mg "enumerate" = none
  n_int : mg "int" = none
  n_isinstance : mg "isinstance" = none
  n_len : mg "len" = none
  n_list : mg "list" = none
  n_max : mg "max" = none
  n_min : mg "min" = none
  n_range : mg "range" = none
  n_str : mg "str" = none
  n_tuple : mg "tuple" = none
  n_zip : mg "zip" = none
  u_DEEPEST_EXPRESSION : Value
  v_DEEPEST_EXPRESSION : V
  g_DEEPEST_EXPRESSION : mg "DEEPEST_EXPRESSION" = some u_DEEPEST_EXPRESSION
  r_DEEPEST_EXPRESSION : RelV v_DEEPEST_EXPRESSION u_DEEPEST_EXPRESSION
  q_DEEPEST_EXPRESSION : ∀ A H, Rep ⟨K, mg⟩ A H c_DEEPEST_EXPRESSION v_DEEPEST_EXPRESSION
  u_DEEPEST_ROW : Value
  v_DEEPEST_ROW : V
  g_DEEPEST_ROW : mg "DEEPEST_ROW" = some u_DEEPEST_ROW
  r_DEEPEST_ROW : RelV v_DEEPEST_ROW u_DEEPEST_ROW
  q_DEEPEST_ROW : ∀ A H, Rep ⟨K, mg⟩ A H c_DEEPEST_ROW v_DEEPEST_ROW
  u_FORMS : Addr
  k_FORMS : KDt ⟨K, mg⟩ w "FORMS" u_FORMS t_FORMS
  u_KEEPERS : Value
  v_KEEPERS : V
  g_KEEPERS : mg "KEEPERS" = some u_KEEPERS
  r_KEEPERS : RelV v_KEEPERS u_KEEPERS
  q_KEEPERS : ∀ A H, Rep ⟨K, mg⟩ A H c_KEEPERS v_KEEPERS
  u_LETTERS : Value
  v_LETTERS : V
  g_LETTERS : mg "LETTERS" = some u_LETTERS
  r_LETTERS : RelV v_LETTERS u_LETTERS
  q_LETTERS : ∀ A H, Rep ⟨K, mg⟩ A H c_LETTERS v_LETTERS
  u_MOST_COINS : Value
  v_MOST_COINS : V
  g_MOST_COINS : mg "MOST_COINS" = some u_MOST_COINS
  r_MOST_COINS : RelV v_MOST_COINS u_MOST_COINS
  q_MOST_COINS : ∀ A H, Rep ⟨K, mg⟩ A H c_MOST_COINS v_MOST_COINS
  u_MOST_ROWS : Value
  v_MOST_ROWS : V
  g_MOST_ROWS : mg "MOST_ROWS" = some u_MOST_ROWS
  r_MOST_ROWS : RelV v_MOST_ROWS u_MOST_ROWS
  q_MOST_ROWS : ∀ A H, Rep ⟨K, mg⟩ A H c_MOST_ROWS v_MOST_ROWS
  u_POWERS : Value
  v_POWERS : V
  g_POWERS : mg "POWERS" = some u_POWERS
  r_POWERS : RelV v_POWERS u_POWERS
  q_POWERS : ∀ A H, Rep ⟨K, mg⟩ A H c_POWERS v_POWERS
  u_REGISTERS : Value
  v_REGISTERS : V
  g_REGISTERS : mg "REGISTERS" = some u_REGISTERS
  r_REGISTERS : RelV v_REGISTERS u_REGISTERS
  q_REGISTERS : ∀ A H, Rep ⟨K, mg⟩ A H c_REGISTERS v_REGISTERS
  u_SIGNS : Value
  v_SIGNS : V
  g_SIGNS : mg "SIGNS" = some u_SIGNS
  r_SIGNS : RelV v_SIGNS u_SIGNS
  q_SIGNS : ∀ A H, Rep ⟨K, mg⟩ A H c_SIGNS v_SIGNS
  a_is_integer : Addr
  f_is_integer : FuncData
  d_is_integer : Fun K "is_integer" "is_integer" s_is_integer a_is_integer f_is_integer
  g_is_integer : mg "is_integer" = some (.ref a_is_integer)
  a_good_cells : Addr
  f_good_cells : FuncData
  d_good_cells : Fun K "good_cells" "good_cells" s_good_cells a_good_cells f_good_cells
  g_good_cells : mg "good_cells" = some (.ref a_good_cells)
  a_Body___init__ : Addr
  f_Body___init__ : FuncData
  d_Body___init__ : Fun K "__init__" "Body.__init__" s_Body___init__ a_Body___init__ f_Body___init__
  a_is_expression : Addr
  f_is_expression : FuncData
  d_is_expression : FunD K "is_expression" "is_expression" (defArgs s_is_expression) (defBody s_is_expression) (defScope s_is_expression) [.int 6] [] a_is_expression f_is_expression
  g_is_expression : mg "is_expression" = some (.ref a_is_expression)
  a_Body_good_part : Addr
  f_Body_good_part : FuncData
  d_Body_good_part : Fun K "good_part" "Body.good_part" s_Body_good_part a_Body_good_part f_Body_good_part
  a_Body_good_row : Addr
  f_Body_good_row : FuncData
  d_Body_good_row : Fun K "good_row" "Body.good_row" s_Body_good_row a_Body_good_row f_Body_good_row
  a_Body_good_rows : Addr
  f_Body_good_rows : FuncData
  d_Body_good_rows : Fun K "good_rows" "Body.good_rows" s_Body_good_rows a_Body_good_rows f_Body_good_rows
  a_is_name : Addr
  f_is_name : FuncData
  d_is_name : Fun K "is_name" "is_name" s_is_name a_is_name f_is_name
  g_is_name : mg "is_name" = some (.ref a_is_name)
  a_good_heads : Addr
  f_good_heads : FuncData
  d_good_heads : Fun K "good_heads" "good_heads" s_good_heads a_good_heads f_good_heads
  g_good_heads : mg "good_heads" = some (.ref a_good_heads)
  a_good_deeds : Addr
  f_good_deeds : FuncData
  d_good_deeds : Fun K "good_deeds" "good_deeds" s_good_deeds a_good_deeds f_good_deeds
  g_good_deeds : mg "good_deeds" = some (.ref a_good_deeds)
  a_has_coin : Addr
  f_has_coin : FuncData
  d_has_coin : Fun K "has_coin" "has_coin" s_has_coin a_has_coin f_has_coin
  g_has_coin : mg "has_coin" = some (.ref a_has_coin)
  a_Vault___init__ : Addr
  f_Vault___init__ : FuncData
  d_Vault___init__ : Fun K "__init__" "Vault.__init__" s_Vault___init__ a_Vault___init__ f_Vault___init__
  a_law_calls : Addr
  f_law_calls : FuncData
  d_law_calls : Fun K "_law_calls" "_law_calls" s_law_calls a_law_calls f_law_calls
  g_law_calls : mg "_law_calls" = some (.ref a_law_calls)
  a_law_draw : Addr
  f_law_draw : FuncData
  d_law_draw : Fun K "_law_draw" "_law_draw" s_law_draw a_law_draw f_law_draw
  g_law_draw : mg "_law_draw" = some (.ref a_law_draw)
  a_law_cells : Addr
  f_law_cells : FuncData
  d_law_cells : Fun K "_law_cells" "_law_cells" s_law_cells a_law_cells f_law_cells
  g_law_cells : mg "_law_cells" = some (.ref a_law_cells)
  a_law_e : Addr
  f_law_e : FuncData
  d_law_e : Fun K "_law_e" "_law_e" s_law_e a_law_e f_law_e
  g_law_e : mg "_law_e" = some (.ref a_law_e)
  a_law_rows : Addr
  f_law_rows : FuncData
  d_law_rows : Fun K "_law_rows" "_law_rows" s_law_rows a_law_rows f_law_rows
  g_law_rows : mg "_law_rows" = some (.ref a_law_rows)
  a_law_coin_tree : Addr
  f_law_coin_tree : FuncData
  d_law_coin_tree : Fun K "_law_coin_tree" "_law_coin_tree" s_law_coin_tree a_law_coin_tree f_law_coin_tree
  g_law_coin_tree : mg "_law_coin_tree" = some (.ref a_law_coin_tree)
  a_law_body : Addr
  f_law_body : FuncData
  d_law_body : Fun K "_law_body" "_law_body" s_law_body a_law_body f_law_body
  g_law_body : mg "_law_body" = some (.ref a_law_body)
  a_law_deeds : Addr
  f_law_deeds : FuncData
  d_law_deeds : Fun K "_law_deeds" "_law_deeds" s_law_deeds a_law_deeds f_law_deeds
  g_law_deeds : mg "_law_deeds" = some (.ref a_law_deeds)
  a_law_coin_vault : Addr
  f_law_coin_vault : FuncData
  d_law_coin_vault : Fun K "_law_coin_vault" "_law_coin_vault" s_law_coin_vault a_law_coin_vault f_law_coin_vault
  g_law_coin_vault : mg "_law_coin_vault" = some (.ref a_law_coin_vault)
  a_is_state_of : Addr
  f_is_state_of : FuncData
  d_is_state_of : Fun K "is_state_of" "is_state_of" s_is_state_of a_is_state_of f_is_state_of
  g_is_state_of : mg "is_state_of" = some (.ref a_is_state_of)
  a_is_state : Addr
  f_is_state : FuncData
  d_is_state : Fun K "is_state" "is_state" s_is_state a_is_state f_is_state
  g_is_state : mg "is_state" = some (.ref a_is_state)
  a_check_state : Addr
  f_check_state : FuncData
  d_check_state : Fun K "check_state" "check_state" s_check_state a_check_state f_check_state
  g_check_state : mg "check_state" = some (.ref a_check_state)
  a_begun : Addr
  f_begun : FuncData
  d_begun : Fun K "begun" "begun" s_begun a_begun f_begun
  g_begun : mg "begun" = some (.ref a_begun)
  a_is_call : Addr
  f_is_call : FuncData
  d_is_call : Fun K "is_call" "is_call" s_is_call a_is_call f_is_call
  g_is_call : mg "is_call" = some (.ref a_is_call)
  a_row_fault : Addr
  f_row_fault : FuncData
  d_row_fault : Fun K "row_fault" "row_fault" s_row_fault a_row_fault f_row_fault
  g_row_fault : mg "row_fault" = some (.ref a_row_fault)
  a_check_row : Addr
  f_check_row : FuncData
  d_check_row : Fun K "check_row" "check_row" s_check_row a_check_row f_check_row
  g_check_row : mg "check_row" = some (.ref a_check_row)
  a_common_divisor : Addr
  f_common_divisor : FuncData
  d_common_divisor : Fun K "common_divisor" "common_divisor" s_common_divisor a_common_divisor f_common_divisor
  g_common_divisor : mg "common_divisor" = some (.ref a_common_divisor)
  a_reduced : Addr
  f_reduced : FuncData
  d_reduced : Fun K "reduced" "reduced" s_reduced a_reduced f_reduced
  g_reduced : mg "reduced" = some (.ref a_reduced)
  a_Walk_do_coin : Addr
  f_Walk_do_coin : FuncData
  d_Walk_do_coin : Fun K "do_coin" "Walk.do_coin" s_Walk_do_coin a_Walk_do_coin f_Walk_do_coin
  a_value : Addr
  f_value : FuncData
  d_value : Fun K "value" "value" s_value a_value f_value
  g_value : mg "value" = some (.ref a_value)
  a_Walk_do_step : Addr
  f_Walk_do_step : FuncData
  d_Walk_do_step : Fun K "do_step" "Walk.do_step" s_Walk_do_step a_Walk_do_step f_Walk_do_step
  a_Walk_do_times : Addr
  f_Walk_do_times : FuncData
  d_Walk_do_times : Fun K "do_times" "Walk.do_times" s_Walk_do_times a_Walk_do_times f_Walk_do_times
  a_Walk_do_row : Addr
  f_Walk_do_row : FuncData
  d_Walk_do_row : Fun K "do_row" "Walk.do_row" s_Walk_do_row a_Walk_do_row f_Walk_do_row
  a_Walk_do_rows : Addr
  f_Walk_do_rows : FuncData
  d_Walk_do_rows : Fun K "do_rows" "Walk.do_rows" s_Walk_do_rows a_Walk_do_rows f_Walk_do_rows
  a_Walk___init__ : Addr
  f_Walk___init__ : FuncData
  d_Walk___init__ : Fun K "__init__" "Walk.__init__" s_Walk___init__ a_Walk___init__ f_Walk___init__
  a_outcomes_of : Addr
  f_outcomes_of : FuncData
  d_outcomes_of : Fun K "outcomes_of" "outcomes_of" s_outcomes_of a_outcomes_of f_outcomes_of
  g_outcomes_of : mg "outcomes_of" = some (.ref a_outcomes_of)
  a_spread : Addr
  f_spread : FuncData
  d_spread : Fun K "spread" "spread" s_spread a_spread f_spread
  g_spread : mg "spread" = some (.ref a_spread)
  a_share : Addr
  f_share : FuncData
  d_share : Fun K "share" "share" s_share a_share f_share
  g_share : mg "share" = some (.ref a_share)
  a_law_mixed : Addr
  f_law_mixed : FuncData
  d_law_mixed : Fun K "_law_mixed" "_law_mixed" s_law_mixed a_law_mixed f_law_mixed
  g_law_mixed : mg "_law_mixed" = some (.ref a_law_mixed)
  a_law_pool : Addr
  f_law_pool : FuncData
  d_law_pool : Fun K "_law_pool" "_law_pool" s_law_pool a_law_pool f_law_pool
  g_law_pool : mg "_law_pool" = some (.ref a_law_pool)
  a_law_good_int : Addr
  f_law_good_int : FuncData
  d_law_good_int : Fun K "_law_good_int" "_law_good_int" s_law_good_int a_law_good_int f_law_good_int
  g_law_good_int : mg "_law_good_int" = some (.ref a_law_good_int)
  a_law_fraction : Addr
  f_law_fraction : FuncData
  d_law_fraction : Fun K "_law_fraction" "_law_fraction" s_law_fraction a_law_fraction f_law_fraction
  g_law_fraction : mg "_law_fraction" = some (.ref a_law_fraction)
  a_law_good_ints : Addr
  f_law_good_ints : FuncData
  d_law_good_ints : Fun K "_law_good_ints" "_law_good_ints" s_law_good_ints a_law_good_ints f_law_good_ints
  g_law_good_ints : mg "_law_good_ints" = some (.ref a_law_good_ints)
  a_law_right : Addr
  f_law_right : FuncData
  d_law_right : Fun K "_law_right" "_law_right" s_law_right a_law_right f_law_right
  g_law_right : mg "_law_right" = some (.ref a_law_right)
  a_law_row : Addr
  f_law_row : FuncData
  d_law_row : Fun K "_law_row" "_law_row" s_law_row a_law_row f_law_row
  g_law_row : mg "_law_row" = some (.ref a_law_row)
  a_law_value : Addr
  f_law_value : FuncData
  d_law_value : Fun K "_law_value" "_law_value" s_law_value a_law_value f_law_value
  g_law_value : mg "_law_value" = some (.ref a_law_value)
  a_law_step : Addr
  f_law_step : FuncData
  d_law_step : Fun K "_law_step" "_law_step" s_law_step a_law_step f_law_step
  g_law_step : mg "_law_step" = some (.ref a_law_step)
  a_law_do : Addr
  f_law_do : FuncData
  d_law_do : Fun K "_law_do" "_law_do" s_law_do a_law_do f_law_do
  g_law_do : mg "_law_do" = some (.ref a_law_do)
  a_law_call : Addr
  f_law_call : FuncData
  d_law_call : Fun K "_law_call" "_law_call" s_law_call a_law_call f_law_call
  g_law_call : mg "_law_call" = some (.ref a_law_call)
  a_law_outs : Addr
  f_law_outs : FuncData
  d_law_outs : Fun K "_law_outs" "_law_outs" s_law_outs a_law_outs f_law_outs
  g_law_outs : mg "_law_outs" = some (.ref a_law_outs)
  a_law_weights : Addr
  f_law_weights : FuncData
  d_law_weights : Fun K "_law_weights" "_law_weights" s_law_weights a_law_weights f_law_weights
  g_law_weights : mg "_law_weights" = some (.ref a_law_weights)
  a_law : Addr
  f_law : FuncData
  d_law : Fun K "law" "law" s_law a_law f_law
  g_law : mg "law" = some (.ref a_law)
  c_Body : Addr
  g_Body : mg "Body" = some (.ref c_Body)
  cl_Body : Cls K c_Body
  mk_Body : Mk K c_Body a_Body___init__
  na_Body_coin_count : NoAttr K c_Body "coin_count"
  na_Body_many_cells : NoAttr K c_Body "many_cells"
  na_Body_row_count : NoAttr K c_Body "row_count"
  c_Vault : Addr
  g_Vault : mg "Vault" = some (.ref c_Vault)
  cl_Vault : Cls K c_Vault
  mk_Vault : Mk K c_Vault a_Vault___init__
  na_Vault_begin : NoAttr K c_Vault "begin"
  na_Vault_body_table : NoAttr K c_Vault "body_table"
  na_Vault_cell_row : NoAttr K c_Vault "cell_row"
  na_Vault_choice_table : NoAttr K c_Vault "choice_table"
  na_Vault_coined : NoAttr K c_Vault "coined"
  na_Vault_deed_row : NoAttr K c_Vault "deed_row"
  na_Vault_size_row : NoAttr K c_Vault "size_row"
  c_Walk : Addr
  g_Walk : mg "Walk" = some (.ref c_Walk)
  cl_Walk : Cls K c_Walk
  mk_Walk : Mk K c_Walk a_Walk___init__
  na_Walk_cells : NoAttr K c_Walk "cells"
  na_Walk_coins : NoAttr K c_Walk "coins"
  na_Walk_held : NoAttr K c_Walk "held"
  na_Walk_result : NoAttr K c_Walk "result"
  na_Walk_size_row : NoAttr K c_Walk "size_row"
  na_Walk_trace : NoAttr K c_Walk "trace"
  na_Walk_used : NoAttr K c_Walk "used"
  me_Body_good_part : Meth K c_Body "good_part" a_Body_good_part
  me_Body_good_row : Meth K c_Body "good_row" a_Body_good_row
  me_Body_good_rows : Meth K c_Body "good_rows" a_Body_good_rows
  me_Walk_do_coin : Meth K c_Walk "do_coin" a_Walk_do_coin
  me_Walk_do_row : Meth K c_Walk "do_row" a_Walk_do_row
  me_Walk_do_rows : Meth K c_Walk "do_rows" a_Walk_do_rows
  me_Walk_do_step : Meth K c_Walk "do_step" a_Walk_do_step
  me_Walk_do_times : Meth K c_Walk "do_times" a_Walk_do_times
section
variable {P : Program} {w : World} {K : PySem.W.Frag} {mg : Str → Option Value} {base : Heap}
noncomputable def F_is_integer : DFn := dfun 1 1
    (sRet (dAndV (dCB gIsi (dCons (dV 0) (dCons (dC (.ty "int")) dNil))) (dNotV (dCB gIsi (dCons (dV 0) (dCons (dC (.ty "bool")) dNil))))))
theorem ok_is_integer (T : Tx P w K mg) : DFO P w K mg base 1 T.a_is_integer T.f_is_integer ["thing"] F_is_integer := fn_def T.d_is_integer sc_is_integer fun cdv A outer s H E hr => by
  have nd := sc_is_integer.nd
  have tk := takes_of (X := cxOf (L2.CX P w) P w K mg base ["thing"] "is_integer" (defScope s_is_integer) T.a_is_integer cdv A outer s H E) rfl rfl rfl rfl
  exact (ds_one (ds_ret (de_and (de_isi T.n_isinstance (da_cons (de_v 0) (da_cons (de_ty T.n_int (by decide +kernel)) da_nil))) (de_one (de_not (de_isi T.n_isinstance (da_cons (de_v 0) (da_cons (de_ty T.n_bool (by decide +kernel)) da_nil))))))))
noncomputable def F_good_cells : DFn := dfun 1 2
    (sSeq (sIf (dOr (dNot (dTst (dCB gIsi (dCons (dV 0) (dCons (dC (.ty "list")) dNil))))) (dNot (dTst (dChain gLe gLe (dC (.int 1)) (dCB (one gLen) (dCons (dV 0) dNil)) (dC (.int 6))))))
    (sRet (dC (.bl false)))
    sNext)
    (sSeq (sFor (iAny (dV 0)) (bName 1)
    (sSeq (sIf (dOr (dNot (dTst (dCB gIsi (dCons (dV 1) (dCons (dC (.ty "tuple")) dNil))))) (dTst (dOp gNe (dCB (one gLen) (dCons (dV 1) dNil)) (dC (.int 2)))))
    (sRet (dC (.bl false)))
    sNext)
    (sSeq (sIf (dOr (dNot (dTst (dCB (fun S ds => F_is_integer ds S) (dCons (dOp gSub2 (dV 1) (dC (.int 0))) dNil)))) (dNot (dTst (dChain gLe gLe (dC (.int 1)) (dOp gSub2 (dV 1) (dC (.int 0))) (dC (.int 9))))))
    (sRet (dC (.bl false)))
    sNext)
    (sIf (dOr (dNot (dTst (dCB (fun S ds => F_is_integer ds S) (dCons (dOp gSub2 (dV 1) (dC (.int 1))) dNil)))) (dNot (dTst (dChain gLe gLt (dC (.int 0)) (dOp gSub2 (dV 1) (dC (.int 1))) (dOp gSub2 (dV 1) (dC (.int 0)))))))
    (sRet (dC (.bl false)))
    sNext))))
    (sRet (dC (.bl true)))))
theorem ok_good_cells (T : Tx P w K mg) : DFO P w K mg base 2 T.a_good_cells T.f_good_cells ["thing"] F_good_cells := fn_def T.d_good_cells sc_good_cells fun cdv A outer s H E hr => by
  have nd := sc_good_cells.nd
  have tk := takes_of (X := cxOf (L2.CX P w) P w K mg base ["thing", "cell"] "good_cells" (defScope s_good_cells) T.a_good_cells cdv A outer s H E) rfl rfl rfl rfl
  exact (ds_cons (ds_if (dt_w (dw_or (dt_not (dt_v (de_isi T.n_isinstance (da_cons (de_v 0) (da_cons (de_ty T.n_list (by decide +kernel)) da_nil))))) (dw_or1 (dt_not (dt_cm2 cm_le cm_le de_int (de_len T.n_len (da_cons (de_v 0) da_nil)) de_int)))))
    (ds_one (ds_ret de_bl))
    ds_nil)
    (ds_cons (ds_for (passes_of rfl) rfl (di_any (de_v 0)) (dg_name 1 nd)
    (ds_cons (ds_if (dt_w (dw_or (dt_not (dt_v (de_isi T.n_isinstance (da_cons (de_v 1) (da_cons (de_ty T.n_tuple (by decide +kernel)) da_nil))))) (dw_or1 (dt_cm (cm_ne hr) (de_len T.n_len (da_cons (de_v 1) da_nil)) de_int))))
    (ds_one (ds_ret de_bl))
    ds_nil)
    (ds_cons (ds_if (dt_w (dw_or (dt_not (dt_v (de_call (ok_is_integer T) tk (hr.mono (by omega)) T.g_is_integer T.d_is_integer.kp (bd_is_integer T.d_is_integer) (da_cons (de_sub2 hr (de_v 1) de_int) da_nil) (hn := (dCons_len dNil_len))))) (dw_or1 (dt_not (dt_cm2 cm_le cm_le de_int (de_sub2 hr (de_v 1) de_int) de_int)))))
    (ds_one (ds_ret de_bl))
    ds_nil)
    (ds_one (ds_if (dt_w (dw_or (dt_not (dt_v (de_call (ok_is_integer T) tk (hr.mono (by omega)) T.g_is_integer T.d_is_integer.kp (bd_is_integer T.d_is_integer) (da_cons (de_sub2 hr (de_v 1) de_int) da_nil) (hn := (dCons_len dNil_len))))) (dw_or1 (dt_not (dt_cm2 cm_le cm_lt de_int (de_sub2 hr (de_v 1) de_int) (de_sub2 hr (de_v 1) de_int))))))
    (ds_one (ds_ret de_bl))
    ds_nil)))))
    (ds_one (ds_ret de_bl))))
noncomputable def F_Body___init__ : DFn := dfun 2 2
    (sSeq (sFldS "Body" "many_cells" (dV 0) (dV 1))
    (sSeq (sFldS "Body" "row_count" (dV 0) (dC (.int 0)))
    (sFldS "Body" "coin_count" (dV 0) (dC (.int 0)))))
theorem ok_Body___init__ (T : Tx P w K mg) : DFO P w K mg base 1 T.a_Body___init__ T.f_Body___init__ ["self", "many_cells"] F_Body___init__ := fn_def T.d_Body___init__ sc_Body___init__ fun cdv A outer s H E hr => by
  have nd := sc_Body___init__.nd
  have tk := takes_of (X := cxOf (L2.CX P w) P w K mg base ["self", "many_cells"] "Body.__init__" (defScope s_Body___init__) T.a_Body___init__ cdv A outer s H E) rfl rfl rfl rfl
  exact (ds_cons (ds_fld T.g_Body T.cl_Body T.na_Body_many_cells (de_v 0) (de_v 1))
    (ds_cons (ds_fld T.g_Body T.cl_Body T.na_Body_row_count (de_v 0) de_int)
    (ds_one (ds_fld T.g_Body T.cl_Body T.na_Body_coin_count (de_v 0) de_int))))
noncomputable def F_is_expression : Nat → DFn
  | 0 => fun _ _ => .bad
  | n + 1 => dfun 2 2
    (sSeq (sIf (dTst (dCB gIsi (dCons (dV 0) (dCons (dC (.ty "str")) dNil))))
    (sRet (dOp (gIn2 false) (dV 0) (dC c_REGISTERS)))
    sNext)
    (sSeq (sIf (dTst (dCB gIsi (dCons (dV 0) (dCons (dC (.ty "tuple")) dNil))))
    (sSeq (sIf (dOr (dTst (dOp gEq (dV 1) (dC (.int 0)))) (dOr (dTst (dOp gNe (dCB (one gLen) (dCons (dV 0) dNil)) (dC (.int 3)))) (dOr (dNot (dTst (dCB gIsi (dCons (dOp gSub2 (dV 0) (dC (.int 0))) (dCons (dC (.ty "str")) dNil))))) (dTst (dOp (gIn2 true) (dOp gSub2 (dV 0) (dC (.int 0))) (dC c_SIGNS))))))
    (sRet (dC (.bl false)))
    sNext)
    (sRet (dAndV (dCB (fun S ds => (F_is_expression n) ds S) (dCons (dOp gSub2 (dV 0) (dC (.int 1))) (dCons (dOp gSub (dV 1) (dC (.int 1))) dNil))) (dCB (fun S ds => (F_is_expression n) ds S) (dCons (dOp gSub2 (dV 0) (dC (.int 2))) (dCons (dOp gSub (dV 1) (dC (.int 1))) dNil))))))
    sNext)
    (sRet (dAndV (dCB (fun S ds => F_is_integer ds S) (dCons (dV 0) dNil)) (dChain gLe gLe (dC (.int 0)) (dV 0) (dC (.int 9)))))))
theorem ok_is_expression (T : Tx P w K mg) : ∀ n : Nat, DFO P w K mg base (1 + 1 * n) T.a_is_expression T.f_is_expression ["thing", "depth"] (F_is_expression n)
  | 0 => dfo_bad
  | n + 1 => (fn_defD T.d_is_expression sc_is_expression fun cdv A outer s H E hr => by
  have nd := sc_is_expression.nd
  have tk := takes_of (X := cxOf (L2.CX P w) P w K mg base ["thing", "depth"] "is_expression" (defScope s_is_expression) T.a_is_expression cdv A outer s H E) rfl rfl rfl rfl
  exact (ds_cons (ds_if (dt_v (de_isi T.n_isinstance (da_cons (de_v 0) (da_cons (de_ty T.n_str (by decide +kernel)) da_nil))))
    (ds_one (ds_ret (de_in2 hr (de_v 0) (de_gl T.g_REGISTERS T.r_REGISTERS (fun _ _ => T.q_REGISTERS _ _)))))
    ds_nil)
    (ds_cons (ds_if (dt_v (de_isi T.n_isinstance (da_cons (de_v 0) (da_cons (de_ty T.n_tuple (by decide +kernel)) da_nil))))
    (ds_cons (ds_if (dt_w (dw_or (dt_cm (cm_eq hr) (de_v 1) de_int) (dw_or (dt_cm (cm_ne hr) (de_len T.n_len (da_cons (de_v 0) da_nil)) de_int) (dw_or (dt_not (dt_v (de_isi T.n_isinstance (da_cons (de_sub2 hr (de_v 0) de_int) (da_cons (de_ty T.n_str (by decide +kernel)) da_nil))))) (dw_or1 (dt_notin2 hr (de_sub2 hr (de_v 0) de_int) (de_gl T.g_SIGNS T.r_SIGNS (fun _ _ => T.q_SIGNS _ _))))))))
    (ds_one (ds_ret de_bl))
    ds_nil)
    (ds_one (ds_ret (de_and (de_call (ok_is_expression T n) tk (hr.mono (by omega)) T.g_is_expression T.d_is_expression.kp (bd_is_expression T.d_is_expression) (da_cons (de_sub2 hr (de_v 0) de_int) (da_cons (de_sub (de_v 1) de_int) da_nil)) (hn := (dCons_len (dCons_len dNil_len)))) (de_one (de_call (ok_is_expression T n) tk (hr.mono (by omega)) T.g_is_expression T.d_is_expression.kp (bd_is_expression T.d_is_expression) (da_cons (de_sub2 hr (de_v 0) de_int) (da_cons (de_sub (de_v 1) de_int) da_nil)) (hn := (dCons_len (dCons_len dNil_len)))))))))
    ds_nil)
    (ds_one (ds_ret (de_and (de_call (ok_is_integer T) tk (hr.mono (by omega)) T.g_is_integer T.d_is_integer.kp (bd_is_integer T.d_is_integer) (da_cons (de_v 0) da_nil) (hn := (dCons_len dNil_len))) (de_one (de_cm2 cm_le cm_le de_int (de_v 0) de_int))))))) : DFO P w K mg base (1 + 1 * n + 0 + 1) _ _ _ _).mono (by omega)
noncomputable def F_Body_good_part (HF : DFn) : DFn := dfun 5 5
    (sSeq (sIf (dTst (dOp gEq (dV 1) (dC (.str "R"))))
    (sRet (dAndV (dCB gIsi (dCons (dV 2) (dCons (dC (.ty "str")) dNil))) (dOp (gIn2 false) (dV 2) (dC c_KEEPERS))))
    sNext)
    (sSeq (sIf (dTst (dOp gEq (dV 1) (dC (.str "C"))))
    (sRet (dAndV (dCB (fun S ds => F_is_integer ds S) (dCons (dV 2) dNil)) (dChain gLe gLt (dC (.int 0)) (dV 2) (dFld "Body" "many_cells" (dV 0)))))
    sNext)
    (sSeq (sIf (dTst (dOp gEq (dV 1) (dC (.str "E"))))
    (sRet (dCB (fun S ds => (F_is_expression 8) (ds ++ [c_DEEPEST_EXPRESSION]) S) (dCons (dV 2) dNil)))
    sNext)
    (sRet (dMeth "Body" "good_rows" HF (dV 0) (dCons (dV 2) (dCons (dOp gAdd (dV 3) (dC (.int 1))) (dCons (dV 4) dNil))))))))
theorem ok_Body_good_part (T : Tx P w K mg) {HF : DFn} {j : Nat} (hF : DFO P w K mg base (9 + j) T.a_Body_good_rows T.f_Body_good_rows ["self", "thing", "depth", "loops"] HF) : DFO P w K mg base (9 + j + 1) T.a_Body_good_part T.f_Body_good_part ["self", "sort", "part", "depth", "loops"] (F_Body_good_part HF) := fn_def T.d_Body_good_part sc_Body_good_part fun cdv A outer s H E hr => by
  have nd := sc_Body_good_part.nd
  have tk := takes_of (X := cxOf (L2.CX P w) P w K mg base ["self", "sort", "part", "depth", "loops"] "Body.good_part" (defScope s_Body_good_part) T.a_Body_good_part cdv A outer s H E) rfl rfl rfl rfl
  exact (ds_cons (ds_if (dt_cm (cm_eq hr) (de_v 1) de_str)
    (ds_one (ds_ret (de_and (de_isi T.n_isinstance (da_cons (de_v 2) (da_cons (de_ty T.n_str (by decide +kernel)) da_nil))) (de_one (de_in2 hr (de_v 2) (de_gl T.g_KEEPERS T.r_KEEPERS (fun _ _ => T.q_KEEPERS _ _)))))))
    ds_nil)
    (ds_cons (ds_if (dt_cm (cm_eq hr) (de_v 1) de_str)
    (ds_one (ds_ret (de_and (de_call (ok_is_integer T) tk (hr.mono (by omega)) T.g_is_integer T.d_is_integer.kp (bd_is_integer T.d_is_integer) (da_cons (de_v 2) da_nil) (hn := (dCons_len dNil_len))) (de_one (de_cm2 cm_le cm_lt de_int (de_v 2) (de_fld T.g_Body T.cl_Body T.na_Body_many_cells (de_v 0)))))))
    ds_nil)
    (ds_cons (ds_if (dt_cm (cm_eq hr) (de_v 1) de_str)
    (ds_one (ds_ret (de_callE (dd := [c_DEEPEST_EXPRESSION]) (ok_is_expression T 8) tk (hr.mono (by omega)) T.g_is_expression T.d_is_expression.kp (bdd_is_expression_1 T.d_is_expression) (fun A H => (Reps.cons rfl Reps.nil)) (da_cons (de_v 2) da_nil) (hn := (dCons_len dNil_len)))))
    ds_nil)
    (ds_one (ds_ret (de_meth T.g_Body T.cl_Body T.me_Body_good_rows hF tk (hr.mono (by omega)) (bd_Body_good_rows T.d_Body_good_rows) (de_v 0) (da_cons (de_v 2) (da_cons (de_add (de_v 3) de_int) (da_cons (de_v 4) da_nil))) (dCons_len (dCons_len (dCons_len dNil_len)))))))))
noncomputable def F_Body_good_row (HF : DFn) : DFn := dfun 4 6
    (sSeq (sIf (dOr (dNot (dTst (dCB gIsi (dCons (dV 1) (dCons (dC (.ty "tuple")) dNil))))) (dOr (dTst (dOp gEq (dCB (one gLen) (dCons (dV 1) dNil)) (dC (.int 0)))) (dNot (dTst (dCB gIsi (dCons (dOp gSub2 (dV 1) (dC (.int 0))) (dCons (dC (.ty "str")) dNil)))))))
    (sRet (dC (.bl false)))
    sNext)
    (sSeq (sIf (dOr (dTst (dOp (gKIn true "FORMS" t_FORMS) (dOp gSub2 (dV 1) (dC (.int 0))) (dC (.glo "FORMS")))) (dTst (dOp gNe (dCB (one gLen) (dCons (dV 1) dNil)) (dOp gAdd (dCB (one gLen) (dCons (dOp (gKGet "FORMS" t_FORMS) (dC (.glo "FORMS")) (dOp gSub2 (dV 1) (dC (.int 0)))) dNil)) (dC (.int 1))))))
    (sRet (dC (.bl false)))
    sNext)
    (sSeq (sIf (dTst (dOp gEq (dOp gSub2 (dV 1) (dC (.int 0))) (dC (.str "times"))))
    (sAug 3 (fun i j => i + j) (dC (.int 1)))
    sNext)
    (sSeq (sIf (dTst (dOp gEq (dOp gSub2 (dV 1) (dC (.int 0))) (dC (.str "coin"))))
    (sSeq (sFldA "Body" "coin_count" (fun i j => i + j) (dV 0) (dC (.int 1)))
    (sIf (dOr (dTst (dOp gGt (dV 3) (dC (.int 0)))) (dTst (dOp gGt (dFld "Body" "coin_count" (dV 0)) (dC c_MOST_COINS))))
    (sRet (dC (.bl false)))
    sNext))
    sNext)
    (sSeq (sIf (dTst (dOp gGt (dV 3) (dC (.int 2))))
    (sRet (dC (.bl false)))
    sNext)
    (sSeq (sFor (iZip2 (dCons (dOp (gKGet "FORMS" t_FORMS) (dC (.glo "FORMS")) (dOp gSub2 (dV 1) (dC (.int 0)))) (dCons (dSl (dV 1) (dO1 (dC (.int 1))) dO0) dNil))) (bTup 2 (bCons (bName 4) (bCons (bName 5) bNil)))
    (sIf (dNot (dTst (dMeth "Body" "good_part" (F_Body_good_part HF) (dV 0) (dCons (dV 4) (dCons (dV 5) (dCons (dV 2) (dCons (dV 3) dNil)))))))
    (sRet (dC (.bl false)))
    sNext))
    (sRet (dC (.bl true)))))))))
theorem ok_Body_good_row (T : Tx P w K mg) {HF : DFn} {j : Nat} (hF : DFO P w K mg base (9 + j) T.a_Body_good_rows T.f_Body_good_rows ["self", "thing", "depth", "loops"] HF) : DFO P w K mg base (9 + j + 2) T.a_Body_good_row T.f_Body_good_row ["self", "row", "depth", "loops"] (F_Body_good_row HF) := fn_def T.d_Body_good_row sc_Body_good_row fun cdv A outer s H E hr => by
  have nd := sc_Body_good_row.nd
  have tk := takes_of (X := cxOf (L2.CX P w) P w K mg base ["self", "row", "depth", "loops", "sort", "part"] "Body.good_row" (defScope s_Body_good_row) T.a_Body_good_row cdv A outer s H E) rfl rfl rfl rfl
  exact (ds_cons (ds_if (dt_w (dw_or (dt_not (dt_v (de_isi T.n_isinstance (da_cons (de_v 1) (da_cons (de_ty T.n_tuple (by decide +kernel)) da_nil))))) (dw_or (dt_cm (cm_eq hr) (de_len T.n_len (da_cons (de_v 1) da_nil)) de_int) (dw_or1 (dt_not (dt_v (de_isi T.n_isinstance (da_cons (de_sub2 hr (de_v 1) de_int) (da_cons (de_ty T.n_str (by decide +kernel)) da_nil)))))))))
    (ds_one (ds_ret de_bl))
    ds_nil)
    (ds_cons (ds_if (dt_w (dw_or (dt_cm (cm_knotin T.k_FORMS) (de_sub2 hr (de_v 1) de_int) (de_glo T.k_FORMS.glob)) (dw_or1 (dt_cm (cm_ne hr) (de_len T.n_len (da_cons (de_v 1) da_nil)) (de_add (de_len T.n_len (da_cons (de_kget T.k_FORMS (de_glo T.k_FORMS.glob) (de_sub2 hr (de_v 1) de_int)) da_nil)) de_int)))))
    (ds_one (ds_ret de_bl))
    ds_nil)
    (ds_cons (ds_if (dt_cm (cm_eq hr) (de_sub2 hr (de_v 1) de_int) de_str)
    (ds_one (ds_aug nd ip_add de_int))
    ds_nil)
    (ds_cons (ds_if (dt_cm (cm_eq hr) (de_sub2 hr (de_v 1) de_int) de_str)
    (ds_cons (ds_flda (g := (fun i j => i + j)) in_add T.g_Body T.cl_Body T.na_Body_coin_count (de_v 0) de_int)
    (ds_one (ds_if (dt_w (dw_or (dt_cm cm_gt (de_v 3) de_int) (dw_or1 (dt_cm cm_gt (de_fld T.g_Body T.cl_Body T.na_Body_coin_count (de_v 0)) (de_gl T.g_MOST_COINS T.r_MOST_COINS (fun _ _ => T.q_MOST_COINS _ _))))))
    (ds_one (ds_ret de_bl))
    ds_nil)))
    ds_nil)
    (ds_cons (ds_if (dt_cm cm_gt (de_v 3) de_int)
    (ds_one (ds_ret de_bl))
    ds_nil)
    (ds_cons (ds_for (passes_of rfl) rfl (di_zip2 T.n_zip (da_cons (de_kget T.k_FORMS (de_glo T.k_FORMS.glob) (de_sub2 hr (de_v 1) de_int)) (da_cons (de_sl (de_v 1) (do_1 de_int) do_0) da_nil))) (dg_tup rfl (dgs_cons (dg_name 4 nd) (dgs_cons (dg_name 5 nd) dgs_nil)))
    (ds_one (ds_if (dt_not (dt_v (de_meth T.g_Body T.cl_Body T.me_Body_good_part (ok_Body_good_part T hF) tk (hr.mono (by omega)) (bd_Body_good_part T.d_Body_good_part) (de_v 0) (da_cons (de_v 4) (da_cons (de_v 5) (da_cons (de_v 2) (da_cons (de_v 3) da_nil)))) (dCons_len (dCons_len (dCons_len (dCons_len dNil_len)))))))
    (ds_one (ds_ret de_bl))
    ds_nil)))
    (ds_one (ds_ret de_bl))))))))
noncomputable def F_Body_good_rows : Nat → DFn
  | 0 => fun _ _ => .bad
  | n + 1 => dfun 4 5
    (sSeq (sIf (dNot (dTst (dCB gIsi (dCons (dV 1) (dCons (dC (.ty "tuple")) dNil)))))
    (sRet (dC (.bl false)))
    sNext)
    (sSeq (sIf (dAnd (dTst (dOp gGt (dCB (one gLen) (dCons (dV 1) dNil)) (dC (.int 0)))) (dTst (dOp gGt (dV 2) (dC c_DEEPEST_ROW))))
    (sRet (dC (.bl false)))
    sNext)
    (sSeq (sFor (iAny (dV 1)) (bName 4)
    (sSeq (sFldA "Body" "row_count" (fun i j => i + j) (dV 0) (dC (.int 1)))
    (sIf (dOr (dTst (dOp gGt (dFld "Body" "row_count" (dV 0)) (dC c_MOST_ROWS))) (dNot (dTst (dMeth "Body" "good_row" (F_Body_good_row (F_Body_good_rows n)) (dV 0) (dCons (dV 4) (dCons (dV 2) (dCons (dV 3) dNil)))))))
    (sRet (dC (.bl false)))
    sNext)))
    (sRet (dC (.bl true))))))
theorem ok_Body_good_rows (T : Tx P w K mg) : ∀ n : Nat, DFO P w K mg base (9 + 3 * n) T.a_Body_good_rows T.f_Body_good_rows ["self", "thing", "depth", "loops"] (F_Body_good_rows n)
  | 0 => dfo_bad
  | n + 1 => (fn_def T.d_Body_good_rows sc_Body_good_rows fun cdv A outer s H E hr => by
  have nd := sc_Body_good_rows.nd
  have tk := takes_of (X := cxOf (L2.CX P w) P w K mg base ["self", "thing", "depth", "loops", "row"] "Body.good_rows" (defScope s_Body_good_rows) T.a_Body_good_rows cdv A outer s H E) rfl rfl rfl rfl
  exact (ds_cons (ds_if (dt_not (dt_v (de_isi T.n_isinstance (da_cons (de_v 1) (da_cons (de_ty T.n_tuple (by decide +kernel)) da_nil)))))
    (ds_one (ds_ret de_bl))
    ds_nil)
    (ds_cons (ds_if (dt_w (dw_and (dt_cm cm_gt (de_len T.n_len (da_cons (de_v 1) da_nil)) de_int) (dw_and1 (dt_cm cm_gt (de_v 2) (de_gl T.g_DEEPEST_ROW T.r_DEEPEST_ROW (fun _ _ => T.q_DEEPEST_ROW _ _))))))
    (ds_one (ds_ret de_bl))
    ds_nil)
    (ds_cons (ds_for (passes_of rfl) rfl (di_any (de_v 1)) (dg_name 4 nd)
    (ds_cons (ds_flda (g := (fun i j => i + j)) in_add T.g_Body T.cl_Body T.na_Body_row_count (de_v 0) de_int)
    (ds_one (ds_if (dt_w (dw_or (dt_cm cm_gt (de_fld T.g_Body T.cl_Body T.na_Body_row_count (de_v 0)) (de_gl T.g_MOST_ROWS T.r_MOST_ROWS (fun _ _ => T.q_MOST_ROWS _ _))) (dw_or1 (dt_not (dt_v (de_meth T.g_Body T.cl_Body T.me_Body_good_row (ok_Body_good_row T (ok_Body_good_rows T n)) tk (hr.mono (by omega)) (bd_Body_good_row T.d_Body_good_row) (de_v 0) (da_cons (de_v 4) (da_cons (de_v 2) (da_cons (de_v 3) da_nil))) (dCons_len (dCons_len (dCons_len dNil_len)))))))))
    (ds_one (ds_ret de_bl))
    ds_nil))))
    (ds_one (ds_ret de_bl))))) : DFO P w K mg base (9 + 3 * n + 2 + 1) _ _ _ _).mono (by omega)
noncomputable def F_is_name : DFn := dfun 1 2
    (sSeq (sIf (dOr (dNot (dTst (dCB gIsi (dCons (dV 0) (dCons (dC (.ty "str")) dNil))))) (dNot (dTst (dChain gLe gLe (dC (.int 1)) (dCB (one gLen) (dCons (dV 0) dNil)) (dC (.int 8))))))
    (sRet (dC (.bl false)))
    sNext)
    (sSeq (sFor (iAny (dV 0)) (bName 1)
    (sIf (dTst (dOp (gIn2 true) (dV 1) (dC c_LETTERS)))
    (sRet (dC (.bl false)))
    sNext))
    (sRet (dC (.bl true)))))
theorem ok_is_name (T : Tx P w K mg) : DFO P w K mg base 1 T.a_is_name T.f_is_name ["thing"] F_is_name := fn_def T.d_is_name sc_is_name fun cdv A outer s H E hr => by
  have nd := sc_is_name.nd
  have tk := takes_of (X := cxOf (L2.CX P w) P w K mg base ["thing", "letter"] "is_name" (defScope s_is_name) T.a_is_name cdv A outer s H E) rfl rfl rfl rfl
  exact (ds_cons (ds_if (dt_w (dw_or (dt_not (dt_v (de_isi T.n_isinstance (da_cons (de_v 0) (da_cons (de_ty T.n_str (by decide +kernel)) da_nil))))) (dw_or1 (dt_not (dt_cm2 cm_le cm_le de_int (de_len T.n_len (da_cons (de_v 0) da_nil)) de_int)))))
    (ds_one (ds_ret de_bl))
    ds_nil)
    (ds_cons (ds_for (passes_of rfl) rfl (di_any (de_v 0)) (dg_name 1 nd)
    (ds_one (ds_if (dt_notin2 hr (de_v 1) (de_gl T.g_LETTERS T.r_LETTERS (fun _ _ => T.q_LETTERS _ _)))
    (ds_one (ds_ret de_bl))
    ds_nil)))
    (ds_one (ds_ret de_bl))))
noncomputable def F_good_heads : DFn := dfun 2 4
    (sSeq (sIf (dOr (dNot (dTst (dCB gIsi (dCons (dV 0) (dCons (dC (.ty "list")) dNil))))) (dNot (dTst (dChain gLe gLe (dC (.int 1)) (dCB (one gLen) (dCons (dV 0) dNil)) (dC (.int 8))))))
    (sRet (dC (.bl false)))
    sNext)
    (sSeq (sSet 2 (dLst dNil))
    (sSeq (sFor (iAny (dV 0)) (bName 3)
    (sSeq (sIf (dOr (dNot (dTst (dCB gIsi (dCons (dV 3) (dCons (dC (.ty "tuple")) dNil))))) (dTst (dOp gNe (dCB (one gLen) (dCons (dV 3) dNil)) (dV 1))))
    (sRet (dC (.bl false)))
    sNext)
    (sSeq (sIf (dOr (dNot (dTst (dCB (fun S ds => F_is_name ds S) (dCons (dOp gSub2 (dV 3) (dC (.int 0))) dNil)))) (dTst (dOp (gIn2 false) (dOp gSub2 (dV 3) (dC (.int 0))) (dV 2))))
    (sRet (dC (.bl false)))
    sNext)
    (sSeq (sIf (dOr (dNot (dTst (dCB (fun S ds => F_is_integer ds S) (dCons (dOp gSub2 (dV 3) (dC (.int 1))) dNil)))) (dNot (dTst (dChain gLe gLe (dC (.int 1)) (dOp gSub2 (dV 3) (dC (.int 1))) (dC (.int 9))))))
    (sRet (dC (.bl false)))
    sNext)
    (sDrop (dM "list" mApp (dV 2) (dCons (dOp gSub2 (dV 3) (dC (.int 0))) dNil)))))))
    (sRet (dC (.bl true))))))
theorem ok_good_heads (T : Tx P w K mg) : DFO P w K mg base 2 T.a_good_heads T.f_good_heads ["thing", "width"] F_good_heads := fn_def T.d_good_heads sc_good_heads fun cdv A outer s H E hr => by
  have nd := sc_good_heads.nd
  have tk := takes_of (X := cxOf (L2.CX P w) P w K mg base ["thing", "width", "seen", "deed"] "good_heads" (defScope s_good_heads) T.a_good_heads cdv A outer s H E) rfl rfl rfl rfl
  exact (ds_cons (ds_if (dt_w (dw_or (dt_not (dt_v (de_isi T.n_isinstance (da_cons (de_v 0) (da_cons (de_ty T.n_list (by decide +kernel)) da_nil))))) (dw_or1 (dt_not (dt_cm2 cm_le cm_le de_int (de_len T.n_len (da_cons (de_v 0) da_nil)) de_int)))))
    (ds_one (ds_ret de_bl))
    ds_nil)
    (ds_cons (ds_set (i := 2) nd (de_lst da_nil))
    (ds_cons (ds_for (passes_of rfl) rfl (di_any (de_v 0)) (dg_name 3 nd)
    (ds_cons (ds_if (dt_w (dw_or (dt_not (dt_v (de_isi T.n_isinstance (da_cons (de_v 3) (da_cons (de_ty T.n_tuple (by decide +kernel)) da_nil))))) (dw_or1 (dt_cm (cm_ne hr) (de_len T.n_len (da_cons (de_v 3) da_nil)) (de_v 1)))))
    (ds_one (ds_ret de_bl))
    ds_nil)
    (ds_cons (ds_if (dt_w (dw_or (dt_not (dt_v (de_call (ok_is_name T) tk (hr.mono (by omega)) T.g_is_name T.d_is_name.kp (bd_is_name T.d_is_name) (da_cons (de_sub2 hr (de_v 3) de_int) da_nil) (hn := (dCons_len dNil_len))))) (dw_or1 (dt_in2 hr (de_sub2 hr (de_v 3) de_int) (de_v 2)))))
    (ds_one (ds_ret de_bl))
    ds_nil)
    (ds_cons (ds_if (dt_w (dw_or (dt_not (dt_v (de_call (ok_is_integer T) tk (hr.mono (by omega)) T.g_is_integer T.d_is_integer.kp (bd_is_integer T.d_is_integer) (da_cons (de_sub2 hr (de_v 3) de_int) da_nil) (hn := (dCons_len dNil_len))))) (dw_or1 (dt_not (dt_cm2 cm_le cm_le de_int (de_sub2 hr (de_v 3) de_int) de_int)))))
    (ds_one (ds_ret de_bl))
    ds_nil)
    (ds_one (ds_drop (de_app (de_v 2) (da_cons (de_sub2 hr (de_v 3) de_int) da_nil))))))))
    (ds_one (ds_ret de_bl)))))
noncomputable def F_good_deeds : DFn := dfun 2 4
    (sSeq (sIf (dNot (dTst (dCB (fun S ds => F_good_heads ds S) (dCons (dV 0) (dCons (dC (.int 3)) dNil)))))
    (sRet (dC (.bl false)))
    sNext)
    (sSeq (sFor (iAny (dV 0)) (bName 2)
    (sSeq (sSet 3 (dMake "Body" F_Body___init__ (dCons (dV 1) dNil)))
    (sIf (dNot (dTst (dMeth "Body" "good_rows" (F_Body_good_rows 14) (dV 3) (dCons (dOp gSub2 (dV 2) (dC (.int 2))) (dCons (dC (.int 1)) (dCons (dC (.int 0)) dNil))))))
    (sRet (dC (.bl false)))
    sNext)))
    (sRet (dC (.bl true)))))
theorem ok_good_deeds (T : Tx P w K mg) : DFO P w K mg base 52 T.a_good_deeds T.f_good_deeds ["thing", "many_cells"] F_good_deeds := fn_def T.d_good_deeds sc_good_deeds fun cdv A outer s H E hr => by
  have nd := sc_good_deeds.nd
  have tk := takes_of (X := cxOf (L2.CX P w) P w K mg base ["thing", "many_cells", "deed", "body"] "good_deeds" (defScope s_good_deeds) T.a_good_deeds cdv A outer s H E) rfl rfl rfl rfl
  exact (ds_cons (ds_if (dt_not (dt_v (de_call (ok_good_heads T) tk (hr.mono (by omega)) T.g_good_heads T.d_good_heads.kp (bd_good_heads T.d_good_heads) (da_cons (de_v 0) (da_cons de_int da_nil)) (hn := (dCons_len (dCons_len dNil_len))))))
    (ds_one (ds_ret de_bl))
    ds_nil)
    (ds_cons (ds_for (passes_of rfl) rfl (di_any (de_v 0)) (dg_name 2 nd)
    (ds_cons (ds_set (i := 3) nd (de_make T.mk_Body (ok_Body___init__ T) tk (hr.mono (by omega)) T.g_Body (bd_Body___init__ T.d_Body___init__) (da_cons (de_v 1) da_nil) (hn := (dCons_len dNil_len))))
    (ds_one (ds_if (dt_not (dt_v (de_meth T.g_Body T.cl_Body T.me_Body_good_rows (ok_Body_good_rows T 14) tk (hr.mono (by omega)) (bd_Body_good_rows T.d_Body_good_rows) (de_v 3) (da_cons (de_sub2 hr (de_v 2) de_int) (da_cons de_int (da_cons de_int da_nil))) (dCons_len (dCons_len (dCons_len dNil_len))))))
    (ds_one (ds_ret de_bl))
    ds_nil))))
    (ds_one (ds_ret de_bl))))
noncomputable def F_has_coin : Nat → DFn
  | 0 => fun _ _ => .bad
  | n + 1 => dfun 1 2
    (sSeq (sFor (iAny (dV 0)) (bName 1)
    (sSeq (sIf (dTst (dOp gEq (dOp gSub2 (dV 1) (dC (.int 0))) (dC (.str "coin"))))
    (sRet (dC (.bl true)))
    sNext)
    (sSeq (sIf (dAnd (dTst (dOp gEq (dOp gSub2 (dV 1) (dC (.int 0))) (dC (.str "if")))) (dOr (dTst (dCB (fun S ds => (F_has_coin n) ds S) (dCons (dOp gSub2 (dV 1) (dC (.int 2))) dNil))) (dTst (dCB (fun S ds => (F_has_coin n) ds S) (dCons (dOp gSub2 (dV 1) (dC (.int 3))) dNil)))))
    (sRet (dC (.bl true)))
    sNext)
    (sIf (dAnd (dTst (dOp gEq (dOp gSub2 (dV 1) (dC (.int 0))) (dC (.str "times")))) (dTst (dCB (fun S ds => (F_has_coin n) ds S) (dCons (dOp gSub2 (dV 1) (dC (.int 2))) dNil))))
    (sRet (dC (.bl true)))
    sNext))))
    (sRet (dC (.bl false))))
theorem ok_has_coin (T : Tx P w K mg) : ∀ n : Nat, DFO P w K mg base (0 + 1 * n) T.a_has_coin T.f_has_coin ["rows"] (F_has_coin n)
  | 0 => dfo_bad
  | n + 1 => (fn_def T.d_has_coin sc_has_coin fun cdv A outer s H E hr => by
  have nd := sc_has_coin.nd
  have tk := takes_of (X := cxOf (L2.CX P w) P w K mg base ["rows", "row"] "has_coin" (defScope s_has_coin) T.a_has_coin cdv A outer s H E) rfl rfl rfl rfl
  exact (ds_cons (ds_for (passes_of rfl) rfl (di_any (de_v 0)) (dg_name 1 nd)
    (ds_cons (ds_if (dt_cm (cm_eq hr) (de_sub2 hr (de_v 1) de_int) de_str)
    (ds_one (ds_ret de_bl))
    ds_nil)
    (ds_cons (ds_if (dt_w (dw_and (dt_cm (cm_eq hr) (de_sub2 hr (de_v 1) de_int) de_str) (dw_and1 (dt_w (dw_or (dt_v (de_call (ok_has_coin T n) tk (hr.mono (by omega)) T.g_has_coin T.d_has_coin.kp (bd_has_coin T.d_has_coin) (da_cons (de_sub2 hr (de_v 1) de_int) da_nil) (hn := (dCons_len dNil_len)))) (dw_or1 (dt_v (de_call (ok_has_coin T n) tk (hr.mono (by omega)) T.g_has_coin T.d_has_coin.kp (bd_has_coin T.d_has_coin) (da_cons (de_sub2 hr (de_v 1) de_int) da_nil) (hn := (dCons_len dNil_len))))))))))
    (ds_one (ds_ret de_bl))
    ds_nil)
    (ds_one (ds_if (dt_w (dw_and (dt_cm (cm_eq hr) (de_sub2 hr (de_v 1) de_int) de_str) (dw_and1 (dt_v (de_call (ok_has_coin T n) tk (hr.mono (by omega)) T.g_has_coin T.d_has_coin.kp (bd_has_coin T.d_has_coin) (da_cons (de_sub2 hr (de_v 1) de_int) da_nil) (hn := (dCons_len dNil_len)))))))
    (ds_one (ds_ret de_bl))
    ds_nil)))))
    (ds_one (ds_ret de_bl))) : DFO P w K mg base (0 + 1 * n + 0 + 1) _ _ _ _).mono (by omega)
noncomputable def F_Vault___init__ : DFn := dfun 3 5
    (sSeq (sIf (dNot (dTst (dCB (fun S ds => F_good_cells ds S) (dCons (dV 1) dNil))))
    sBad
    sNext)
    (sSeq (sIf (dNot (dTst (dCB (fun S ds => F_good_deeds ds S) (dCons (dV 2) (dCons (dCB (one gLen) (dCons (dV 1) dNil)) dNil)))))
    sBad
    sNext)
    (sSeq (sFldS "Vault" "cell_row" (dV 0) (dCB (one gTuple) (dCons (dV 1) dNil)))
    (sSeq (sFldS "Vault" "deed_row" (dV 0) (dCB (one gTuple) (dCons (dV 2) dNil)))
    (sSeq (sFldS "Vault" "size_row" (dV 0) (dCB (one gTuple) (dCons (dLc (iAny (dV 1)) (bName 3) tTrue (dOp gSub2 (dV 3) (dC (.int 0))) [3]) dNil)))
    (sSeq (sFldS "Vault" "begin" (dV 0) (dCB (one gTuple) (dCons (dLc (iAny (dV 1)) (bName 3) tTrue (dOp gSub2 (dV 3) (dC (.int 1))) [3]) dNil)))
    (sSeq (sFldS "Vault" "choice_table" (dV 0) (dDc (iAny (dV 2)) (bName 4) tTrue (dOp gSub2 (dV 4) (dC (.int 0))) (dOp gSub2 (dV 4) (dC (.int 1))) [4]))
    (sSeq (sFldS "Vault" "body_table" (dV 0) (dDc (iAny (dV 2)) (bName 4) tTrue (dOp gSub2 (dV 4) (dC (.int 0))) (dOp gSub2 (dV 4) (dC (.int 2))) [4]))
    (sFldS "Vault" "coined" (dV 0) (dCB (one gAny) (dCons (dLc (iAny (dV 2)) (bName 4) tTrue (dCB (fun S ds => (F_has_coin 14) ds S) (dCons (dOp gSub2 (dV 4) (dC (.int 2))) dNil)) [4]) dNil)))))))))))
theorem ok_Vault___init__ (T : Tx P w K mg) : DFO P w K mg base 53 T.a_Vault___init__ T.f_Vault___init__ ["self", "cells", "deeds"] F_Vault___init__ := fn_def T.d_Vault___init__ sc_Vault___init__ fun cdv A outer s H E hr => by
  have nd := sc_Vault___init__.nd
  have tk := takes_of (X := cxOf (L2.CX P w) P w K mg base ["self", "cells", "deeds", "cell", "deed"] "Vault.__init__" (defScope s_Vault___init__) T.a_Vault___init__ cdv A outer s H E) rfl rfl rfl rfl
  exact (ds_cons (ds_if (dt_not (dt_v (de_call (ok_good_cells T) tk (hr.mono (by omega)) T.g_good_cells T.d_good_cells.kp (bd_good_cells T.d_good_cells) (da_cons (de_v 1) da_nil) (hn := (dCons_len dNil_len)))))
    (ds_one ds_bad)
    ds_nil)
    (ds_cons (ds_if (dt_not (dt_v (de_call (ok_good_deeds T) tk (hr.mono (by omega)) T.g_good_deeds T.d_good_deeds.kp (bd_good_deeds T.d_good_deeds) (da_cons (de_v 2) (da_cons (de_len T.n_len (da_cons (de_v 1) da_nil)) da_nil)) (hn := (dCons_len (dCons_len dNil_len))))))
    (ds_one ds_bad)
    ds_nil)
    (ds_cons (ds_fld T.g_Vault T.cl_Vault T.na_Vault_cell_row (de_v 0) (de_tuple T.n_tuple (da_cons (de_v 1) da_nil)))
    (ds_cons (ds_fld T.g_Vault T.cl_Vault T.na_Vault_deed_row (de_v 0) (de_tuple T.n_tuple (da_cons (de_v 2) da_nil)))
    (ds_cons (ds_fld T.g_Vault T.cl_Vault T.na_Vault_size_row (de_v 0) (de_tuple T.n_tuple (da_cons (de_lc (own := [("cell", 3)]) rfl nd (di_any (de_v 1)) (blkOk_by (N := ["self", "cells", "deeds", "cell", "deed"]) (sc := defScope (inClass (topS 42) 0)) (by decide +kernel)) (fun _ _ _ _ _ => (dg_name 3 nd)) (fun _ _ _ _ _ => dts_nil) (fun _ _ _ _ _ => (de_sub2 hr (de_v 3) de_int))) da_nil)))
    (ds_cons (ds_fld T.g_Vault T.cl_Vault T.na_Vault_begin (de_v 0) (de_tuple T.n_tuple (da_cons (de_lc (own := [("cell", 3)]) rfl nd (di_any (de_v 1)) (blkOk_by (N := ["self", "cells", "deeds", "cell", "deed"]) (sc := defScope (inClass (topS 42) 0)) (by decide +kernel)) (fun _ _ _ _ _ => (dg_name 3 nd)) (fun _ _ _ _ _ => dts_nil) (fun _ _ _ _ _ => (de_sub2 hr (de_v 3) de_int))) da_nil)))
    (ds_cons (ds_fld T.g_Vault T.cl_Vault T.na_Vault_choice_table (de_v 0) (de_dc (own := [("deed", 4)]) rfl nd (di_any (de_v 2)) (blkOk_by (N := ["self", "cells", "deeds", "cell", "deed"]) (sc := defScope (inClass (topS 42) 0)) (by decide +kernel)) (fun _ _ _ _ _ => (dg_name 4 nd)) (fun _ _ _ _ _ => dts_nil) (fun _ _ _ _ _ => (de_sub2 hr (de_v 4) de_int)) (fun _ _ _ _ _ => (de_sub2 hr (de_v 4) de_int))))
    (ds_cons (ds_fld T.g_Vault T.cl_Vault T.na_Vault_body_table (de_v 0) (de_dc (own := [("deed", 4)]) rfl nd (di_any (de_v 2)) (blkOk_by (N := ["self", "cells", "deeds", "cell", "deed"]) (sc := defScope (inClass (topS 42) 0)) (by decide +kernel)) (fun _ _ _ _ _ => (dg_name 4 nd)) (fun _ _ _ _ _ => dts_nil) (fun _ _ _ _ _ => (de_sub2 hr (de_v 4) de_int)) (fun _ _ _ _ _ => (de_sub2 hr (de_v 4) de_int))))
    (ds_one (ds_fld T.g_Vault T.cl_Vault T.na_Vault_coined (de_v 0) (de_any rfl T.n_any (da_cons (de_lc (own := [("deed", 4)]) rfl nd (di_any (de_v 2)) (blkOk_by (N := ["self", "cells", "deeds", "cell", "deed"]) (sc := defScope (inClass (topS 42) 0)) (by decide +kernel)) (fun _ _ _ _ _ => (dg_name 4 nd)) (fun _ _ _ _ _ => dts_nil) (fun _ _ _ _ _ => (de_call (ok_has_coin T 14) takesF (hr.mono (by omega)) T.g_has_coin T.d_has_coin.kp (bd_has_coin T.d_has_coin) (da_cons (de_sub2 hr (de_v 4) de_int) da_nil) (hn := (dCons_len dNil_len))))) da_nil))))))))))))
noncomputable def F_law_calls : DFn := dfun 1 4
    (sSeq (sSet 1 (dLst dNil))
    (sSeq (sFor (iAny (dV 0)) (bName 2)
    (sFor (iRg1 (dCons (dOp gSub2 (dV 2) (dC (.int 1))) dNil)) (bName 3)
    (sDrop (dM "list" mApp (dV 1) (dCons (dTup (dCons (dOp gSub2 (dV 2) (dC (.int 0))) (dCons (dV 3) dNil))) dNil)))))
    (sRet (dV 1))))
theorem ok_law_calls (T : Tx P w K mg) : DFO P w K mg base 1 T.a_law_calls T.f_law_calls ["deeds"] F_law_calls := fn_def T.d_law_calls sc_law_calls fun cdv A outer s H E hr => by
  have nd := sc_law_calls.nd
  have tk := takes_of (X := cxOf (L2.CX P w) P w K mg base ["deeds", "calls", "deed", "argument"] "_law_calls" (defScope s_law_calls) T.a_law_calls cdv A outer s H E) rfl rfl rfl rfl
  exact (ds_cons (ds_set (i := 1) nd (de_lst da_nil))
    (ds_cons (ds_for (passes_of rfl) rfl (di_any (de_v 0)) (dg_name 2 nd)
    (ds_one (ds_for (passes_of rfl) rfl (di_rg1 T.n_range (da_cons (de_sub2 hr (de_v 2) de_int) da_nil)) (dg_name 3 nd)
    (ds_one (ds_drop (de_app (de_v 1) (da_cons (de_tup (da_cons (de_sub2 hr (de_v 2) de_int) (da_cons (de_v 3) da_nil))) da_nil)))))))
    (ds_one (ds_ret (de_v 1)))))
noncomputable def F_law_draw : DFn := dfun 2 4
    (sSeq (sIf (dTst (dOp gGt (dOp gSub2 (dV 0) (dC (.int 0))) (dC (.int 0))))
    (sSeq (sSet 2 (dOp gMod (dCB (one gIntOf) (dCons (dOp gSub2 (dV 0) (dC (.int 0))) dNil)) (dV 1)))
    (sSeq (sPut2 (dV 0) (dC (.int 0)) (dOp gDiv (dOp gSub2 (dV 0) (dC (.int 0))) (dV 1)))
    (sRet (dV 2))))
    sNext)
    (sSeq (sPut2 (dV 0) (dC (.int 2)) (dOp gAdd (dOp gSub2 (dV 0) (dC (.int 2))) (dC (.int 1))))
    (sSeq (sSet 3 (dOp gMod (dCB (one gIntOf) (dCons (dOp gMul (dOp gAdd (dOp gSub2 (dV 0) (dC (.int 1))) (dC (.int 1))) (dOp gAdd (dOp gMul (dC (.int 7919)) (dOp gSub2 (dV 0) (dC (.int 2)))) (dC (.int 104729)))) dNil)) (dC (.int 2147483647))))
    (sSeq (sSet 3 (dOp gMod (dCB (one gIntOf) (dCons (dOp gMul (dV 3) (dOp gAdd (dOp gDiv (dV 3) (dC (.int 1009))) (dC (.int 69621)))) dNil)) (dC (.int 2147483647))))
    (sSeq (sSet 3 (dOp gMod (dCB (one gIntOf) (dCons (dOp gMul (dV 3) (dOp gAdd (dOp gDiv (dV 3) (dC (.int 2003))) (dC (.int 40692)))) dNil)) (dC (.int 2147483399))))
    (sRet (dOp gMod (dCB (one gIntOf) (dCons (dOp gDiv (dV 3) (dC (.int 16))) dNil)) (dV 1))))))))
theorem ok_law_draw (T : Tx P w K mg) : DFO P w K mg base 1 T.a_law_draw T.f_law_draw ["pool", "many"] F_law_draw := fn_def T.d_law_draw sc_law_draw fun cdv A outer s H E hr => by
  have nd := sc_law_draw.nd
  have tk := takes_of (X := cxOf (L2.CX P w) P w K mg base ["pool", "many", "digit", "number"] "_law_draw" (defScope s_law_draw) T.a_law_draw cdv A outer s H E) rfl rfl rfl rfl
  exact (ds_cons (ds_if (dt_cm cm_gt (de_sub2 hr (de_v 0) de_int) de_int)
    (ds_cons (ds_set (i := 2) nd (de_mod (de_intof T.n_int (da_cons (de_sub2 hr (de_v 0) de_int) da_nil)) (de_v 1)))
    (ds_cons (ds_put2 hr (de_v 0) de_int (pg_sub (de_v 0) de_int set_list) (de_div (de_sub2 hr (de_v 0) de_int) (de_v 1)))
    (ds_one (ds_ret (de_v 2)))))
    ds_nil)
    (ds_cons (ds_put2 hr (de_v 0) de_int (pg_sub (de_v 0) de_int set_list) (de_add (de_sub2 hr (de_v 0) de_int) de_int))
    (ds_cons (ds_set (i := 3) nd (de_mod (de_intof T.n_int (da_cons (de_mul (de_add (de_sub2 hr (de_v 0) de_int) de_int) (de_add (de_mul de_int (de_sub2 hr (de_v 0) de_int)) de_int)) da_nil)) de_int))
    (ds_cons (ds_set (i := 3) nd (de_mod (de_intof T.n_int (da_cons (de_mul (de_v 3) (de_add (de_div (de_v 3) de_int) de_int)) da_nil)) de_int))
    (ds_cons (ds_set (i := 3) nd (de_mod (de_intof T.n_int (da_cons (de_mul (de_v 3) (de_add (de_div (de_v 3) de_int) de_int)) da_nil)) de_int))
    (ds_one (ds_ret (de_mod (de_intof T.n_int (da_cons (de_div (de_v 3) de_int) da_nil)) (de_v 1)))))))))
noncomputable def F_law_cells : DFn := dfun 1 5
    (sSeq (sSet 1 (dOp gAdd (dC (.int 1)) (dCB (fun S ds => F_law_draw ds S) (dCons (dV 0) (dCons (dC (.int 3)) dNil)))))
    (sSeq (sSet 2 (dLst dNil))
    (sSeq (sFor (iRg1 (dCons (dV 1) dNil)) (bName 3)
    (sSeq (sSet 4 (dOp gAdd (dC (.int 2)) (dCB (fun S ds => F_law_draw ds S) (dCons (dV 0) (dCons (dOp gSub (dC (.int 4)) (dOp gMul (dC (.int 2)) (dCB (one gIntOf) (dCons (dOp gEq (dV 1) (dC (.int 3))) dNil)))) dNil)))))
    (sDrop (dM "list" mApp (dV 2) (dCons (dTup (dCons (dV 4) (dCons (dCB (fun S ds => F_law_draw ds S) (dCons (dV 0) (dCons (dV 4) dNil))) dNil))) dNil)))))
    (sRet (dV 2)))))
theorem ok_law_cells (T : Tx P w K mg) : DFO P w K mg base 2 T.a_law_cells T.f_law_cells ["pool"] F_law_cells := fn_def T.d_law_cells sc_law_cells fun cdv A outer s H E hr => by
  have nd := sc_law_cells.nd
  have tk := takes_of (X := cxOf (L2.CX P w) P w K mg base ["pool", "many", "cells", "k", "size"] "_law_cells" (defScope s_law_cells) T.a_law_cells cdv A outer s H E) rfl rfl rfl rfl
  exact (ds_cons (ds_set (i := 1) nd (de_add de_int (de_call (ok_law_draw T) tk (hr.mono (by omega)) T.g_law_draw T.d_law_draw.kp (bd_law_draw T.d_law_draw) (da_cons (de_v 0) (da_cons de_int da_nil)) (hn := (dCons_len (dCons_len dNil_len))))))
    (ds_cons (ds_set (i := 2) nd (de_lst da_nil))
    (ds_cons (ds_for (passes_of rfl) rfl (di_rg1 T.n_range (da_cons (de_v 1) da_nil)) (dg_name 3 nd)
    (ds_cons (ds_set (i := 4) nd (de_add de_int (de_call (ok_law_draw T) tk (hr.mono (by omega)) T.g_law_draw T.d_law_draw.kp (bd_law_draw T.d_law_draw) (da_cons (de_v 0) (da_cons (de_sub de_int (de_mul de_int (de_intof T.n_int (da_cons (de_cm (cm_eq hr) (de_v 1) de_int) da_nil)))) da_nil)) (hn := (dCons_len (dCons_len dNil_len))))))
    (ds_one (ds_drop (de_app (de_v 2) (da_cons (de_tup (da_cons (de_v 4) (da_cons (de_call (ok_law_draw T) tk (hr.mono (by omega)) T.g_law_draw T.d_law_draw.kp (bd_law_draw T.d_law_draw) (da_cons (de_v 0) (da_cons (de_v 4) da_nil)) (hn := (dCons_len (dCons_len dNil_len)))) da_nil))) da_nil))))))
    (ds_one (ds_ret (de_v 2))))))
noncomputable def F_law_e : Nat → DFn
  | 0 => fun _ _ => .bad
  | n + 1 => dfun 2 5
    (sSeq (sSet 2 (dCB (fun S ds => F_law_draw ds S) (dCons (dV 0) (dCons (dC (.int 4)) dNil))))
    (sSeq (sIf (dOr (dTst (dOp gEq (dV 2) (dC (.int 0)))) (dAnd (dTst (dOp gEq (dV 2) (dC (.int 3)))) (dTst (dOp gEq (dV 1) (dC (.int 0))))))
    (sRet (dCB (fun S ds => F_law_draw ds S) (dCons (dV 0) (dCons (dC (.int 10)) dNil))))
    sNext)
    (sSeq (sIf (dTst (dOp gLt (dV 2) (dC (.int 3))))
    (sRet (dOp gSub2 (dC (.str "abcdx")) (dCB (fun S ds => F_law_draw ds S) (dCons (dV 0) (dCons (dC (.int 5)) dNil)))))
    sNext)
    (sSeq (sSet 3 (dOp gSub2 (dC (.str "+-*=<")) (dCB (fun S ds => F_law_draw ds S) (dCons (dV 0) (dCons (dC (.int 5)) dNil)))))
    (sSeq (sSet 4 (dCB (fun S ds => (F_law_e n) ds S) (dCons (dV 0) (dCons (dOp gSub (dV 1) (dC (.int 1))) dNil))))
    (sRet (dTup (dCons (dV 3) (dCons (dV 4) (dCons (dCB (fun S ds => (F_law_e n) ds S) (dCons (dV 0) (dCons (dOp gSub (dV 1) (dC (.int 1))) dNil))) dNil))))))))))
theorem ok_law_e (T : Tx P w K mg) : ∀ n : Nat, DFO P w K mg base (1 + 1 * n) T.a_law_e T.f_law_e ["pool", "depth"] (F_law_e n)
  | 0 => dfo_bad
  | n + 1 => (fn_def T.d_law_e sc_law_e fun cdv A outer s H E hr => by
  have nd := sc_law_e.nd
  have tk := takes_of (X := cxOf (L2.CX P w) P w K mg base ["pool", "depth", "kind", "sign", "left"] "_law_e" (defScope s_law_e) T.a_law_e cdv A outer s H E) rfl rfl rfl rfl
  exact (ds_cons (ds_set (i := 2) nd (de_call (ok_law_draw T) tk (hr.mono (by omega)) T.g_law_draw T.d_law_draw.kp (bd_law_draw T.d_law_draw) (da_cons (de_v 0) (da_cons de_int da_nil)) (hn := (dCons_len (dCons_len dNil_len)))))
    (ds_cons (ds_if (dt_w (dw_or (dt_cm (cm_eq hr) (de_v 2) de_int) (dw_or1 (dt_w (dw_and (dt_cm (cm_eq hr) (de_v 2) de_int) (dw_and1 (dt_cm (cm_eq hr) (de_v 1) de_int)))))))
    (ds_one (ds_ret (de_call (ok_law_draw T) tk (hr.mono (by omega)) T.g_law_draw T.d_law_draw.kp (bd_law_draw T.d_law_draw) (da_cons (de_v 0) (da_cons de_int da_nil)) (hn := (dCons_len (dCons_len dNil_len))))))
    ds_nil)
    (ds_cons (ds_if (dt_cm cm_lt (de_v 2) de_int)
    (ds_one (ds_ret (de_sub2 hr de_str (de_call (ok_law_draw T) tk (hr.mono (by omega)) T.g_law_draw T.d_law_draw.kp (bd_law_draw T.d_law_draw) (da_cons (de_v 0) (da_cons de_int da_nil)) (hn := (dCons_len (dCons_len dNil_len)))))))
    ds_nil)
    (ds_cons (ds_set (i := 3) nd (de_sub2 hr de_str (de_call (ok_law_draw T) tk (hr.mono (by omega)) T.g_law_draw T.d_law_draw.kp (bd_law_draw T.d_law_draw) (da_cons (de_v 0) (da_cons de_int da_nil)) (hn := (dCons_len (dCons_len dNil_len))))))
    (ds_cons (ds_set (i := 4) nd (de_call (ok_law_e T n) tk (hr.mono (by omega)) T.g_law_e T.d_law_e.kp (bd_law_e T.d_law_e) (da_cons (de_v 0) (da_cons (de_sub (de_v 1) de_int) da_nil)) (hn := (dCons_len (dCons_len dNil_len)))))
    (ds_one (ds_ret (de_tup (da_cons (de_v 3) (da_cons (de_v 4) (da_cons (de_call (ok_law_e T n) tk (hr.mono (by omega)) T.g_law_e T.d_law_e.kp (bd_law_e T.d_law_e) (da_cons (de_v 0) (da_cons (de_sub (de_v 1) de_int) da_nil)) (hn := (dCons_len (dCons_len dNil_len)))) da_nil))))))))))) : DFO P w K mg base (1 + 1 * n + 0 + 1) _ _ _ _).mono (by omega)
noncomputable def F_law_rows : Nat → DFn
  | 0 => fun _ _ => .bad
  | n + 1 => dfun 5 13
    (sSeq (sSet 5 (dLst dNil))
    (sSeq (sFor (iRg1 (dCons (dOp gAdd (dCB (one gIntOf) (dCons (dOp gEq (dV 2) (dC (.int 2))) dNil)) (dCB (fun S ds => F_law_draw ds S) (dCons (dV 0) (dCons (dC (.int 3)) dNil)))) dNil)) (bName 6)
    (sSeq (sSet 7 (dCB (fun S ds => F_law_draw ds S) (dCons (dV 0) (dCons (dC (.int 10)) dNil))))
    (sSeq (sSet 8 (dCB (fun S ds => F_law_draw ds S) (dCons (dV 0) (dCons (dV 1) dNil))))
    (sSeq (sSet 9 (dOp gSub2 (dC (.str "abcd")) (dCB (fun S ds => F_law_draw ds S) (dCons (dV 0) (dCons (dC (.int 4)) dNil)))))
    (sSeq (sSet 10 (dCB (fun S ds => (F_law_e 6) ds S) (dCons (dV 0) (dCons (dC (.int 2)) dNil))))
    (sIf (dTst (dOp gLt (dV 7) (dC (.int 2))))
    (sDrop (dM "list" mApp (dV 5) (dCons (dTup (dCons (dC (.str "read")) (dCons (dV 9) (dCons (dV 8) dNil)))) dNil)))
    (sIf (dTst (dOp gLt (dV 7) (dC (.int 4))))
    (sDrop (dM "list" mApp (dV 5) (dCons (dTup (dCons (dC (.str "set")) (dCons (dV 8) (dCons (dV 10) dNil)))) dNil)))
    (sIf (dTst (dOp gEq (dV 7) (dC (.int 4))))
    (sDrop (dM "list" mApp (dV 5) (dCons (dTup (dCons (dC (.str "swap")) (dCons (dV 9) (dCons (dV 8) (dCons (dV 10) (dCons (dCB (fun S ds => (F_law_e 6) ds S) (dCons (dV 0) (dCons (dC (.int 1)) dNil))) dNil)))))) dNil)))
    (sIf (dTst (dOp gEq (dV 7) (dC (.int 5))))
    (sDrop (dM "list" mApp (dV 5) (dCons (dTup (dCons (dC (.str "answer")) (dCons (dV 10) dNil))) dNil)))
    (sIf (dAnd (dTst (dOp gEq (dV 7) (dC (.int 6)))) (dTst (dOp gGt (dV 2) (dC (.int 0)))))
    (sSeq (sSet 11 (dCB (fun S ds => (F_law_rows n) ds S) (dCons (dV 0) (dCons (dV 1) (dCons (dOp gSub (dV 2) (dC (.int 1))) (dCons (dV 3) (dCons (dV 4) dNil)))))))
    (sDrop (dM "list" mApp (dV 5) (dCons (dTup (dCons (dC (.str "if")) (dCons (dV 10) (dCons (dV 11) (dCons (dCB (fun S ds => (F_law_rows n) ds S) (dCons (dV 0) (dCons (dV 1) (dCons (dOp gSub (dV 2) (dC (.int 1))) (dCons (dV 3) (dCons (dV 4) dNil)))))) dNil))))) dNil))))
    (sIf (dAnd (dTst (dOp gEq (dV 7) (dC (.int 7)))) (dTst (dOp gGt (dV 2) (dC (.int 0)))))
    (sSeq (sSet 12 (dCB (fun S ds => F_law_draw ds S) (dCons (dV 0) (dCons (dC (.int 5)) dNil))))
    (sSeq (sIf (dTst (dOp gEq (dV 12) (dC (.int 4))))
    (sSet 12 (dC (.str "x")))
    sNext)
    (sDrop (dM "list" mApp (dV 5) (dCons (dTup (dCons (dC (.str "times")) (dCons (dV 12) (dCons (dCB (fun S ds => (F_law_rows n) ds S) (dCons (dV 0) (dCons (dV 1) (dCons (dOp gSub (dV 2) (dC (.int 1))) (dCons (dOp gAdd (dV 3) (dC (.int 1))) (dCons (dV 4) dNil)))))) dNil)))) dNil)))))
    (sIf (dAnd (dTst (dOp gEq (dV 7) (dC (.int 8)))) (dAnd (dTst (dOp gEq (dV 3) (dC (.int 0)))) (dTst (dOp gGt (dOp gSub2 (dV 4) (dC (.int 0))) (dC (.int 0))))))
    (sSeq (sPut2 (dV 4) (dC (.int 0)) (dOp gSub (dOp gSub2 (dV 4) (dC (.int 0))) (dC (.int 1))))
    (sDrop (dM "list" mApp (dV 5) (dCons (dTup (dCons (dC (.str "coin")) (dCons (dV 9) dNil))) dNil))))
    (sDrop (dM "list" mApp (dV 5) (dCons (dTup (dCons (dC (.str "keep")) (dCons (dV 9) (dCons (dV 10) dNil)))) dNil)))))))))))))))
    (sRet (dCB (one gTuple) (dCons (dV 5) dNil)))))
theorem ok_law_rows (T : Tx P w K mg) : ∀ n : Nat, DFO P w K mg base (7 + 1 * n) T.a_law_rows T.f_law_rows ["pool", "many", "depth", "loops", "budget"] (F_law_rows n)
  | 0 => dfo_bad
  | n + 1 => (fn_def T.d_law_rows sc_law_rows fun cdv A outer s H E hr => by
  have nd := sc_law_rows.nd
  have tk := takes_of (X := cxOf (L2.CX P w) P w K mg base ["pool", "many", "depth", "loops", "budget", "rows", "turn", "kind", "cell", "reg", "e", "first", "count"] "_law_rows" (defScope s_law_rows) T.a_law_rows cdv A outer s H E) rfl rfl rfl rfl
  exact (ds_cons (ds_set (i := 5) nd (de_lst da_nil))
    (ds_cons (ds_for (passes_of rfl) rfl (di_rg1 T.n_range (da_cons (de_add (de_intof T.n_int (da_cons (de_cm (cm_eq hr) (de_v 2) de_int) da_nil)) (de_call (ok_law_draw T) tk (hr.mono (by omega)) T.g_law_draw T.d_law_draw.kp (bd_law_draw T.d_law_draw) (da_cons (de_v 0) (da_cons de_int da_nil)) (hn := (dCons_len (dCons_len dNil_len))))) da_nil)) (dg_name 6 nd)
    (ds_cons (ds_set (i := 7) nd (de_call (ok_law_draw T) tk (hr.mono (by omega)) T.g_law_draw T.d_law_draw.kp (bd_law_draw T.d_law_draw) (da_cons (de_v 0) (da_cons de_int da_nil)) (hn := (dCons_len (dCons_len dNil_len)))))
    (ds_cons (ds_set (i := 8) nd (de_call (ok_law_draw T) tk (hr.mono (by omega)) T.g_law_draw T.d_law_draw.kp (bd_law_draw T.d_law_draw) (da_cons (de_v 0) (da_cons (de_v 1) da_nil)) (hn := (dCons_len (dCons_len dNil_len)))))
    (ds_cons (ds_set (i := 9) nd (de_sub2 hr de_str (de_call (ok_law_draw T) tk (hr.mono (by omega)) T.g_law_draw T.d_law_draw.kp (bd_law_draw T.d_law_draw) (da_cons (de_v 0) (da_cons de_int da_nil)) (hn := (dCons_len (dCons_len dNil_len))))))
    (ds_cons (ds_set (i := 10) nd (de_call (ok_law_e T 6) tk (hr.mono (by omega)) T.g_law_e T.d_law_e.kp (bd_law_e T.d_law_e) (da_cons (de_v 0) (da_cons de_int da_nil)) (hn := (dCons_len (dCons_len dNil_len)))))
    (ds_one (ds_if (dt_cm cm_lt (de_v 7) de_int)
    (ds_one (ds_drop (de_app (de_v 5) (da_cons (de_tup (da_cons de_str (da_cons (de_v 9) (da_cons (de_v 8) da_nil)))) da_nil))))
    (ds_one (ds_if (dt_cm cm_lt (de_v 7) de_int)
    (ds_one (ds_drop (de_app (de_v 5) (da_cons (de_tup (da_cons de_str (da_cons (de_v 8) (da_cons (de_v 10) da_nil)))) da_nil))))
    (ds_one (ds_if (dt_cm (cm_eq hr) (de_v 7) de_int)
    (ds_one (ds_drop (de_app (de_v 5) (da_cons (de_tup (da_cons de_str (da_cons (de_v 9) (da_cons (de_v 8) (da_cons (de_v 10) (da_cons (de_call (ok_law_e T 6) tk (hr.mono (by omega)) T.g_law_e T.d_law_e.kp (bd_law_e T.d_law_e) (da_cons (de_v 0) (da_cons de_int da_nil)) (hn := (dCons_len (dCons_len dNil_len)))) da_nil)))))) da_nil))))
    (ds_one (ds_if (dt_cm (cm_eq hr) (de_v 7) de_int)
    (ds_one (ds_drop (de_app (de_v 5) (da_cons (de_tup (da_cons de_str (da_cons (de_v 10) da_nil))) da_nil))))
    (ds_one (ds_if (dt_w (dw_and (dt_cm (cm_eq hr) (de_v 7) de_int) (dw_and1 (dt_cm cm_gt (de_v 2) de_int))))
    (ds_cons (ds_set (i := 11) nd (de_call (ok_law_rows T n) tk (hr.mono (by omega)) T.g_law_rows T.d_law_rows.kp (bd_law_rows T.d_law_rows) (da_cons (de_v 0) (da_cons (de_v 1) (da_cons (de_sub (de_v 2) de_int) (da_cons (de_v 3) (da_cons (de_v 4) da_nil))))) (hn := (dCons_len (dCons_len (dCons_len (dCons_len (dCons_len dNil_len))))))))
    (ds_one (ds_drop (de_app (de_v 5) (da_cons (de_tup (da_cons de_str (da_cons (de_v 10) (da_cons (de_v 11) (da_cons (de_call (ok_law_rows T n) tk (hr.mono (by omega)) T.g_law_rows T.d_law_rows.kp (bd_law_rows T.d_law_rows) (da_cons (de_v 0) (da_cons (de_v 1) (da_cons (de_sub (de_v 2) de_int) (da_cons (de_v 3) (da_cons (de_v 4) da_nil))))) (hn := (dCons_len (dCons_len (dCons_len (dCons_len (dCons_len dNil_len))))))) da_nil))))) da_nil)))))
    (ds_one (ds_if (dt_w (dw_and (dt_cm (cm_eq hr) (de_v 7) de_int) (dw_and1 (dt_cm cm_gt (de_v 2) de_int))))
    (ds_cons (ds_set (i := 12) nd (de_call (ok_law_draw T) tk (hr.mono (by omega)) T.g_law_draw T.d_law_draw.kp (bd_law_draw T.d_law_draw) (da_cons (de_v 0) (da_cons de_int da_nil)) (hn := (dCons_len (dCons_len dNil_len)))))
    (ds_cons (ds_if (dt_cm (cm_eq hr) (de_v 12) de_int)
    (ds_one (ds_set (i := 12) nd de_str))
    ds_nil)
    (ds_one (ds_drop (de_app (de_v 5) (da_cons (de_tup (da_cons de_str (da_cons (de_v 12) (da_cons (de_call (ok_law_rows T n) tk (hr.mono (by omega)) T.g_law_rows T.d_law_rows.kp (bd_law_rows T.d_law_rows) (da_cons (de_v 0) (da_cons (de_v 1) (da_cons (de_sub (de_v 2) de_int) (da_cons (de_add (de_v 3) de_int) (da_cons (de_v 4) da_nil))))) (hn := (dCons_len (dCons_len (dCons_len (dCons_len (dCons_len dNil_len))))))) da_nil)))) da_nil))))))
    (ds_one (ds_if (dt_w (dw_and (dt_cm (cm_eq hr) (de_v 7) de_int) (dw_and (dt_cm (cm_eq hr) (de_v 3) de_int) (dw_and1 (dt_cm cm_gt (de_sub2 hr (de_v 4) de_int) de_int)))))
    (ds_cons (ds_put2 hr (de_v 4) de_int (pg_sub (de_v 4) de_int set_list) (de_sub (de_sub2 hr (de_v 4) de_int) de_int))
    (ds_one (ds_drop (de_app (de_v 5) (da_cons (de_tup (da_cons de_str (da_cons (de_v 9) da_nil))) da_nil)))))
    (ds_one (ds_drop (de_app (de_v 5) (da_cons (de_tup (da_cons de_str (da_cons (de_v 9) (da_cons (de_v 10) da_nil)))) da_nil)))))))))))))))))))))))
    (ds_one (ds_ret (de_tuple T.n_tuple (da_cons (de_v 5) da_nil)))))) : DFO P w K mg base (7 + 1 * n + 0 + 1) _ _ _ _).mono (by omega)
noncomputable def F_law_coin_tree : Nat → DFn
  | 0 => fun _ _ => .bad
  | n + 1 => dfun 4 10
    (sSeq (sSet 4 (dCB (fun S ds => (F_law_rows 5) ds S) (dCons (dV 0) (dCons (dV 1) (dCons (dC (.int 0)) (dCons (dC (.int 2)) (dCons (dLst (dCons (dC (.int 0)) dNil)) dNil)))))))
    (sSeq (sIf (dOr (dTst (dOp gEq (dV 2) (dC (.int 0)))) (dTst (dOp gEq (dOp gSub2 (dV 3) (dC (.int 0))) (dC (.int 0)))))
    (sRet (dV 4))
    sNext)
    (sSeq (sPut2 (dV 3) (dC (.int 0)) (dOp gSub (dOp gSub2 (dV 3) (dC (.int 0))) (dC (.int 1))))
    (sSeq (sSet 5 (dOp gSub2 (dC (.str "abcd")) (dCB (fun S ds => F_law_draw ds S) (dCons (dV 0) (dCons (dC (.int 4)) dNil)))))
    (sSeq (sSet 6 (dOp gSub2 (dLst (dCons (dV 5) (dCons (dTup (dCons (dC (.str "=")) (dCons (dV 5) (dCons (dC (.str "x")) dNil)))) (dCons (dCB (fun S ds => (F_law_e 6) ds S) (dCons (dV 0) (dCons (dC (.int 1)) dNil))) dNil)))) (dCB (fun S ds => F_law_draw ds S) (dCons (dV 0) (dCons (dC (.int 3)) dNil)))))
    (sSeq (sSet 7 (dTup (dCons (dC (.str "set")) (dCons (dCB (fun S ds => F_law_draw ds S) (dCons (dV 0) (dCons (dV 1) dNil))) (dCons (dTup (dCons (dC (.str "+")) (dCons (dV 5) (dCons (dCB (fun S ds => (F_law_e 6) ds S) (dCons (dV 0) (dCons (dC (.int 0)) dNil))) dNil)))) dNil)))))
    (sSeq (sSet 8 (dCB (fun S ds => (F_law_coin_tree n) ds S) (dCons (dV 0) (dCons (dV 1) (dCons (dOp gSub (dV 2) (dC (.int 1))) (dCons (dV 3) dNil))))))
    (sSeq (sSet 9 (dCB (fun S ds => (F_law_coin_tree n) ds S) (dCons (dV 0) (dCons (dV 1) (dCons (dOp gSub (dV 2) (dC (.int 1))) (dCons (dV 3) dNil))))))
    (sSeq (sSet 4 (dOp gAdd (dV 4) (dTup (dCons (dTup (dCons (dC (.str "coin")) (dCons (dV 5) dNil))) (dCons (dV 7) (dCons (dTup (dCons (dC (.str "if")) (dCons (dV 6) (dCons (dV 8) (dCons (dV 9) dNil))))) dNil))))))
    (sRet (dOp gAdd (dV 4) (dCB (fun S ds => (F_law_coin_tree n) ds S) (dCons (dV 0) (dCons (dV 1) (dCons (dOp gSub (dV 2) (dC (.int 1))) (dCons (dV 3) dNil))))))))))))))))
theorem ok_law_coin_tree (T : Tx P w K mg) : ∀ n : Nat, DFO P w K mg base (12 + 1 * n) T.a_law_coin_tree T.f_law_coin_tree ["pool", "many", "deep", "left"] (F_law_coin_tree n)
  | 0 => dfo_bad
  | n + 1 => (fn_def T.d_law_coin_tree sc_law_coin_tree fun cdv A outer s H E hr => by
  have nd := sc_law_coin_tree.nd
  have tk := takes_of (X := cxOf (L2.CX P w) P w K mg base ["pool", "many", "deep", "left", "rows", "reg", "test", "hidden", "first", "second"] "_law_coin_tree" (defScope s_law_coin_tree) T.a_law_coin_tree cdv A outer s H E) rfl rfl rfl rfl
  exact (ds_cons (ds_set (i := 4) nd (de_call (ok_law_rows T 5) tk (hr.mono (by omega)) T.g_law_rows T.d_law_rows.kp (bd_law_rows T.d_law_rows) (da_cons (de_v 0) (da_cons (de_v 1) (da_cons de_int (da_cons de_int (da_cons (de_lst (da_cons de_int da_nil)) da_nil))))) (hn := (dCons_len (dCons_len (dCons_len (dCons_len (dCons_len dNil_len))))))))
    (ds_cons (ds_if (dt_w (dw_or (dt_cm (cm_eq hr) (de_v 2) de_int) (dw_or1 (dt_cm (cm_eq hr) (de_sub2 hr (de_v 3) de_int) de_int))))
    (ds_one (ds_ret (de_v 4)))
    ds_nil)
    (ds_cons (ds_put2 hr (de_v 3) de_int (pg_sub (de_v 3) de_int set_list) (de_sub (de_sub2 hr (de_v 3) de_int) de_int))
    (ds_cons (ds_set (i := 5) nd (de_sub2 hr de_str (de_call (ok_law_draw T) tk (hr.mono (by omega)) T.g_law_draw T.d_law_draw.kp (bd_law_draw T.d_law_draw) (da_cons (de_v 0) (da_cons de_int da_nil)) (hn := (dCons_len (dCons_len dNil_len))))))
    (ds_cons (ds_set (i := 6) nd (de_sub2 hr (de_lst (da_cons (de_v 5) (da_cons (de_tup (da_cons de_str (da_cons (de_v 5) (da_cons de_str da_nil)))) (da_cons (de_call (ok_law_e T 6) tk (hr.mono (by omega)) T.g_law_e T.d_law_e.kp (bd_law_e T.d_law_e) (da_cons (de_v 0) (da_cons de_int da_nil)) (hn := (dCons_len (dCons_len dNil_len)))) da_nil)))) (de_call (ok_law_draw T) tk (hr.mono (by omega)) T.g_law_draw T.d_law_draw.kp (bd_law_draw T.d_law_draw) (da_cons (de_v 0) (da_cons de_int da_nil)) (hn := (dCons_len (dCons_len dNil_len))))))
    (ds_cons (ds_set (i := 7) nd (de_tup (da_cons de_str (da_cons (de_call (ok_law_draw T) tk (hr.mono (by omega)) T.g_law_draw T.d_law_draw.kp (bd_law_draw T.d_law_draw) (da_cons (de_v 0) (da_cons (de_v 1) da_nil)) (hn := (dCons_len (dCons_len dNil_len)))) (da_cons (de_tup (da_cons de_str (da_cons (de_v 5) (da_cons (de_call (ok_law_e T 6) tk (hr.mono (by omega)) T.g_law_e T.d_law_e.kp (bd_law_e T.d_law_e) (da_cons (de_v 0) (da_cons de_int da_nil)) (hn := (dCons_len (dCons_len dNil_len)))) da_nil)))) da_nil)))))
    (ds_cons (ds_set (i := 8) nd (de_call (ok_law_coin_tree T n) tk (hr.mono (by omega)) T.g_law_coin_tree T.d_law_coin_tree.kp (bd_law_coin_tree T.d_law_coin_tree) (da_cons (de_v 0) (da_cons (de_v 1) (da_cons (de_sub (de_v 2) de_int) (da_cons (de_v 3) da_nil)))) (hn := (dCons_len (dCons_len (dCons_len (dCons_len dNil_len)))))))
    (ds_cons (ds_set (i := 9) nd (de_call (ok_law_coin_tree T n) tk (hr.mono (by omega)) T.g_law_coin_tree T.d_law_coin_tree.kp (bd_law_coin_tree T.d_law_coin_tree) (da_cons (de_v 0) (da_cons (de_v 1) (da_cons (de_sub (de_v 2) de_int) (da_cons (de_v 3) da_nil)))) (hn := (dCons_len (dCons_len (dCons_len (dCons_len dNil_len)))))))
    (ds_cons (ds_set (i := 4) nd (de_add (de_v 4) (de_tup (da_cons (de_tup (da_cons de_str (da_cons (de_v 5) da_nil))) (da_cons (de_v 7) (da_cons (de_tup (da_cons de_str (da_cons (de_v 6) (da_cons (de_v 8) (da_cons (de_v 9) da_nil))))) da_nil))))))
    (ds_one (ds_ret (de_add (de_v 4) (de_call (ok_law_coin_tree T n) tk (hr.mono (by omega)) T.g_law_coin_tree T.d_law_coin_tree.kp (bd_law_coin_tree T.d_law_coin_tree) (da_cons (de_v 0) (da_cons (de_v 1) (da_cons (de_sub (de_v 2) de_int) (da_cons (de_v 3) da_nil)))) (hn := (dCons_len (dCons_len (dCons_len (dCons_len dNil_len)))))))))))))))))) : DFO P w K mg base (12 + 1 * n + 0 + 1) _ _ _ _).mono (by omega)
noncomputable def F_law_body : DFn := dfun 3 8
    (sSeq (sSet 3 (dCB (fun S ds => F_law_draw ds S) (dCons (dV 0) (dCons (dC (.int 12)) dNil))))
    (sSeq (sSet 4 (dCB (fun S ds => F_law_draw ds S) (dCons (dV 0) (dCons (dV 1) dNil))))
    (sSeq (sSet 5 (dCB (fun S ds => F_law_draw ds S) (dCons (dV 0) (dCons (dV 1) dNil))))
    (sSeq (sSet 6 (dCB (fun S ds => (F_law_e 6) ds S) (dCons (dV 0) (dCons (dC (.int 1)) dNil))))
    (sSeq (sIf (dTst (dOp gEq (dV 3) (dC (.int 0))))
    (sRet (dTup (dCons (dTup (dCons (dC (.str "set")) (dCons (dV 4) (dCons (dC (.str "x")) dNil)))) dNil)))
    sNext)
    (sSeq (sIf (dTst (dOp gEq (dV 3) (dC (.int 1))))
    (sRet (dTup (dCons (dTup (dCons (dC (.str "read")) (dCons (dC (.str "a")) (dCons (dV 4) dNil)))) (dCons (dTup (dCons (dC (.str "answer")) (dCons (dC (.str "a")) dNil))) dNil))))
    sNext)
    (sSeq (sIf (dTst (dOp gEq (dV 3) (dC (.int 2))))
    (sRet (dTup (dCons (dTup (dCons (dC (.str "read")) (dCons (dC (.str "a")) (dCons (dV 4) dNil)))) (dCons (dTup (dCons (dC (.str "set")) (dCons (dV 4) (dCons (dTup (dCons (dC (.str "+")) (dCons (dC (.str "a")) (dCons (dV 6) dNil)))) dNil)))) (dCons (dTup (dCons (dC (.str "answer")) (dCons (dC (.str "a")) dNil))) dNil)))))
    sNext)
    (sSeq (sIf (dTst (dOp gEq (dV 3) (dC (.int 3))))
    (sRet (dTup (dCons (dTup (dCons (dC (.str "read")) (dCons (dC (.str "a")) (dCons (dV 4) dNil)))) (dCons (dTup (dCons (dC (.str "set")) (dCons (dV 5) (dCons (dC (.str "a")) dNil)))) (dCons (dTup (dCons (dC (.str "set")) (dCons (dV 4) (dCons (dC (.str "x")) dNil)))) dNil)))))
    sNext)
    (sSeq (sIf (dTst (dOp gEq (dV 3) (dC (.int 4))))
    (sRet (dTup (dCons (dTup (dCons (dC (.str "set")) (dCons (dV 4) (dCons (dV 6) dNil)))) dNil)))
    sNext)
    (sSeq (sIf (dTst (dOp gEq (dV 3) (dC (.int 5))))
    (sRet (dTup (dCons (dTup (dCons (dC (.str "swap")) (dCons (dC (.str "b")) (dCons (dV 4) (dCons (dV 6) (dCons (dC (.str "x")) dNil)))))) (dCons (dTup (dCons (dC (.str "answer")) (dCons (dC (.str "b")) dNil))) dNil))))
    sNext)
    (sSeq (sIf (dTst (dOp gEq (dV 3) (dC (.int 6))))
    (sRet (dTup (dCons (dTup (dCons (dC (.str "read")) (dCons (dC (.str "a")) (dCons (dV 4) dNil)))) (dCons (dTup (dCons (dC (.str "read")) (dCons (dC (.str "b")) (dCons (dV 5) dNil)))) (dCons (dTup (dCons (dC (.str "if")) (dCons (dTup (dCons (dC (.str "=")) (dCons (dC (.str "a")) (dCons (dC (.str "b")) dNil)))) (dCons (dTup (dCons (dTup (dCons (dC (.str "answer")) (dCons (dV 6) dNil))) dNil)) (dCons (dTup (dCons (dTup (dCons (dC (.str "set")) (dCons (dV 4) (dCons (dC (.str "b")) dNil)))) dNil)) dNil))))) dNil)))))
    sNext)
    (sSeq (sIf (dTst (dOp gEq (dV 3) (dC (.int 7))))
    (sRet (dTup (dCons (dTup (dCons (dC (.str "read")) (dCons (dC (.str "a")) (dCons (dV 4) dNil)))) (dCons (dTup (dCons (dC (.str "read")) (dCons (dC (.str "b")) (dCons (dV 5) dNil)))) (dCons (dTup (dCons (dC (.str "set")) (dCons (dV 4) (dCons (dC (.str "b")) dNil)))) (dCons (dTup (dCons (dC (.str "set")) (dCons (dV 5) (dCons (dC (.str "a")) dNil)))) dNil))))))
    sNext)
    (sSeq (sIf (dAnd (dTst (dOp gEq (dV 3) (dC (.int 8)))) (dTst (dOp gGt (dV 2) (dC (.int 0)))))
    (sSeq (sSet 7 (dTup (dCons (dC (.str "if")) (dCons (dC (.str "a")) (dCons (dTup (dCons (dTup (dCons (dC (.str "answer")) (dCons (dC (.int 0)) dNil))) dNil)) (dCons (dTup dNil) dNil))))))
    (sRet (dTup (dCons (dTup (dCons (dC (.str "read")) (dCons (dC (.str "a")) (dCons (dV 4) dNil)))) (dCons (dV 7) (dCons (dTup (dCons (dC (.str "coin")) (dCons (dC (.str "b")) dNil))) (dCons (dTup (dCons (dC (.str "set")) (dCons (dV 4) (dCons (dTup (dCons (dC (.str "+")) (dCons (dC (.str "b")) (dCons (dC (.int 1)) dNil)))) dNil)))) (dCons (dTup (dCons (dC (.str "answer")) (dCons (dC (.int 1)) dNil))) dNil))))))))
    sNext)
    (sSeq (sIf (dAnd (dTst (dOp gEq (dV 3) (dC (.int 9)))) (dTst (dOp gGt (dV 2) (dC (.int 0)))))
    (sRet (dTup (dCons (dTup (dCons (dC (.str "coin")) (dCons (dC (.str "b")) dNil))) (dCons (dTup (dCons (dC (.str "set")) (dCons (dV 4) (dCons (dTup (dCons (dC (.str "+")) (dCons (dC (.str "b")) (dCons (dC (.str "x")) dNil)))) dNil)))) dNil))))
    sNext)
    (sRet (dCB (fun S ds => (F_law_rows 5) ds S) (dCons (dV 0) (dCons (dV 1) (dCons (dC (.int 2)) (dCons (dC (.int 0)) (dCons (dLst (dCons (dV 2) dNil)) dNil)))))))))))))))))))))
theorem ok_law_body (T : Tx P w K mg) : DFO P w K mg base 13 T.a_law_body T.f_law_body ["pool", "many", "coins"] F_law_body := fn_def T.d_law_body sc_law_body fun cdv A outer s H E hr => by
  have nd := sc_law_body.nd
  have tk := takes_of (X := cxOf (L2.CX P w) P w K mg base ["pool", "many", "coins", "kind", "c", "d", "e", "stop"] "_law_body" (defScope s_law_body) T.a_law_body cdv A outer s H E) rfl rfl rfl rfl
  exact (ds_cons (ds_set (i := 3) nd (de_call (ok_law_draw T) tk (hr.mono (by omega)) T.g_law_draw T.d_law_draw.kp (bd_law_draw T.d_law_draw) (da_cons (de_v 0) (da_cons de_int da_nil)) (hn := (dCons_len (dCons_len dNil_len)))))
    (ds_cons (ds_set (i := 4) nd (de_call (ok_law_draw T) tk (hr.mono (by omega)) T.g_law_draw T.d_law_draw.kp (bd_law_draw T.d_law_draw) (da_cons (de_v 0) (da_cons (de_v 1) da_nil)) (hn := (dCons_len (dCons_len dNil_len)))))
    (ds_cons (ds_set (i := 5) nd (de_call (ok_law_draw T) tk (hr.mono (by omega)) T.g_law_draw T.d_law_draw.kp (bd_law_draw T.d_law_draw) (da_cons (de_v 0) (da_cons (de_v 1) da_nil)) (hn := (dCons_len (dCons_len dNil_len)))))
    (ds_cons (ds_set (i := 6) nd (de_call (ok_law_e T 6) tk (hr.mono (by omega)) T.g_law_e T.d_law_e.kp (bd_law_e T.d_law_e) (da_cons (de_v 0) (da_cons de_int da_nil)) (hn := (dCons_len (dCons_len dNil_len)))))
    (ds_cons (ds_if (dt_cm (cm_eq hr) (de_v 3) de_int)
    (ds_one (ds_ret (de_tup (da_cons (de_tup (da_cons de_str (da_cons (de_v 4) (da_cons de_str da_nil)))) da_nil))))
    ds_nil)
    (ds_cons (ds_if (dt_cm (cm_eq hr) (de_v 3) de_int)
    (ds_one (ds_ret (de_tup (da_cons (de_tup (da_cons de_str (da_cons de_str (da_cons (de_v 4) da_nil)))) (da_cons (de_tup (da_cons de_str (da_cons de_str da_nil))) da_nil)))))
    ds_nil)
    (ds_cons (ds_if (dt_cm (cm_eq hr) (de_v 3) de_int)
    (ds_one (ds_ret (de_tup (da_cons (de_tup (da_cons de_str (da_cons de_str (da_cons (de_v 4) da_nil)))) (da_cons (de_tup (da_cons de_str (da_cons (de_v 4) (da_cons (de_tup (da_cons de_str (da_cons de_str (da_cons (de_v 6) da_nil)))) da_nil)))) (da_cons (de_tup (da_cons de_str (da_cons de_str da_nil))) da_nil))))))
    ds_nil)
    (ds_cons (ds_if (dt_cm (cm_eq hr) (de_v 3) de_int)
    (ds_one (ds_ret (de_tup (da_cons (de_tup (da_cons de_str (da_cons de_str (da_cons (de_v 4) da_nil)))) (da_cons (de_tup (da_cons de_str (da_cons (de_v 5) (da_cons de_str da_nil)))) (da_cons (de_tup (da_cons de_str (da_cons (de_v 4) (da_cons de_str da_nil)))) da_nil))))))
    ds_nil)
    (ds_cons (ds_if (dt_cm (cm_eq hr) (de_v 3) de_int)
    (ds_one (ds_ret (de_tup (da_cons (de_tup (da_cons de_str (da_cons (de_v 4) (da_cons (de_v 6) da_nil)))) da_nil))))
    ds_nil)
    (ds_cons (ds_if (dt_cm (cm_eq hr) (de_v 3) de_int)
    (ds_one (ds_ret (de_tup (da_cons (de_tup (da_cons de_str (da_cons de_str (da_cons (de_v 4) (da_cons (de_v 6) (da_cons de_str da_nil)))))) (da_cons (de_tup (da_cons de_str (da_cons de_str da_nil))) da_nil)))))
    ds_nil)
    (ds_cons (ds_if (dt_cm (cm_eq hr) (de_v 3) de_int)
    (ds_one (ds_ret (de_tup (da_cons (de_tup (da_cons de_str (da_cons de_str (da_cons (de_v 4) da_nil)))) (da_cons (de_tup (da_cons de_str (da_cons de_str (da_cons (de_v 5) da_nil)))) (da_cons (de_tup (da_cons de_str (da_cons (de_tup (da_cons de_str (da_cons de_str (da_cons de_str da_nil)))) (da_cons (de_tup (da_cons (de_tup (da_cons de_str (da_cons (de_v 6) da_nil))) da_nil)) (da_cons (de_tup (da_cons (de_tup (da_cons de_str (da_cons (de_v 4) (da_cons de_str da_nil)))) da_nil)) da_nil))))) da_nil))))))
    ds_nil)
    (ds_cons (ds_if (dt_cm (cm_eq hr) (de_v 3) de_int)
    (ds_one (ds_ret (de_tup (da_cons (de_tup (da_cons de_str (da_cons de_str (da_cons (de_v 4) da_nil)))) (da_cons (de_tup (da_cons de_str (da_cons de_str (da_cons (de_v 5) da_nil)))) (da_cons (de_tup (da_cons de_str (da_cons (de_v 4) (da_cons de_str da_nil)))) (da_cons (de_tup (da_cons de_str (da_cons (de_v 5) (da_cons de_str da_nil)))) da_nil)))))))
    ds_nil)
    (ds_cons (ds_if (dt_w (dw_and (dt_cm (cm_eq hr) (de_v 3) de_int) (dw_and1 (dt_cm cm_gt (de_v 2) de_int))))
    (ds_cons (ds_set (i := 7) nd (de_tup (da_cons de_str (da_cons de_str (da_cons (de_tup (da_cons (de_tup (da_cons de_str (da_cons de_int da_nil))) da_nil)) (da_cons (de_tup da_nil) da_nil))))))
    (ds_one (ds_ret (de_tup (da_cons (de_tup (da_cons de_str (da_cons de_str (da_cons (de_v 4) da_nil)))) (da_cons (de_v 7) (da_cons (de_tup (da_cons de_str (da_cons de_str da_nil))) (da_cons (de_tup (da_cons de_str (da_cons (de_v 4) (da_cons (de_tup (da_cons de_str (da_cons de_str (da_cons de_int da_nil)))) da_nil)))) (da_cons (de_tup (da_cons de_str (da_cons de_int da_nil))) da_nil)))))))))
    ds_nil)
    (ds_cons (ds_if (dt_w (dw_and (dt_cm (cm_eq hr) (de_v 3) de_int) (dw_and1 (dt_cm cm_gt (de_v 2) de_int))))
    (ds_one (ds_ret (de_tup (da_cons (de_tup (da_cons de_str (da_cons de_str da_nil))) (da_cons (de_tup (da_cons de_str (da_cons (de_v 4) (da_cons (de_tup (da_cons de_str (da_cons de_str (da_cons de_str da_nil)))) da_nil)))) da_nil)))))
    ds_nil)
    (ds_one (ds_ret (de_call (ok_law_rows T 5) tk (hr.mono (by omega)) T.g_law_rows T.d_law_rows.kp (bd_law_rows T.d_law_rows) (da_cons (de_v 0) (da_cons (de_v 1) (da_cons de_int (da_cons de_int (da_cons (de_lst (da_cons (de_v 2) da_nil)) da_nil))))) (hn := (dCons_len (dCons_len (dCons_len (dCons_len (dCons_len dNil_len)))))))))))))))))))))))
noncomputable def F_law_deeds : DFn := dfun 3 9
    (sSeq (sSet 3 (dC (.str "abcdefghijklmnopqrstuvwxyz")))
    (sSeq (sSet 4 (dLst dNil))
    (sSeq (sFor (iRg1 (dCons (dOp gAdd (dC (.int 1)) (dCB (fun S ds => F_law_draw ds S) (dCons (dV 0) (dCons (dC (.int 4)) dNil)))) dNil)) (bName 5)
    (sSeq (sSet 6 (dM "str" mJoin (dC (.str "")) (dCons (dLc (iRg1 (dCons (dCB (fun S ds => F_law_draw ds S) (dCons (dV 0) (dCons (dC (.int 3)) dNil))) dNil)) (bName 8) tTrue (dOp gSub2 (dV 3) (dCB (fun S ds => F_law_draw ds S) (dCons (dV 0) (dCons (dC (.int 26)) dNil)))) [8]) dNil)))
    (sSeq (sSet 6 (dOp gAdd (dV 6) (dOp gSub2 (dV 3) (dOp gAdd (dOp gMul (dC (.int 4)) (dCB (fun S ds => F_law_draw ds S) (dCons (dV 0) (dCons (dC (.int 6)) dNil)))) (dOp gMod (dOp gAdd (dOp gMul (dC (.int 3)) (dV 5)) (dC (.int 1))) (dC (.int 4)))))))
    (sSeq (sSet 7 (dOp gAdd (dC (.int 1)) (dCB (fun S ds => F_law_draw ds S) (dCons (dV 0) (dCons (dC (.int 3)) dNil)))))
    (sDrop (dM "list" mApp (dV 4) (dCons (dTup (dCons (dV 6) (dCons (dV 7) (dCons (dCB (fun S ds => F_law_body ds S) (dCons (dV 0) (dCons (dV 1) (dCons (dV 2) dNil)))) dNil)))) dNil)))))))
    (sRet (dV 4)))))
theorem ok_law_deeds (T : Tx P w K mg) : DFO P w K mg base 14 T.a_law_deeds T.f_law_deeds ["pool", "many", "coins"] F_law_deeds := fn_def T.d_law_deeds sc_law_deeds fun cdv A outer s H E hr => by
  have nd := sc_law_deeds.nd
  have tk := takes_of (X := cxOf (L2.CX P w) P w K mg base ["pool", "many", "coins", "letters", "deeds", "k", "name", "choices", "turn"] "_law_deeds" (defScope s_law_deeds) T.a_law_deeds cdv A outer s H E) rfl rfl rfl rfl
  exact (ds_cons (ds_set (i := 3) nd de_str)
    (ds_cons (ds_set (i := 4) nd (de_lst da_nil))
    (ds_cons (ds_for (passes_of rfl) rfl (di_rg1 T.n_range (da_cons (de_add de_int (de_call (ok_law_draw T) tk (hr.mono (by omega)) T.g_law_draw T.d_law_draw.kp (bd_law_draw T.d_law_draw) (da_cons (de_v 0) (da_cons de_int da_nil)) (hn := (dCons_len (dCons_len dNil_len))))) da_nil)) (dg_name 5 nd)
    (ds_cons (ds_set (i := 6) nd (de_join de_str (da_cons (de_lc (own := [("turn", 8)]) rfl nd (di_rg1 T.n_range (da_cons (de_call (ok_law_draw T) tk (hr.mono (by omega)) T.g_law_draw T.d_law_draw.kp (bd_law_draw T.d_law_draw) (da_cons (de_v 0) (da_cons de_int da_nil)) (hn := (dCons_len (dCons_len dNil_len)))) da_nil)) (blkOk_by (N := ["pool", "many", "coins", "letters", "deeds", "k", "name", "choices", "turn"]) (sc := defScope (topS 51)) (by decide +kernel)) (fun _ _ _ _ _ => (dg_name 8 nd)) (fun _ _ _ _ _ => dts_nil) (fun _ _ _ _ _ => (de_sub2 hr (de_v 3) (de_call (ok_law_draw T) takesF (hr.mono (by omega)) T.g_law_draw T.d_law_draw.kp (bd_law_draw T.d_law_draw) (da_cons (de_v 0) (da_cons de_int da_nil)) (hn := (dCons_len (dCons_len dNil_len))))))) da_nil)))
    (ds_cons (ds_set (i := 6) nd (de_add (de_v 6) (de_sub2 hr (de_v 3) (de_add (de_mul de_int (de_call (ok_law_draw T) tk (hr.mono (by omega)) T.g_law_draw T.d_law_draw.kp (bd_law_draw T.d_law_draw) (da_cons (de_v 0) (da_cons de_int da_nil)) (hn := (dCons_len (dCons_len dNil_len))))) (de_mod (de_add (de_mul de_int (de_v 5)) de_int) de_int)))))
    (ds_cons (ds_set (i := 7) nd (de_add de_int (de_call (ok_law_draw T) tk (hr.mono (by omega)) T.g_law_draw T.d_law_draw.kp (bd_law_draw T.d_law_draw) (da_cons (de_v 0) (da_cons de_int da_nil)) (hn := (dCons_len (dCons_len dNil_len))))))
    (ds_one (ds_drop (de_app (de_v 4) (da_cons (de_tup (da_cons (de_v 6) (da_cons (de_v 7) (da_cons (de_call (ok_law_body T) tk (hr.mono (by omega)) T.g_law_body T.d_law_body.kp (bd_law_body T.d_law_body) (da_cons (de_v 0) (da_cons (de_v 1) (da_cons (de_v 2) da_nil))) (hn := (dCons_len (dCons_len (dCons_len dNil_len))))) da_nil)))) da_nil))))))))
    (ds_one (ds_ret (de_v 4))))))
noncomputable def F_law_coin_vault : DFn := dfun 2 5
    (sSeq (sSet 2 (dCB (fun S ds => F_law_deeds ds S) (dCons (dV 0) (dCons (dCB (one gLen) (dCons (dV 1) dNil)) (dCons (dC (.int 4)) dNil)))))
    (sSeq (sSet 3 (dCB (fun S ds => F_law_draw ds S) (dCons (dV 0) (dCons (dCB (one gLen) (dCons (dV 2) dNil)) dNil))))
    (sSeq (sSet 4 (dCB (fun S ds => (F_law_coin_tree 6) ds S) (dCons (dV 0) (dCons (dCB (one gLen) (dCons (dV 1) dNil)) (dCons (dC (.int 4)) (dCons (dLst (dCons (dOp gAdd (dC (.int 1)) (dCB (fun S ds => F_law_draw ds S) (dCons (dV 0) (dCons (dC (.int 4)) dNil)))) dNil)) dNil))))))
    (sSeq (sPut2 (dV 2) (dV 3) (dTup (dCons (dOp gSub2 (dOp gSub2 (dV 2) (dV 3)) (dC (.int 0))) (dCons (dOp gSub2 (dOp gSub2 (dV 2) (dV 3)) (dC (.int 1))) (dCons (dOp gAdd (dV 4) (dTup (dCons (dTup (dCons (dC (.str "answer")) (dCons (dCB (fun S ds => (F_law_e 6) ds S) (dCons (dV 0) (dCons (dC (.int 2)) dNil))) dNil))) dNil))) dNil)))))
    (sRet (dV 2))))))
theorem ok_law_coin_vault (T : Tx P w K mg) : DFO P w K mg base 19 T.a_law_coin_vault T.f_law_coin_vault ["pool", "cells"] F_law_coin_vault := fn_def T.d_law_coin_vault sc_law_coin_vault fun cdv A outer s H E hr => by
  have nd := sc_law_coin_vault.nd
  have tk := takes_of (X := cxOf (L2.CX P w) P w K mg base ["pool", "cells", "deeds", "at", "rows"] "_law_coin_vault" (defScope s_law_coin_vault) T.a_law_coin_vault cdv A outer s H E) rfl rfl rfl rfl
  exact (ds_cons (ds_set (i := 2) nd (de_call (ok_law_deeds T) tk (hr.mono (by omega)) T.g_law_deeds T.d_law_deeds.kp (bd_law_deeds T.d_law_deeds) (da_cons (de_v 0) (da_cons (de_len T.n_len (da_cons (de_v 1) da_nil)) (da_cons de_int da_nil))) (hn := (dCons_len (dCons_len (dCons_len dNil_len))))))
    (ds_cons (ds_set (i := 3) nd (de_call (ok_law_draw T) tk (hr.mono (by omega)) T.g_law_draw T.d_law_draw.kp (bd_law_draw T.d_law_draw) (da_cons (de_v 0) (da_cons (de_len T.n_len (da_cons (de_v 2) da_nil)) da_nil)) (hn := (dCons_len (dCons_len dNil_len)))))
    (ds_cons (ds_set (i := 4) nd (de_call (ok_law_coin_tree T 6) tk (hr.mono (by omega)) T.g_law_coin_tree T.d_law_coin_tree.kp (bd_law_coin_tree T.d_law_coin_tree) (da_cons (de_v 0) (da_cons (de_len T.n_len (da_cons (de_v 1) da_nil)) (da_cons de_int (da_cons (de_lst (da_cons (de_add de_int (de_call (ok_law_draw T) tk (hr.mono (by omega)) T.g_law_draw T.d_law_draw.kp (bd_law_draw T.d_law_draw) (da_cons (de_v 0) (da_cons de_int da_nil)) (hn := (dCons_len (dCons_len dNil_len))))) da_nil)) da_nil)))) (hn := (dCons_len (dCons_len (dCons_len (dCons_len dNil_len)))))))
    (ds_cons (ds_put2 hr (de_v 2) (de_v 3) (pg_sub (de_v 2) (de_v 3) set_list) (de_tup (da_cons (de_sub2 hr (de_sub2 hr (de_v 2) (de_v 3)) de_int) (da_cons (de_sub2 hr (de_sub2 hr (de_v 2) (de_v 3)) de_int) (da_cons (de_add (de_v 4) (de_tup (da_cons (de_tup (da_cons de_str (da_cons (de_call (ok_law_e T 6) tk (hr.mono (by omega)) T.g_law_e T.d_law_e.kp (bd_law_e T.d_law_e) (da_cons (de_v 0) (da_cons de_int da_nil)) (hn := (dCons_len (dCons_len dNil_len)))) da_nil))) da_nil))) da_nil)))))
    (ds_one (ds_ret (de_v 2)))))))
noncomputable def F_is_state_of : DFn := dfun 2 4
    (sSeq (sIf (dOr (dNot (dTst (dCB gIsi (dCons (dV 1) (dCons (dC (.ty "tuple")) dNil))))) (dTst (dOp gNe (dCB (one gLen) (dCons (dV 1) dNil)) (dCB (one gLen) (dCons (dV 0) dNil)))))
    (sRet (dC (.bl false)))
    sNext)
    (sSeq (sFor (iZip2 (dCons (dV 0) (dCons (dV 1) dNil))) (bTup 2 (bCons (bName 2) (bCons (bName 3) bNil)))
    (sIf (dOr (dNot (dTst (dCB (fun S ds => F_is_integer ds S) (dCons (dV 3) dNil)))) (dNot (dTst (dChain gLe gLt (dC (.int 0)) (dV 3) (dV 2)))))
    (sRet (dC (.bl false)))
    sNext))
    (sRet (dC (.bl true)))))
theorem ok_is_state_of (T : Tx P w K mg) : DFO P w K mg base 2 T.a_is_state_of T.f_is_state_of ["sizes", "thing"] F_is_state_of := fn_def T.d_is_state_of sc_is_state_of fun cdv A outer s H E hr => by
  have nd := sc_is_state_of.nd
  have tk := takes_of (X := cxOf (L2.CX P w) P w K mg base ["sizes", "thing", "size", "held"] "is_state_of" (defScope s_is_state_of) T.a_is_state_of cdv A outer s H E) rfl rfl rfl rfl
  exact (ds_cons (ds_if (dt_w (dw_or (dt_not (dt_v (de_isi T.n_isinstance (da_cons (de_v 1) (da_cons (de_ty T.n_tuple (by decide +kernel)) da_nil))))) (dw_or1 (dt_cm (cm_ne hr) (de_len T.n_len (da_cons (de_v 1) da_nil)) (de_len T.n_len (da_cons (de_v 0) da_nil))))))
    (ds_one (ds_ret de_bl))
    ds_nil)
    (ds_cons (ds_for (passes_of rfl) rfl (di_zip2 T.n_zip (da_cons (de_v 0) (da_cons (de_v 1) da_nil))) (dg_tup rfl (dgs_cons (dg_name 2 nd) (dgs_cons (dg_name 3 nd) dgs_nil)))
    (ds_one (ds_if (dt_w (dw_or (dt_not (dt_v (de_call (ok_is_integer T) tk (hr.mono (by omega)) T.g_is_integer T.d_is_integer.kp (bd_is_integer T.d_is_integer) (da_cons (de_v 3) da_nil) (hn := (dCons_len dNil_len))))) (dw_or1 (dt_not (dt_cm2 cm_le cm_lt de_int (de_v 3) (de_v 2))))))
    (ds_one (ds_ret de_bl))
    ds_nil)))
    (ds_one (ds_ret de_bl))))
noncomputable def F_is_state : DFn := dfun 2 2
    (sRet (dCB (fun S ds => F_is_state_of ds S) (dCons (dFld "Vault" "size_row" (dV 0)) (dCons (dV 1) dNil))))
theorem ok_is_state (T : Tx P w K mg) : DFO P w K mg base 3 T.a_is_state T.f_is_state ["vault", "thing"] F_is_state := fn_def T.d_is_state sc_is_state fun cdv A outer s H E hr => by
  have nd := sc_is_state.nd
  have tk := takes_of (X := cxOf (L2.CX P w) P w K mg base ["vault", "thing"] "is_state" (defScope s_is_state) T.a_is_state cdv A outer s H E) rfl rfl rfl rfl
  exact (ds_one (ds_ret (de_call (ok_is_state_of T) tk (hr.mono (by omega)) T.g_is_state_of T.d_is_state_of.kp (bd_is_state_of T.d_is_state_of) (da_cons (de_fld T.g_Vault T.cl_Vault T.na_Vault_size_row (de_v 0)) (da_cons (de_v 1) da_nil)) (hn := (dCons_len (dCons_len dNil_len))))))
noncomputable def F_check_state : DFn := dfun 2 2
    (sIf (dNot (dTst (dCB (fun S ds => F_is_state ds S) (dCons (dV 0) (dCons (dV 1) dNil)))))
    sBad
    sNext)
theorem ok_check_state (T : Tx P w K mg) : DFO P w K mg base 4 T.a_check_state T.f_check_state ["vault", "thing"] F_check_state := fn_def T.d_check_state sc_check_state fun cdv A outer s H E hr => by
  have nd := sc_check_state.nd
  have tk := takes_of (X := cxOf (L2.CX P w) P w K mg base ["vault", "thing"] "check_state" (defScope s_check_state) T.a_check_state cdv A outer s H E) rfl rfl rfl rfl
  exact (ds_one (ds_if (dt_not (dt_v (de_call (ok_is_state T) tk (hr.mono (by omega)) T.g_is_state T.d_is_state.kp (bd_is_state T.d_is_state) (da_cons (de_v 0) (da_cons (de_v 1) da_nil)) (hn := (dCons_len (dCons_len dNil_len))))))
    (ds_one ds_bad)
    ds_nil))
noncomputable def F_begun : DFn := dfun 2 5
    (sSeq (sDrop (dCB (fun S ds => F_check_state ds S) (dCons (dV 0) (dCons (dV 1) dNil))))
    (sSeq (sSet 2 (dLc (iZip2 (dCons (dFld "Vault" "size_row" (dV 0)) (dCons (dV 1) dNil))) (bTup 2 (bCons (bName 4) (bCons (bName 3) bNil))) tTrue (dTup (dCons (dV 4) (dCons (dV 3) dNil))) [3, 4]))
    (sRet (dMake "Vault" F_Vault___init__ (dCons (dV 2) (dCons (dCB (one gList) (dCons (dFld "Vault" "deed_row" (dV 0)) dNil)) dNil))))))
theorem ok_begun (T : Tx P w K mg) : DFO P w K mg base 55 T.a_begun T.f_begun ["vault", "state"] F_begun := fn_def T.d_begun sc_begun fun cdv A outer s H E hr => by
  have nd := sc_begun.nd
  have tk := takes_of (X := cxOf (L2.CX P w) P w K mg base ["vault", "state", "cells", "held", "size"] "begun" (defScope s_begun) T.a_begun cdv A outer s H E) rfl rfl rfl rfl
  exact (ds_cons (ds_drop (de_call (ok_check_state T) tk (hr.mono (by omega)) T.g_check_state T.d_check_state.kp (bd_check_state T.d_check_state) (da_cons (de_v 0) (da_cons (de_v 1) da_nil)) (hn := (dCons_len (dCons_len dNil_len)))))
    (ds_cons (ds_setLc (i := 2) (own := [("held", 3), ("size", 4)]) rfl nd (di_zip2 T.n_zip (da_cons (de_fld T.g_Vault T.cl_Vault T.na_Vault_size_row (de_v 0)) (da_cons (de_v 1) da_nil))) (blkOk_by (N := ["vault", "state", "cells", "held", "size"]) (sc := defScope (topS 43)) (by decide +kernel)) (fun _ _ _ _ _ => (dg_tup rfl (dgs_cons (dg_name 4 nd) (dgs_cons (dg_name 3 nd) dgs_nil)))) (fun _ _ _ _ _ => dts_nil) (fun _ _ _ _ _ => (de_tup (da_cons (de_v 4) (da_cons (de_v 3) da_nil)))) (sw_true rfl rfl rfl (by decide +kernel)))
    (ds_one (ds_ret (de_make T.mk_Vault (ok_Vault___init__ T) tk (hr.mono (by omega)) T.g_Vault (bd_Vault___init__ T.d_Vault___init__) (da_cons (de_v 2) (da_cons (de_list T.n_list (da_cons (de_fld T.g_Vault T.cl_Vault T.na_Vault_deed_row (de_v 0)) da_nil)) da_nil)) (hn := (dCons_len (dCons_len dNil_len))))))))
noncomputable def F_is_call : DFn := dfun 2 2
    (sSeq (sIf (dOr (dNot (dTst (dCB gIsi (dCons (dV 1) (dCons (dC (.ty "tuple")) dNil))))) (dTst (dOp gNe (dCB (one gLen) (dCons (dV 1) dNil)) (dC (.int 2)))))
    (sRet (dC (.bl false)))
    sNext)
    (sSeq (sIf (dOr (dNot (dTst (dCB gIsi (dCons (dOp gSub2 (dV 1) (dC (.int 0))) (dCons (dC (.ty "str")) dNil))))) (dNot (dTst (dCB (fun S ds => F_is_integer ds S) (dCons (dOp gSub2 (dV 1) (dC (.int 1))) dNil)))))
    (sRet (dC (.bl false)))
    sNext)
    (sRet (dAndV (dOp (gIn2 false) (dOp gSub2 (dV 1) (dC (.int 0))) (dFld "Vault" "choice_table" (dV 0))) (dChain gLe gLt (dC (.int 0)) (dOp gSub2 (dV 1) (dC (.int 1))) (dOp gSub2 (dFld "Vault" "choice_table" (dV 0)) (dOp gSub2 (dV 1) (dC (.int 0)))))))))
theorem ok_is_call (T : Tx P w K mg) : DFO P w K mg base 2 T.a_is_call T.f_is_call ["vault", "thing"] F_is_call := fn_def T.d_is_call sc_is_call fun cdv A outer s H E hr => by
  have nd := sc_is_call.nd
  have tk := takes_of (X := cxOf (L2.CX P w) P w K mg base ["vault", "thing"] "is_call" (defScope s_is_call) T.a_is_call cdv A outer s H E) rfl rfl rfl rfl
  exact (ds_cons (ds_if (dt_w (dw_or (dt_not (dt_v (de_isi T.n_isinstance (da_cons (de_v 1) (da_cons (de_ty T.n_tuple (by decide +kernel)) da_nil))))) (dw_or1 (dt_cm (cm_ne hr) (de_len T.n_len (da_cons (de_v 1) da_nil)) de_int))))
    (ds_one (ds_ret de_bl))
    ds_nil)
    (ds_cons (ds_if (dt_w (dw_or (dt_not (dt_v (de_isi T.n_isinstance (da_cons (de_sub2 hr (de_v 1) de_int) (da_cons (de_ty T.n_str (by decide +kernel)) da_nil))))) (dw_or1 (dt_not (dt_v (de_call (ok_is_integer T) tk (hr.mono (by omega)) T.g_is_integer T.d_is_integer.kp (bd_is_integer T.d_is_integer) (da_cons (de_sub2 hr (de_v 1) de_int) da_nil) (hn := (dCons_len dNil_len))))))))
    (ds_one (ds_ret de_bl))
    ds_nil)
    (ds_one (ds_ret (de_and (de_in2 hr (de_sub2 hr (de_v 1) de_int) (de_fld T.g_Vault T.cl_Vault T.na_Vault_choice_table (de_v 0))) (de_one (de_cm2 cm_le cm_lt de_int (de_sub2 hr (de_v 1) de_int) (de_sub2 hr (de_fld T.g_Vault T.cl_Vault T.na_Vault_choice_table (de_v 0)) (de_sub2 hr (de_v 1) de_int)))))))))
noncomputable def F_row_fault : DFn := dfun 2 4
    (sSeq (sIf (dNot (dTst (dCB gIsi (dCons (dV 1) (dCons (dC (.ty "list")) dNil)))))
    (sRet (dUn gNeg (dC (.int 1))))
    sNext)
    (sSeq (sFor (iEn (dCons (dV 1) dNil)) (bTup 2 (bCons (bName 2) (bCons (bName 3) bNil)))
    (sIf (dNot (dTst (dCB (fun S ds => F_is_call ds S) (dCons (dV 0) (dCons (dV 3) dNil)))))
    (sRet (dV 2))
    sNext))
    (sRet (dC .non))))
theorem ok_row_fault (T : Tx P w K mg) : DFO P w K mg base 3 T.a_row_fault T.f_row_fault ["vault", "thing"] F_row_fault := fn_def T.d_row_fault sc_row_fault fun cdv A outer s H E hr => by
  have nd := sc_row_fault.nd
  have tk := takes_of (X := cxOf (L2.CX P w) P w K mg base ["vault", "thing", "at", "item"] "row_fault" (defScope s_row_fault) T.a_row_fault cdv A outer s H E) rfl rfl rfl rfl
  exact (ds_cons (ds_if (dt_not (dt_v (de_isi T.n_isinstance (da_cons (de_v 1) (da_cons (de_ty T.n_list (by decide +kernel)) da_nil)))))
    (ds_one (ds_ret (de_neg de_int)))
    ds_nil)
    (ds_cons (ds_for (passes_of rfl) rfl (di_enum T.n_enumerate (da_cons (de_v 1) da_nil)) (dg_tup rfl (dgs_cons (dg_name 2 nd) (dgs_cons (dg_name 3 nd) dgs_nil)))
    (ds_one (ds_if (dt_not (dt_v (de_call (ok_is_call T) tk (hr.mono (by omega)) T.g_is_call T.d_is_call.kp (bd_is_call T.d_is_call) (da_cons (de_v 0) (da_cons (de_v 3) da_nil)) (hn := (dCons_len (dCons_len dNil_len))))))
    (ds_one (ds_ret (de_v 2)))
    ds_nil)))
    (ds_one (ds_ret de_non))))
noncomputable def F_check_row : DFn := dfun 2 3
    (sSeq (sSet 2 (dCB (fun S ds => F_row_fault ds S) (dCons (dV 0) (dCons (dV 1) dNil))))
    (sIf (dTst (dOp (gIs true) (dV 2) (dC .non)))
    sBad
    sNext))
theorem ok_check_row (T : Tx P w K mg) : DFO P w K mg base 4 T.a_check_row T.f_check_row ["vault", "thing"] F_check_row := fn_def T.d_check_row sc_check_row fun cdv A outer s H E hr => by
  have nd := sc_check_row.nd
  have tk := takes_of (X := cxOf (L2.CX P w) P w K mg base ["vault", "thing", "fault"] "check_row" (defScope s_check_row) T.a_check_row cdv A outer s H E) rfl rfl rfl rfl
  exact (ds_cons (ds_set (i := 2) nd (de_call (ok_row_fault T) tk (hr.mono (by omega)) T.g_row_fault T.d_row_fault.kp (bd_row_fault T.d_row_fault) (da_cons (de_v 0) (da_cons (de_v 1) da_nil)) (hn := (dCons_len (dCons_len dNil_len)))))
    (ds_one (ds_if (dt_cm cm_isnot (de_v 2) de_non)
    (ds_one ds_bad)
    ds_nil)))
noncomputable def F_common_divisor : DFn := dfun 2 2
    (sSeq (sWhile 1000000 (dTst (dOp gNe (dV 1) (dC (.int 0))))
    (sPar 0 1 (dCons (dV 1) (dCons (dOp gMod (dCB (one gIntOf) (dCons (dV 0) dNil)) (dV 1)) dNil))))
    (sRet (dV 0)))
theorem ok_common_divisor (T : Tx P w K mg) : DFO P w K mg base 1 T.a_common_divisor T.f_common_divisor ["one", "other"] F_common_divisor := fn_def T.d_common_divisor sc_common_divisor fun cdv A outer s H E hr => by
  have nd := sc_common_divisor.nd
  have tk := takes_of (X := cxOf (L2.CX P w) P w K mg base ["one", "other"] "common_divisor" (defScope s_common_divisor) T.a_common_divisor cdv A outer s H E) rfl rfl rfl rfl
  exact (ds_cons (ds_while 1000000 (passes_of rfl) (dt_cm (cm_ne hr) (de_v 1) de_int)
    (ds_one (ds_par rfl nd (by decide) (da_cons (de_v 1) (da_cons (de_mod (de_intof T.n_int (da_cons (de_v 0) da_nil)) (de_v 1)) da_nil)))))
    (ds_one (ds_ret (de_v 0))))
noncomputable def F_reduced : DFn := dfun 2 3
    (sSeq (sSet 2 (dCB (fun S ds => F_common_divisor ds S) (dCons (dV 0) (dCons (dV 1) dNil))))
    (sRet (dTup (dCons (dOp gDivW (dV 0) (dV 2)) (dCons (dOp gDivW (dV 1) (dV 2)) dNil)))))
theorem ok_reduced (T : Tx P w K mg) : DFO P w K mg base 2 T.a_reduced T.f_reduced ["weight", "total"] F_reduced := fn_def T.d_reduced sc_reduced fun cdv A outer s H E hr => by
  have nd := sc_reduced.nd
  have tk := takes_of (X := cxOf (L2.CX P w) P w K mg base ["weight", "total", "divisor"] "reduced" (defScope s_reduced) T.a_reduced cdv A outer s H E) rfl rfl rfl rfl
  exact (ds_cons (ds_set (i := 2) nd (de_call (ok_common_divisor T) tk (hr.mono (by omega)) T.g_common_divisor T.d_common_divisor.kp (bd_common_divisor T.d_common_divisor) (da_cons (de_v 0) (da_cons (de_v 1) da_nil)) (hn := (dCons_len (dCons_len dNil_len)))))
    (ds_one (ds_ret (de_tup (da_cons (de_divW (de_v 0) (de_v 2)) (da_cons (de_divW (de_v 1) (de_v 2)) da_nil))))))
noncomputable def F_Walk_do_coin : DFn := dfun 2 2
    (sSeq (sIf (dTst (dOp gEq (dFld "Walk" "used" (dV 0)) (dCB (one gLen) (dCons (dFld "Walk" "coins" (dV 0)) dNil))))
    (sRet (dUn gNeg (dC (.int 1))))
    sNext)
    (sSeq (sPut2 (dFld "Walk" "held" (dV 0)) (dV 1) (dOp gSub2 (dFld "Walk" "coins" (dV 0)) (dFld "Walk" "used" (dV 0))))
    (sSeq (sFldA "Walk" "used" (fun i j => i + j) (dV 0) (dC (.int 1)))
    (sRet (dC .non)))))
theorem ok_Walk_do_coin (T : Tx P w K mg) : DFO P w K mg base 1 T.a_Walk_do_coin T.f_Walk_do_coin ["self", "keeper"] F_Walk_do_coin := fn_def T.d_Walk_do_coin sc_Walk_do_coin fun cdv A outer s H E hr => by
  have nd := sc_Walk_do_coin.nd
  have tk := takes_of (X := cxOf (L2.CX P w) P w K mg base ["self", "keeper"] "Walk.do_coin" (defScope s_Walk_do_coin) T.a_Walk_do_coin cdv A outer s H E) rfl rfl rfl rfl
  exact (ds_cons (ds_if (dt_cm (cm_eq hr) (de_fld T.g_Walk T.cl_Walk T.na_Walk_used (de_v 0)) (de_len T.n_len (da_cons (de_fld T.g_Walk T.cl_Walk T.na_Walk_coins (de_v 0)) da_nil)))
    (ds_one (ds_ret (de_neg de_int)))
    ds_nil)
    (ds_cons (ds_put2 hr (de_fld T.g_Walk T.cl_Walk T.na_Walk_held (de_v 0)) (de_v 1) (pg_sub (de_fld T.g_Walk T.cl_Walk T.na_Walk_held (de_v 0)) (de_v 1) set_list) (de_sub2 hr (de_fld T.g_Walk T.cl_Walk T.na_Walk_coins (de_v 0)) (de_fld T.g_Walk T.cl_Walk T.na_Walk_used (de_v 0))))
    (ds_cons (ds_flda (g := (fun i j => i + j)) in_add T.g_Walk T.cl_Walk T.na_Walk_used (de_v 0) de_int)
    (ds_one (ds_ret de_non)))))
noncomputable def F_value : Nat → DFn
  | 0 => fun _ _ => .bad
  | n + 1 => dfun 2 4
    (sSeq (sIf (dTst (dCB gIsi (dCons (dV 0) (dCons (dC (.ty "str")) dNil))))
    (sRet (dOp gSub2 (dV 1) (dV 0)))
    sNext)
    (sSeq (sIf (dTst (dCB gIsi (dCons (dV 0) (dCons (dC (.ty "int")) dNil))))
    (sRet (dV 0))
    sNext)
    (sSeq (sSet 2 (dCB (fun S ds => (F_value n) ds S) (dCons (dOp gSub2 (dV 0) (dC (.int 1))) (dCons (dV 1) dNil))))
    (sSeq (sSet 3 (dCB (fun S ds => (F_value n) ds S) (dCons (dOp gSub2 (dV 0) (dC (.int 2))) (dCons (dV 1) dNil))))
    (sSeq (sIf (dTst (dOp gEq (dOp gSub2 (dV 0) (dC (.int 0))) (dC (.str "+"))))
    (sRet (dOp gMod (dOp gAdd (dV 2) (dV 3)) (dC (.int 10))))
    sNext)
    (sSeq (sIf (dTst (dOp gEq (dOp gSub2 (dV 0) (dC (.int 0))) (dC (.str "-"))))
    (sRet (dOp gMod (dOp gSub (dV 2) (dV 3)) (dC (.int 10))))
    sNext)
    (sSeq (sIf (dTst (dOp gEq (dOp gSub2 (dV 0) (dC (.int 0))) (dC (.str "*"))))
    (sRet (dOp gMod (dCB (one gIntOf) (dCons (dOp gMul (dV 2) (dV 3)) dNil)) (dC (.int 10))))
    sNext)
    (sSeq (sIf (dTst (dOp gEq (dOp gSub2 (dV 0) (dC (.int 0))) (dC (.str "="))))
    (sRet (dCB (one gIntOf) (dCons (dOp gEq (dV 2) (dV 3)) dNil)))
    sNext)
    (sRet (dCB (one gIntOf) (dCons (dOp gLt (dV 2) (dV 3)) dNil)))))))))))
theorem ok_value (T : Tx P w K mg) : ∀ n : Nat, DFO P w K mg base (0 + 1 * n) T.a_value T.f_value ["e", "held"] (F_value n)
  | 0 => dfo_bad
  | n + 1 => (fn_def T.d_value sc_value fun cdv A outer s H E hr => by
  have nd := sc_value.nd
  have tk := takes_of (X := cxOf (L2.CX P w) P w K mg base ["e", "held", "left", "right"] "value" (defScope s_value) T.a_value cdv A outer s H E) rfl rfl rfl rfl
  exact (ds_cons (ds_if (dt_v (de_isi T.n_isinstance (da_cons (de_v 0) (da_cons (de_ty T.n_str (by decide +kernel)) da_nil))))
    (ds_one (ds_ret (de_sub2 hr (de_v 1) (de_v 0))))
    ds_nil)
    (ds_cons (ds_if (dt_v (de_isi T.n_isinstance (da_cons (de_v 0) (da_cons (de_ty T.n_int (by decide +kernel)) da_nil))))
    (ds_one (ds_ret (de_v 0)))
    ds_nil)
    (ds_cons (ds_set (i := 2) nd (de_call (ok_value T n) tk (hr.mono (by omega)) T.g_value T.d_value.kp (bd_value T.d_value) (da_cons (de_sub2 hr (de_v 0) de_int) (da_cons (de_v 1) da_nil)) (hn := (dCons_len (dCons_len dNil_len)))))
    (ds_cons (ds_set (i := 3) nd (de_call (ok_value T n) tk (hr.mono (by omega)) T.g_value T.d_value.kp (bd_value T.d_value) (da_cons (de_sub2 hr (de_v 0) de_int) (da_cons (de_v 1) da_nil)) (hn := (dCons_len (dCons_len dNil_len)))))
    (ds_cons (ds_if (dt_cm (cm_eq hr) (de_sub2 hr (de_v 0) de_int) de_str)
    (ds_one (ds_ret (de_mod (de_add (de_v 2) (de_v 3)) de_int)))
    ds_nil)
    (ds_cons (ds_if (dt_cm (cm_eq hr) (de_sub2 hr (de_v 0) de_int) de_str)
    (ds_one (ds_ret (de_mod (de_sub (de_v 2) (de_v 3)) de_int)))
    ds_nil)
    (ds_cons (ds_if (dt_cm (cm_eq hr) (de_sub2 hr (de_v 0) de_int) de_str)
    (ds_one (ds_ret (de_mod (de_intof T.n_int (da_cons (de_mul (de_v 2) (de_v 3)) da_nil)) de_int)))
    ds_nil)
    (ds_cons (ds_if (dt_cm (cm_eq hr) (de_sub2 hr (de_v 0) de_int) de_str)
    (ds_one (ds_ret (de_intof T.n_int (da_cons (de_cm (cm_eq hr) (de_v 2) (de_v 3)) da_nil))))
    ds_nil)
    (ds_one (ds_ret (de_intof T.n_int (da_cons (de_cm cm_lt (de_v 2) (de_v 3)) da_nil)))))))))))) : DFO P w K mg base (0 + 1 * n + 0 + 1) _ _ _ _).mono (by omega)
noncomputable def F_Walk_do_step : DFn := dfun 2 6
    (sSeq (sIf (dTst (dOp gEq (dOp gSub2 (dV 1) (dC (.int 0))) (dC (.str "set"))))
    (sSeq (sSet 2 (dOp gSub2 (dV 1) (dC (.int 1))))
    (sSeq (sSet 3 (dOp gMod (dCB (fun S ds => (F_value 8) ds S) (dCons (dOp gSub2 (dV 1) (dC (.int 2))) (dCons (dFld "Walk" "held" (dV 0)) dNil))) (dOp gSub2 (dFld "Walk" "size_row" (dV 0)) (dV 2))))
    (sPut2 (dFld "Walk" "cells" (dV 0)) (dV 2) (dV 3))))
    (sIf (dTst (dOp gEq (dOp gSub2 (dV 1) (dC (.int 0))) (dC (.str "read"))))
    (sSeq (sSet 2 (dOp gSub2 (dV 1) (dC (.int 2))))
    (sSeq (sSet 3 (dOp gSub2 (dFld "Walk" "cells" (dV 0)) (dV 2)))
    (sPut2 (dFld "Walk" "held" (dV 0)) (dOp gSub2 (dV 1) (dC (.int 1))) (dV 3))))
    (sSeq (sSet 2 (dOp gSub2 (dV 1) (dC (.int 2))))
    (sSeq (sSet 4 (dCB (fun S ds => (F_value 8) ds S) (dCons (dOp gSub2 (dV 1) (dC (.int 3))) (dCons (dFld "Walk" "held" (dV 0)) dNil))))
    (sSeq (sSet 5 (dCB (fun S ds => (F_value 8) ds S) (dCons (dOp gSub2 (dV 1) (dC (.int 4))) (dCons (dFld "Walk" "held" (dV 0)) dNil))))
    (sSeq (sSet 3 (dCB (one gIntOf) (dCons (dOp gEq (dOp gSub2 (dFld "Walk" "cells" (dV 0)) (dV 2)) (dV 4)) dNil)))
    (sSeq (sIf (dTst (dOp gEq (dV 3) (dC (.int 1))))
    (sPut2 (dFld "Walk" "cells" (dV 0)) (dV 2) (dOp gMod (dV 5) (dOp gSub2 (dFld "Walk" "size_row" (dV 0)) (dV 2))))
    sNext)
    (sPut2 (dFld "Walk" "held" (dV 0)) (dOp gSub2 (dV 1) (dC (.int 1))) (dV 3)))))))))
    (sDrop (dM "list" mApp (dFld "Walk" "trace" (dV 0)) (dCons (dTup (dCons (dOp gSub2 (dV 1) (dC (.int 0))) (dCons (dV 2) (dCons (dV 3) (dCons (dCB (one gTuple) (dCons (dFld "Walk" "cells" (dV 0)) dNil)) dNil))))) dNil))))
theorem ok_Walk_do_step (T : Tx P w K mg) : DFO P w K mg base 9 T.a_Walk_do_step T.f_Walk_do_step ["self", "row"] F_Walk_do_step := fn_def T.d_Walk_do_step sc_Walk_do_step fun cdv A outer s H E hr => by
  have nd := sc_Walk_do_step.nd
  have tk := takes_of (X := cxOf (L2.CX P w) P w K mg base ["self", "row", "cell", "came", "old", "new"] "Walk.do_step" (defScope s_Walk_do_step) T.a_Walk_do_step cdv A outer s H E) rfl rfl rfl rfl
  exact (ds_cons (ds_if (dt_cm (cm_eq hr) (de_sub2 hr (de_v 1) de_int) de_str)
    (ds_cons (ds_set (i := 2) nd (de_sub2 hr (de_v 1) de_int))
    (ds_cons (ds_set (i := 3) nd (de_mod (de_call (ok_value T 8) tk (hr.mono (by omega)) T.g_value T.d_value.kp (bd_value T.d_value) (da_cons (de_sub2 hr (de_v 1) de_int) (da_cons (de_fld T.g_Walk T.cl_Walk T.na_Walk_held (de_v 0)) da_nil)) (hn := (dCons_len (dCons_len dNil_len)))) (de_sub2 hr (de_fld T.g_Walk T.cl_Walk T.na_Walk_size_row (de_v 0)) (de_v 2))))
    (ds_one (ds_put2 hr (de_fld T.g_Walk T.cl_Walk T.na_Walk_cells (de_v 0)) (de_v 2) (pg_sub (de_fld T.g_Walk T.cl_Walk T.na_Walk_cells (de_v 0)) (de_v 2) set_list) (de_v 3)))))
    (ds_one (ds_if (dt_cm (cm_eq hr) (de_sub2 hr (de_v 1) de_int) de_str)
    (ds_cons (ds_set (i := 2) nd (de_sub2 hr (de_v 1) de_int))
    (ds_cons (ds_set (i := 3) nd (de_sub2 hr (de_fld T.g_Walk T.cl_Walk T.na_Walk_cells (de_v 0)) (de_v 2)))
    (ds_one (ds_put2 hr (de_fld T.g_Walk T.cl_Walk T.na_Walk_held (de_v 0)) (de_sub2 hr (de_v 1) de_int) (pg_sub (de_fld T.g_Walk T.cl_Walk T.na_Walk_held (de_v 0)) (de_sub2 hr (de_v 1) de_int) set_list) (de_v 3)))))
    (ds_cons (ds_set (i := 2) nd (de_sub2 hr (de_v 1) de_int))
    (ds_cons (ds_set (i := 4) nd (de_call (ok_value T 8) tk (hr.mono (by omega)) T.g_value T.d_value.kp (bd_value T.d_value) (da_cons (de_sub2 hr (de_v 1) de_int) (da_cons (de_fld T.g_Walk T.cl_Walk T.na_Walk_held (de_v 0)) da_nil)) (hn := (dCons_len (dCons_len dNil_len)))))
    (ds_cons (ds_set (i := 5) nd (de_call (ok_value T 8) tk (hr.mono (by omega)) T.g_value T.d_value.kp (bd_value T.d_value) (da_cons (de_sub2 hr (de_v 1) de_int) (da_cons (de_fld T.g_Walk T.cl_Walk T.na_Walk_held (de_v 0)) da_nil)) (hn := (dCons_len (dCons_len dNil_len)))))
    (ds_cons (ds_set (i := 3) nd (de_intof T.n_int (da_cons (de_cm (cm_eq hr) (de_sub2 hr (de_fld T.g_Walk T.cl_Walk T.na_Walk_cells (de_v 0)) (de_v 2)) (de_v 4)) da_nil)))
    (ds_cons (ds_if (dt_cm (cm_eq hr) (de_v 3) de_int)
    (ds_one (ds_put2 hr (de_fld T.g_Walk T.cl_Walk T.na_Walk_cells (de_v 0)) (de_v 2) (pg_sub (de_fld T.g_Walk T.cl_Walk T.na_Walk_cells (de_v 0)) (de_v 2) set_list) (de_mod (de_v 5) (de_sub2 hr (de_fld T.g_Walk T.cl_Walk T.na_Walk_size_row (de_v 0)) (de_v 2)))))
    ds_nil)
    (ds_one (ds_put2 hr (de_fld T.g_Walk T.cl_Walk T.na_Walk_held (de_v 0)) (de_sub2 hr (de_v 1) de_int) (pg_sub (de_fld T.g_Walk T.cl_Walk T.na_Walk_held (de_v 0)) (de_sub2 hr (de_v 1) de_int) set_list) (de_v 3)))))))))))
    (ds_one (ds_drop (de_app (de_fld T.g_Walk T.cl_Walk T.na_Walk_trace (de_v 0)) (da_cons (de_tup (da_cons (de_sub2 hr (de_v 1) de_int) (da_cons (de_v 2) (da_cons (de_v 3) (da_cons (de_tuple T.n_tuple (da_cons (de_fld T.g_Walk T.cl_Walk T.na_Walk_cells (de_v 0)) da_nil)) da_nil))))) da_nil)))))
noncomputable def F_Walk_do_times (HF : DFn) : DFn := dfun 3 5
    (sSeq (sFor (iRg1 (dCons (dV 1) dNil)) (bName 3)
    (sSeq (sSet 4 (dMeth "Walk" "do_rows" HF (dV 0) (dCons (dV 2) dNil)))
    (sIf (dTst (dOp (gIs true) (dV 4) (dC .non)))
    (sRet (dV 4))
    sNext)))
    (sRet (dC .non)))
theorem ok_Walk_do_times (T : Tx P w K mg) {HF : DFn} {j : Nat} (hF : DFO P w K mg base (9 + j) T.a_Walk_do_rows T.f_Walk_do_rows ["self", "rows"] HF) : DFO P w K mg base (9 + j + 1) T.a_Walk_do_times T.f_Walk_do_times ["self", "many", "rows"] (F_Walk_do_times HF) := fn_def T.d_Walk_do_times sc_Walk_do_times fun cdv A outer s H E hr => by
  have nd := sc_Walk_do_times.nd
  have tk := takes_of (X := cxOf (L2.CX P w) P w K mg base ["self", "many", "rows", "turn", "result"] "Walk.do_times" (defScope s_Walk_do_times) T.a_Walk_do_times cdv A outer s H E) rfl rfl rfl rfl
  exact (ds_cons (ds_for (passes_of rfl) rfl (di_rg1 T.n_range (da_cons (de_v 1) da_nil)) (dg_name 3 nd)
    (ds_cons (ds_set (i := 4) nd (de_meth T.g_Walk T.cl_Walk T.me_Walk_do_rows hF tk (hr.mono (by omega)) (bd_Walk_do_rows T.d_Walk_do_rows) (de_v 0) (da_cons (de_v 2) da_nil) (dCons_len dNil_len)))
    (ds_one (ds_if (dt_cm cm_isnot (de_v 4) de_non)
    (ds_one (ds_ret (de_v 4)))
    ds_nil))))
    (ds_one (ds_ret de_non)))
noncomputable def F_Walk_do_row (HF : DFn) : DFn := dfun 2 2
    (sSeq (sIf (dTst (dOp gEq (dOp gSub2 (dV 1) (dC (.int 0))) (dC (.str "answer"))))
    (sRet (dCB (fun S ds => (F_value 8) ds S) (dCons (dOp gSub2 (dV 1) (dC (.int 1))) (dCons (dFld "Walk" "held" (dV 0)) dNil))))
    sNext)
    (sSeq (sIf (dTst (dOp gEq (dOp gSub2 (dV 1) (dC (.int 0))) (dC (.str "if"))))
    (sSeq (sIf (dTst (dOp gNe (dCB (fun S ds => (F_value 8) ds S) (dCons (dOp gSub2 (dV 1) (dC (.int 1))) (dCons (dFld "Walk" "held" (dV 0)) dNil))) (dC (.int 0))))
    (sRet (dMeth "Walk" "do_rows" HF (dV 0) (dCons (dOp gSub2 (dV 1) (dC (.int 2))) dNil)))
    sNext)
    (sRet (dMeth "Walk" "do_rows" HF (dV 0) (dCons (dOp gSub2 (dV 1) (dC (.int 3))) dNil))))
    sNext)
    (sSeq (sIf (dTst (dOp gEq (dOp gSub2 (dV 1) (dC (.int 0))) (dC (.str "times"))))
    (sRet (dMeth "Walk" "do_times" (F_Walk_do_times HF) (dV 0) (dCons (dCB (fun S ds => (F_value 8) ds S) (dCons (dOp gSub2 (dV 1) (dC (.int 1))) (dCons (dFld "Walk" "held" (dV 0)) dNil))) (dCons (dOp gSub2 (dV 1) (dC (.int 2))) dNil))))
    sNext)
    (sSeq (sIf (dTst (dOp gEq (dOp gSub2 (dV 1) (dC (.int 0))) (dC (.str "coin"))))
    (sRet (dMeth "Walk" "do_coin" F_Walk_do_coin (dV 0) (dCons (dOp gSub2 (dV 1) (dC (.int 1))) dNil)))
    sNext)
    (sSeq (sIf (dTst (dOp gEq (dOp gSub2 (dV 1) (dC (.int 0))) (dC (.str "keep"))))
    (sPut2 (dFld "Walk" "held" (dV 0)) (dOp gSub2 (dV 1) (dC (.int 1))) (dCB (fun S ds => (F_value 8) ds S) (dCons (dOp gSub2 (dV 1) (dC (.int 2))) (dCons (dFld "Walk" "held" (dV 0)) dNil))))
    (sDrop (dMeth "Walk" "do_step" F_Walk_do_step (dV 0) (dCons (dV 1) dNil))))
    (sRet (dC .non)))))))
theorem ok_Walk_do_row (T : Tx P w K mg) {HF : DFn} {j : Nat} (hF : DFO P w K mg base (9 + j) T.a_Walk_do_rows T.f_Walk_do_rows ["self", "rows"] HF) : DFO P w K mg base (9 + j + 2) T.a_Walk_do_row T.f_Walk_do_row ["self", "row"] (F_Walk_do_row HF) := fn_def T.d_Walk_do_row sc_Walk_do_row fun cdv A outer s H E hr => by
  have nd := sc_Walk_do_row.nd
  have tk := takes_of (X := cxOf (L2.CX P w) P w K mg base ["self", "row"] "Walk.do_row" (defScope s_Walk_do_row) T.a_Walk_do_row cdv A outer s H E) rfl rfl rfl rfl
  exact (ds_cons (ds_if (dt_cm (cm_eq hr) (de_sub2 hr (de_v 1) de_int) de_str)
    (ds_one (ds_ret (de_call (ok_value T 8) tk (hr.mono (by omega)) T.g_value T.d_value.kp (bd_value T.d_value) (da_cons (de_sub2 hr (de_v 1) de_int) (da_cons (de_fld T.g_Walk T.cl_Walk T.na_Walk_held (de_v 0)) da_nil)) (hn := (dCons_len (dCons_len dNil_len))))))
    ds_nil)
    (ds_cons (ds_if (dt_cm (cm_eq hr) (de_sub2 hr (de_v 1) de_int) de_str)
    (ds_cons (ds_if (dt_cm (cm_ne hr) (de_call (ok_value T 8) tk (hr.mono (by omega)) T.g_value T.d_value.kp (bd_value T.d_value) (da_cons (de_sub2 hr (de_v 1) de_int) (da_cons (de_fld T.g_Walk T.cl_Walk T.na_Walk_held (de_v 0)) da_nil)) (hn := (dCons_len (dCons_len dNil_len)))) de_int)
    (ds_one (ds_ret (de_meth T.g_Walk T.cl_Walk T.me_Walk_do_rows hF tk (hr.mono (by omega)) (bd_Walk_do_rows T.d_Walk_do_rows) (de_v 0) (da_cons (de_sub2 hr (de_v 1) de_int) da_nil) (dCons_len dNil_len))))
    ds_nil)
    (ds_one (ds_ret (de_meth T.g_Walk T.cl_Walk T.me_Walk_do_rows hF tk (hr.mono (by omega)) (bd_Walk_do_rows T.d_Walk_do_rows) (de_v 0) (da_cons (de_sub2 hr (de_v 1) de_int) da_nil) (dCons_len dNil_len)))))
    ds_nil)
    (ds_cons (ds_if (dt_cm (cm_eq hr) (de_sub2 hr (de_v 1) de_int) de_str)
    (ds_one (ds_ret (de_meth T.g_Walk T.cl_Walk T.me_Walk_do_times (ok_Walk_do_times T hF) tk (hr.mono (by omega)) (bd_Walk_do_times T.d_Walk_do_times) (de_v 0) (da_cons (de_call (ok_value T 8) tk (hr.mono (by omega)) T.g_value T.d_value.kp (bd_value T.d_value) (da_cons (de_sub2 hr (de_v 1) de_int) (da_cons (de_fld T.g_Walk T.cl_Walk T.na_Walk_held (de_v 0)) da_nil)) (hn := (dCons_len (dCons_len dNil_len)))) (da_cons (de_sub2 hr (de_v 1) de_int) da_nil)) (dCons_len (dCons_len dNil_len)))))
    ds_nil)
    (ds_cons (ds_if (dt_cm (cm_eq hr) (de_sub2 hr (de_v 1) de_int) de_str)
    (ds_one (ds_ret (de_meth T.g_Walk T.cl_Walk T.me_Walk_do_coin (ok_Walk_do_coin T) tk (hr.mono (by omega)) (bd_Walk_do_coin T.d_Walk_do_coin) (de_v 0) (da_cons (de_sub2 hr (de_v 1) de_int) da_nil) (dCons_len dNil_len))))
    ds_nil)
    (ds_cons (ds_if (dt_cm (cm_eq hr) (de_sub2 hr (de_v 1) de_int) de_str)
    (ds_one (ds_put2 hr (de_fld T.g_Walk T.cl_Walk T.na_Walk_held (de_v 0)) (de_sub2 hr (de_v 1) de_int) (pg_sub (de_fld T.g_Walk T.cl_Walk T.na_Walk_held (de_v 0)) (de_sub2 hr (de_v 1) de_int) set_list) (de_call (ok_value T 8) tk (hr.mono (by omega)) T.g_value T.d_value.kp (bd_value T.d_value) (da_cons (de_sub2 hr (de_v 1) de_int) (da_cons (de_fld T.g_Walk T.cl_Walk T.na_Walk_held (de_v 0)) da_nil)) (hn := (dCons_len (dCons_len dNil_len))))))
    (ds_one (ds_drop (de_meth T.g_Walk T.cl_Walk T.me_Walk_do_step (ok_Walk_do_step T) tk (hr.mono (by omega)) (bd_Walk_do_step T.d_Walk_do_step) (de_v 0) (da_cons (de_v 1) da_nil) (dCons_len dNil_len)))))
    (ds_one (ds_ret de_non)))))))
noncomputable def F_Walk_do_rows : Nat → DFn
  | 0 => fun _ _ => .bad
  | n + 1 => dfun 2 4
    (sSeq (sFor (iAny (dV 1)) (bName 2)
    (sSeq (sSet 3 (dMeth "Walk" "do_row" (F_Walk_do_row (F_Walk_do_rows n)) (dV 0) (dCons (dV 2) dNil)))
    (sIf (dTst (dOp (gIs true) (dV 3) (dC .non)))
    (sRet (dV 3))
    sNext)))
    (sRet (dC .non)))
theorem ok_Walk_do_rows (T : Tx P w K mg) : ∀ n : Nat, DFO P w K mg base (9 + 3 * n) T.a_Walk_do_rows T.f_Walk_do_rows ["self", "rows"] (F_Walk_do_rows n)
  | 0 => dfo_bad
  | n + 1 => (fn_def T.d_Walk_do_rows sc_Walk_do_rows fun cdv A outer s H E hr => by
  have nd := sc_Walk_do_rows.nd
  have tk := takes_of (X := cxOf (L2.CX P w) P w K mg base ["self", "rows", "row", "result"] "Walk.do_rows" (defScope s_Walk_do_rows) T.a_Walk_do_rows cdv A outer s H E) rfl rfl rfl rfl
  exact (ds_cons (ds_for (passes_of rfl) rfl (di_any (de_v 1)) (dg_name 2 nd)
    (ds_cons (ds_set (i := 3) nd (de_meth T.g_Walk T.cl_Walk T.me_Walk_do_row (ok_Walk_do_row T (ok_Walk_do_rows T n)) tk (hr.mono (by omega)) (bd_Walk_do_row T.d_Walk_do_row) (de_v 0) (da_cons (de_v 2) da_nil) (dCons_len dNil_len)))
    (ds_one (ds_if (dt_cm cm_isnot (de_v 3) de_non)
    (ds_one (ds_ret (de_v 3)))
    ds_nil))))
    (ds_one (ds_ret de_non))) : DFO P w K mg base (9 + 3 * n + 2 + 1) _ _ _ _).mono (by omega)
noncomputable def F_Walk___init__ : DFn := dfun 5 5
    (sSeq (sFldS "Walk" "size_row" (dV 0) (dFld "Vault" "size_row" (dV 1)))
    (sSeq (sFldS "Walk" "cells" (dV 0) (dCB (one gList) (dCons (dV 2) dNil)))
    (sSeq (sFldS "Walk" "held" (dV 0) (dDisp (((dC (.str "a")), (dC (.int 0))) :: (((dC (.str "b")), (dC (.int 0))) :: (((dC (.str "c")), (dC (.int 0))) :: (((dC (.str "d")), (dC (.int 0))) :: (((dC (.str "x")), (dOp gSub2 (dV 3) (dC (.int 1)))) :: [])))))))
    (sSeq (sFldS "Walk" "coins" (dV 0) (dV 4))
    (sSeq (sFldS "Walk" "used" (dV 0) (dC (.int 0)))
    (sSeq (sFldS "Walk" "trace" (dV 0) (dLst dNil))
    (sSeq (sFldS "Walk" "result" (dV 0) (dMeth "Walk" "do_rows" (F_Walk_do_rows 14) (dV 0) (dCons (dOp gSub2 (dFld "Vault" "body_table" (dV 1)) (dOp gSub2 (dV 3) (dC (.int 0)))) dNil)))
    (sIf (dTst (dOp (gIs false) (dFld "Walk" "result" (dV 0)) (dC .non)))
    (sFldS "Walk" "result" (dV 0) (dC (.int 0)))
    sNext))))))))
theorem ok_Walk___init__ (T : Tx P w K mg) : DFO P w K mg base 52 T.a_Walk___init__ T.f_Walk___init__ ["self", "vault", "state", "call", "coins"] F_Walk___init__ := fn_def T.d_Walk___init__ sc_Walk___init__ fun cdv A outer s H E hr => by
  have nd := sc_Walk___init__.nd
  have tk := takes_of (X := cxOf (L2.CX P w) P w K mg base ["self", "vault", "state", "call", "coins"] "Walk.__init__" (defScope s_Walk___init__) T.a_Walk___init__ cdv A outer s H E) rfl rfl rfl rfl
  exact (ds_cons (ds_fld T.g_Walk T.cl_Walk T.na_Walk_size_row (de_v 0) (de_fld T.g_Vault T.cl_Vault T.na_Vault_size_row (de_v 1)))
    (ds_cons (ds_fld T.g_Walk T.cl_Walk T.na_Walk_cells (de_v 0) (de_list T.n_list (da_cons (de_v 2) da_nil)))
    (ds_cons (ds_fld T.g_Walk T.cl_Walk T.na_Walk_held (de_v 0) (de_disp (prs := (((dC (.str "a")), (dC (.int 0))) :: (((dC (.str "b")), (dC (.int 0))) :: (((dC (.str "c")), (dC (.int 0))) :: (((dC (.str "d")), (dC (.int 0))) :: (((dC (.str "x")), (dOp gSub2 (dV 3) (dC (.int 1)))) :: [])))))) (dps_cons de_str de_int (dps_cons de_str de_int (dps_cons de_str de_int (dps_cons de_str de_int (dps_cons de_str (de_sub2 hr (de_v 3) de_int) dps_nil)))))))
    (ds_cons (ds_fld T.g_Walk T.cl_Walk T.na_Walk_coins (de_v 0) (de_v 4))
    (ds_cons (ds_fld T.g_Walk T.cl_Walk T.na_Walk_used (de_v 0) de_int)
    (ds_cons (ds_fld T.g_Walk T.cl_Walk T.na_Walk_trace (de_v 0) (de_lst da_nil))
    (ds_cons (ds_fld T.g_Walk T.cl_Walk T.na_Walk_result (de_v 0) (de_meth T.g_Walk T.cl_Walk T.me_Walk_do_rows (ok_Walk_do_rows T 14) tk (hr.mono (by omega)) (bd_Walk_do_rows T.d_Walk_do_rows) (de_v 0) (da_cons (de_sub2 hr (de_fld T.g_Vault T.cl_Vault T.na_Vault_body_table (de_v 1)) (de_sub2 hr (de_v 3) de_int)) da_nil) (dCons_len dNil_len)))
    (ds_one (ds_if (dt_cm cm_is (de_fld T.g_Walk T.cl_Walk T.na_Walk_result (de_v 0)) de_non)
    (ds_one (ds_fld T.g_Walk T.cl_Walk T.na_Walk_result (de_v 0) de_int))
    ds_nil)))))))))
noncomputable def F_outcomes_of : DFn := dfun 3 7
    (sSeq (sSet 3 (dLst dNil))
    (sSeq (sSet 4 (dLst (dCons (dTup dNil) dNil)))
    (sSeq (sWhile 1000000 (dTst (dOp gGt (dCB (one gLen) (dCons (dV 4) dNil)) (dC (.int 0))))
    (sSeq (sSet 5 (dM "list" mPop (dV 4) dNil))
    (sSeq (sSet 6 (dMake "Walk" F_Walk___init__ (dCons (dV 0) (dCons (dV 1) (dCons (dV 2) (dCons (dV 5) dNil))))))
    (sIf (dTst (dOp gEq (dFld "Walk" "result" (dV 6)) (dUn gNeg (dC (.int 1)))))
    (sSeq (sDrop (dM "list" mApp (dV 4) (dCons (dOp gAdd (dV 5) (dTup (dCons (dC (.int 1)) dNil))) dNil)))
    (sDrop (dM "list" mApp (dV 4) (dCons (dOp gAdd (dV 5) (dTup (dCons (dC (.int 0)) dNil))) dNil))))
    (sDrop (dM "list" mApp (dV 3) (dCons (dTup (dCons (dV 5) (dCons (dFld "Walk" "result" (dV 6)) (dCons (dCB (one gTuple) (dCons (dFld "Walk" "cells" (dV 6)) dNil)) dNil)))) dNil)))))))
    (sRet (dV 3)))))
theorem ok_outcomes_of (T : Tx P w K mg) : DFO P w K mg base 54 T.a_outcomes_of T.f_outcomes_of ["vault", "state", "call"] F_outcomes_of := fn_def T.d_outcomes_of sc_outcomes_of fun cdv A outer s H E hr => by
  have nd := sc_outcomes_of.nd
  have tk := takes_of (X := cxOf (L2.CX P w) P w K mg base ["vault", "state", "call", "done", "waiting", "coins", "walk"] "outcomes_of" (defScope s_outcomes_of) T.a_outcomes_of cdv A outer s H E) rfl rfl rfl rfl
  exact (ds_cons (ds_set (i := 3) nd (de_lst da_nil))
    (ds_cons (ds_set (i := 4) nd (de_lst (da_cons (de_tup da_nil) da_nil)))
    (ds_cons (ds_while 1000000 (passes_of rfl) (dt_cm cm_gt (de_len T.n_len (da_cons (de_v 4) da_nil)) de_int)
    (ds_cons (ds_set (i := 5) nd (de_pop (de_v 4)))
    (ds_cons (ds_set (i := 6) nd (de_make T.mk_Walk (ok_Walk___init__ T) tk (hr.mono (by omega)) T.g_Walk (bd_Walk___init__ T.d_Walk___init__) (da_cons (de_v 0) (da_cons (de_v 1) (da_cons (de_v 2) (da_cons (de_v 5) da_nil)))) (hn := (dCons_len (dCons_len (dCons_len (dCons_len dNil_len)))))))
    (ds_one (ds_if (dt_cm (cm_eq hr) (de_fld T.g_Walk T.cl_Walk T.na_Walk_result (de_v 6)) (de_neg de_int))
    (ds_cons (ds_drop (de_app (de_v 4) (da_cons (de_add (de_v 5) (de_tup (da_cons de_int da_nil))) da_nil)))
    (ds_one (ds_drop (de_app (de_v 4) (da_cons (de_add (de_v 5) (de_tup (da_cons de_int da_nil))) da_nil)))))
    (ds_one (ds_drop (de_app (de_v 3) (da_cons (de_tup (da_cons (de_v 5) (da_cons (de_fld T.g_Walk T.cl_Walk T.na_Walk_result (de_v 6)) (da_cons (de_tuple T.n_tuple (da_cons (de_fld T.g_Walk T.cl_Walk T.na_Walk_cells (de_v 6)) da_nil)) da_nil)))) da_nil)))))))))
    (ds_one (ds_ret (de_v 3))))))
noncomputable def F_spread : DFn := dfun 3 11
    (sSeq (sLk 1 (sSet 3 (dDt (iKT (dV 1)) (bName 6) tTrue (dV 6) (dCB (fun S ds => F_outcomes_of ds S) (dCons (dV 0) (dCons (dV 6) (dCons (dV 2) dNil)))) [6])))
    (sSeq (sLk 3 (sSet 4 (dCB (one gMaxL) (dCons (dLc2 (iKT (dV 3)) (bName 6) (iAny (dOp gTGet (dV 3) (dV 6))) (bName 10) (dCB (one gLen) (dCons (dOp gSub2 (dV 10) (dC (.int 0))) dNil)) [10, 6] [10]) dNil))))
    (sSeq (sSet 5 dTNew)
    (sSeq (sLk 1 (sFor (iKT (dV 1)) (bName 6)
    (sFor (iAny (dOp gTGet (dV 3) (dV 6))) (bTup 3 (bCons (bName 7) (bCons (bName 8) (bCons (bName 9) bNil))))
    (sTPut (dV 5) (dV 9) (dOp gAdd (dTGet2 (dV 5) (dV 9) (dC (.int 0))) (dOp gMul (dOp gTGet (dV 1) (dV 6)) (dOp gSub2 (dC c_POWERS) (dOp gSub (dV 4) (dCB (one gLen) (dCons (dV 7) dNil))))))))))
    (sRet (dTup (dCons (dV 5) (dCons (dOp gSub2 (dC c_POWERS) (dV 4)) dNil))))))))
theorem ok_spread (T : Tx P w K mg) : DFO P w K mg base 55 T.a_spread T.f_spread ["vault", "weights", "call"] F_spread := fn_def T.d_spread sc_spread fun cdv A outer s H E hr => by
  have nd := sc_spread.nd
  have tk := takes_of (X := cxOf (L2.CX P w) P w K mg base ["vault", "weights", "call", "ends", "deepest", "behind", "state", "coins", "answer", "after", "end"] "spread" (defScope s_spread) T.a_spread cdv A outer s H E) rfl rfl rfl rfl
  exact (ds_cons (ds_lk 1 (ds_set (i := 3) nd (de_dct (own := [("state", 6)]) hr rfl nd (di_keysT (de_v 1)) (blkOk_by (N := ["vault", "weights", "call", "ends", "deepest", "behind", "state", "coins", "answer", "after", "end"]) (sc := defScope (topS 39)) (by decide +kernel)) (fun _ _ _ _ _ => (dg_name 6 nd)) (fun _ _ _ _ _ => dts_nil) (fun _ _ _ _ _ => (de_v 6)) (fun _ _ _ _ _ => (de_call (ok_outcomes_of T) takesF (hr.mono (by omega)) T.g_outcomes_of T.d_outcomes_of.kp (bd_outcomes_of T.d_outcomes_of) (da_cons (de_v 0) (da_cons (de_v 6) (da_cons (de_v 2) da_nil))) (hn := (dCons_len (dCons_len (dCons_len dNil_len)))))))))
    (ds_cons (ds_lk 3 (ds_set (i := 4) nd (de_maxL rfl T.n_max (da_cons (de_lc2 (own := [("end", 10), ("state", 6)]) (vs1 := [10]) rfl nd (di_keysT (de_v 3)) (blkOk_by (N := ["vault", "weights", "call", "ends", "deepest", "behind", "state", "coins", "answer", "after", "end"]) (sc := defScope (topS 39)) (by decide +kernel)) (fun _ _ _ _ _ => (dg_name 6 nd)) (fun _ _ _ _ _ => (di_any (de_tget hr (de_v 3) (de_v 6)))) (fun _ _ _ _ _ => (dg_name 10 nd)) (fun _ _ _ _ _ => (de_len T.n_len (da_cons (de_sub2 hr (de_v 10) de_int) da_nil)))) da_nil))))
    (ds_cons (ds_set (i := 5) nd de_tnew)
    (ds_cons (ds_lk 1 (ds_for (passes_of rfl) rfl (di_keysT (de_v 1)) (dg_name 6 nd)
    (ds_one (ds_for (passes_of rfl) rfl (di_any (de_tget hr (de_v 3) (de_v 6))) (dg_tup rfl (dgs_cons (dg_name 7 nd) (dgs_cons (dg_name 8 nd) (dgs_cons (dg_name 9 nd) dgs_nil))))
    (ds_one (ds_tput hr (de_v 5) (de_v 9) (de_add (de_tget2 hr (de_v 5) (de_v 9) de_int ⟨rfl, rfl, rfl, rfl⟩) (de_mul (de_tget hr (de_v 1) (de_v 6)) (de_sub2 hr (de_gl T.g_POWERS T.r_POWERS (fun _ _ => T.q_POWERS _ _)) (de_sub (de_v 4) (de_len T.n_len (da_cons (de_v 7) da_nil))))))))))))
    (ds_one (ds_ret (de_tup (da_cons (de_v 5) (da_cons (de_sub2 hr (de_gl T.g_POWERS T.r_POWERS (fun _ _ => T.q_POWERS _ _)) (de_v 4)) da_nil)))))))))
noncomputable def F_share : DFn := dfun 2 7
    (sSeq (sDrop (dCB (fun S ds => F_check_row ds S) (dCons (dV 0) (dCons (dV 1) dNil))))
    (sSeq (sSet 2 (dOneT (dFld "Vault" "begin" (dV 0)) (dC (.int 1))))
    (sSeq (sSet 3 (dC (.int 1)))
    (sSeq (sFor (iAny (dV 1)) (bName 4)
    (sSeq (sBind (bTup 2 (bCons (bName 2) (bCons (bName 5) bNil))) (dCB (fun S ds => F_spread ds S) (dCons (dV 0) (dCons (dV 2) (dCons (dV 4) dNil)))))
    (sSet 3 (dOp gMul (dV 3) (dV 5)))))
    (sLk 2 (sRet (dDt (iKT (dV 2)) (bName 6) tTrue (dV 6) (dCB (fun S ds => F_reduced ds S) (dCons (dOp gTGet (dV 2) (dV 6)) (dCons (dV 3) dNil))) [6])))))))
theorem ok_share (T : Tx P w K mg) : DFO P w K mg base 56 T.a_share T.f_share ["vault", "row"] F_share := fn_def T.d_share sc_share fun cdv A outer s H E hr => by
  have nd := sc_share.nd
  have tk := takes_of (X := cxOf (L2.CX P w) P w K mg base ["vault", "row", "weights", "total", "call", "grown", "state"] "share" (defScope s_share) T.a_share cdv A outer s H E) rfl rfl rfl rfl
  exact (ds_cons (ds_drop (de_call (ok_check_row T) tk (hr.mono (by omega)) T.g_check_row T.d_check_row.kp (bd_check_row T.d_check_row) (da_cons (de_v 0) (da_cons (de_v 1) da_nil)) (hn := (dCons_len (dCons_len dNil_len)))))
    (ds_cons (ds_set (i := 2) nd (de_oneT hr (de_fld T.g_Vault T.cl_Vault T.na_Vault_begin (de_v 0)) de_int))
    (ds_cons (ds_set (i := 3) nd de_int)
    (ds_cons (ds_for (passes_of rfl) rfl (di_any (de_v 1)) (dg_name 4 nd)
    (ds_cons (ds_bind (dg_tup rfl (dgs_cons (dg_name 2 nd) (dgs_cons (dg_name 5 nd) dgs_nil))) (de_call (ok_spread T) tk (hr.mono (by omega)) T.g_spread T.d_spread.kp (bd_spread T.d_spread) (da_cons (de_v 0) (da_cons (de_v 2) (da_cons (de_v 4) da_nil))) (hn := (dCons_len (dCons_len (dCons_len dNil_len))))))
    (ds_one (ds_set (i := 3) nd (de_mul (de_v 3) (de_v 5))))))
    (ds_one (ds_lk 2 (ds_ret (de_dct (own := [("state", 6)]) hr rfl nd (di_keysT (de_v 2)) (blkOk_by (N := ["vault", "row", "weights", "total", "call", "grown", "state"]) (sc := defScope (topS 40)) (by decide +kernel)) (fun _ _ _ _ _ => (dg_name 6 nd)) (fun _ _ _ _ _ => dts_nil) (fun _ _ _ _ _ => (de_v 6)) (fun _ _ _ _ _ => (de_call (ok_reduced T) takesF (hr.mono (by omega)) T.g_reduced T.d_reduced.kp (bd_reduced T.d_reduced) (da_cons (de_tget hr (de_v 2) (de_v 6)) (da_cons (de_v 3) da_nil)) (hn := (dCons_len (dCons_len dNil_len)))))))))))))
noncomputable def F_law_mixed : DFn := dfun 4 10
    (sSeq (sSet 4 dTNew)
    (sSeq (sSet 5 (dCB (fun S ds => F_share ds S) (dCons (dV 0) (dCons (dCB (one gList) (dCons (dV 1) dNil)) dNil))))
    (sSeq (sLk 5 (sFor (iKT (dV 5)) (bName 6)
    (sSeq (sSet 7 (dOp gMul (dOp gSub2 (dOp gTGet (dV 5) (dV 6)) (dC (.int 0))) (dOp gDivW (dV 3) (dOp gSub2 (dOp gTGet (dV 5) (dV 6)) (dC (.int 1))))))
    (sSeq (sSet 8 (dCB (fun S ds => F_share ds S) (dCons (dCB (fun S ds => F_begun ds S) (dCons (dV 0) (dCons (dV 6) dNil))) (dCons (dCB (one gList) (dCons (dV 2) dNil)) dNil))))
    (sLk 8 (sFor (iKT (dV 8)) (bName 9)
    (sTPut (dV 4) (dV 9) (dOp gAdd (dTGet2 (dV 4) (dV 9) (dC (.int 0))) (dOp gMul (dOp gMul (dV 7) (dOp gSub2 (dOp gTGet (dV 8) (dV 9)) (dC (.int 0)))) (dOp gDivW (dV 3) (dOp gSub2 (dOp gTGet (dV 8) (dV 9)) (dC (.int 1)))))))))))))
    (sRet (dV 4)))))
theorem ok_law_mixed (T : Tx P w K mg) : DFO P w K mg base 57 T.a_law_mixed T.f_law_mixed ["vault", "first", "second", "total"] F_law_mixed := fn_def T.d_law_mixed sc_law_mixed fun cdv A outer s H E hr => by
  have nd := sc_law_mixed.nd
  have tk := takes_of (X := cxOf (L2.CX P w) P w K mg base ["vault", "first", "second", "total", "mixed", "ahead", "state", "weight", "behind", "after"] "_law_mixed" (defScope s_law_mixed) T.a_law_mixed cdv A outer s H E) rfl rfl rfl rfl
  exact (ds_cons (ds_set (i := 4) nd de_tnew)
    (ds_cons (ds_set (i := 5) nd (de_call (ok_share T) tk (hr.mono (by omega)) T.g_share T.d_share.kp (bd_share T.d_share) (da_cons (de_v 0) (da_cons (de_list T.n_list (da_cons (de_v 1) da_nil)) da_nil)) (hn := (dCons_len (dCons_len dNil_len)))))
    (ds_cons (ds_lk 5 (ds_for (passes_of rfl) rfl (di_keysT (de_v 5)) (dg_name 6 nd)
    (ds_cons (ds_set (i := 7) nd (de_mul (de_sub2 hr (de_tget hr (de_v 5) (de_v 6)) de_int) (de_divW (de_v 3) (de_sub2 hr (de_tget hr (de_v 5) (de_v 6)) de_int))))
    (ds_cons (ds_set (i := 8) nd (de_call (ok_share T) tk (hr.mono (by omega)) T.g_share T.d_share.kp (bd_share T.d_share) (da_cons (de_call (ok_begun T) tk (hr.mono (by omega)) T.g_begun T.d_begun.kp (bd_begun T.d_begun) (da_cons (de_v 0) (da_cons (de_v 6) da_nil)) (hn := (dCons_len (dCons_len dNil_len)))) (da_cons (de_list T.n_list (da_cons (de_v 2) da_nil)) da_nil)) (hn := (dCons_len (dCons_len dNil_len)))))
    (ds_one (ds_lk 8 (ds_for (passes_of rfl) rfl (di_keysT (de_v 8)) (dg_name 9 nd)
    (ds_one (ds_tput hr (de_v 4) (de_v 9) (de_add (de_tget2 hr (de_v 4) (de_v 9) de_int ⟨rfl, rfl, rfl, rfl⟩) (de_mul (de_mul (de_v 7) (de_sub2 hr (de_tget hr (de_v 8) (de_v 9)) de_int)) (de_divW (de_v 3) (de_sub2 hr (de_tget hr (de_v 8) (de_v 9)) de_int)))))))))))))
    (ds_one (ds_ret (de_v 4))))))
noncomputable def F_law_pool : DFn := dfun 2 4
    (sSeq (sIf (dTst (dOp gEq (dCB (one gLen) (dCons (dV 0) dNil)) (dC (.int 0))))
    (sRet (dLst (dCons (dC (.int 0)) (dCons (dOp gAdd (dC (.int 5)) (dOp gMul (dC (.int 1009)) (dV 1))) (dCons (dC (.int 0)) dNil)))))
    sNext)
    (sSeq (sSet 2 (dCB (one gAbs) (dCons (dOp gSub2 (dV 0) (dOp gMod (dV 1) (dCB (one gLen) (dCons (dV 0) dNil)))) dNil)))
    (sSeq (sSet 3 (dOp gAdd (dOp gAdd (dOp gMod (dCB (one gIntOf) (dCons (dV 2) dNil)) (dC (.int 2147483629))) (dOp gMul (dC (.int 1009)) (dV 1))) (dCB (one gIntOf) (dCons (dOp gLt (dOp gSub2 (dV 0) (dOp gMod (dV 1) (dCB (one gLen) (dCons (dV 0) dNil)))) (dC (.int 0))) dNil))))
    (sSeq (sIf (dAnd (dTst (dOp gLt (dV 1) (dCB (one gLen) (dCons (dV 0) dNil)))) (dTst (dOp gGe (dV 2) (dOp gPow (dC (.int 10)) (dC (.int 18))))))
    (sRet (dLst (dCons (dV 2) (dCons (dV 3) (dCons (dC (.int 0)) dNil)))))
    sNext)
    (sRet (dLst (dCons (dC (.int 0)) (dCons (dV 3) (dCons (dC (.int 0)) dNil)))))))))
theorem ok_law_pool (T : Tx P w K mg) : DFO P w K mg base 1 T.a_law_pool T.f_law_pool ["script", "k"] F_law_pool := fn_def T.d_law_pool sc_law_pool fun cdv A outer s H E hr => by
  have nd := sc_law_pool.nd
  have tk := takes_of (X := cxOf (L2.CX P w) P w K mg base ["script", "k", "cell", "seed"] "_law_pool" (defScope s_law_pool) T.a_law_pool cdv A outer s H E) rfl rfl rfl rfl
  exact (ds_cons (ds_if (dt_cm (cm_eq hr) (de_len T.n_len (da_cons (de_v 0) da_nil)) de_int)
    (ds_one (ds_ret (de_lst (da_cons de_int (da_cons (de_add de_int (de_mul de_int (de_v 1))) (da_cons de_int da_nil))))))
    ds_nil)
    (ds_cons (ds_set (i := 2) nd (de_abs T.n_abs (da_cons (de_sub2 hr (de_v 0) (de_mod (de_v 1) (de_len T.n_len (da_cons (de_v 0) da_nil)))) da_nil)))
    (ds_cons (ds_set (i := 3) nd (de_add (de_add (de_mod (de_intof T.n_int (da_cons (de_v 2) da_nil)) de_int) (de_mul de_int (de_v 1))) (de_intof T.n_int (da_cons (de_cm cm_lt (de_sub2 hr (de_v 0) (de_mod (de_v 1) (de_len T.n_len (da_cons (de_v 0) da_nil)))) de_int) da_nil))))
    (ds_cons (ds_if (dt_w (dw_and (dt_cm cm_lt (de_v 1) (de_len T.n_len (da_cons (de_v 0) da_nil))) (dw_and1 (dt_cm cm_ge (de_v 2) (de_pow de_int de_int)))))
    (ds_one (ds_ret (de_lst (da_cons (de_v 2) (da_cons (de_v 3) (da_cons de_int da_nil))))))
    ds_nil)
    (ds_one (ds_ret (de_lst (da_cons de_int (da_cons (de_v 3) (da_cons de_int da_nil))))))))))
noncomputable def F_law_good_int : DFn := dfun 3 3
    (sRet (dAndV (dCB gIsi (dCons (dV 0) (dCons (dC (.ty "int")) dNil))) (dAndV (dNotV (dCB gIsi (dCons (dV 0) (dCons (dC (.ty "bool")) dNil)))) (dChain gLe gLe (dV 1) (dV 0) (dV 2)))))
theorem ok_law_good_int (T : Tx P w K mg) : DFO P w K mg base 1 T.a_law_good_int T.f_law_good_int ["thing", "least", "greatest"] F_law_good_int := fn_def T.d_law_good_int sc_law_good_int fun cdv A outer s H E hr => by
  have nd := sc_law_good_int.nd
  have tk := takes_of (X := cxOf (L2.CX P w) P w K mg base ["thing", "least", "greatest"] "_law_good_int" (defScope s_law_good_int) T.a_law_good_int cdv A outer s H E) rfl rfl rfl rfl
  exact (ds_one (ds_ret (de_and (de_isi T.n_isinstance (da_cons (de_v 0) (da_cons (de_ty T.n_int (by decide +kernel)) da_nil))) (de_and (de_not (de_isi T.n_isinstance (da_cons (de_v 0) (da_cons (de_ty T.n_bool (by decide +kernel)) da_nil)))) (de_one (de_cm2 cm_le cm_le (de_v 1) (de_v 0) (de_v 2)))))))
noncomputable def F_law_fraction : DFn := dfun 3 3
    (sSeq (sIf (dOr (dNot (dTst (dCB gIsi (dCons (dV 0) (dCons (dC (.ty "tuple")) dNil))))) (dOr (dTst (dOp gNe (dCB (one gLen) (dCons (dV 0) dNil)) (dC (.int 2)))) (dNot (dTst (dCB (fun S ds => F_law_good_int ds S) (dCons (dOp gSub2 (dV 0) (dC (.int 0))) (dCons (dC (.int 1)) (dCons (dV 2) dNil))))))))
    (sRet (dC (.bl false)))
    sNext)
    (sSeq (sIf (dOr (dNot (dTst (dCB (fun S ds => F_law_good_int ds S) (dCons (dOp gSub2 (dV 0) (dC (.int 1))) (dCons (dC (.int 1)) (dCons (dV 2) dNil)))))) (dTst (dOp gNe (dOp gMul (dOp gSub2 (dV 0) (dC (.int 0))) (dV 2)) (dOp gMul (dV 1) (dOp gSub2 (dV 0) (dC (.int 1)))))))
    (sRet (dC (.bl false)))
    sNext)
    (sSeq (sIf (dTst (dOp gNe (dOp gMod (dCB (one gIntOf) (dCons (dV 2) dNil)) (dOp gSub2 (dV 0) (dC (.int 1)))) (dC (.int 0))))
    (sRet (dC (.bl false)))
    sNext)
    (sRet (dOrV (dOp gEq (dOp gSub2 (dV 0) (dC (.int 1))) (dC (.int 1))) (dOp gEq (dOp gMod (dCB (one gIntOf) (dCons (dOp gSub2 (dV 0) (dC (.int 0))) dNil)) (dC (.int 2))) (dC (.int 1))))))))
theorem ok_law_fraction (T : Tx P w K mg) : DFO P w K mg base 2 T.a_law_fraction T.f_law_fraction ["told", "weight", "total"] F_law_fraction := fn_def T.d_law_fraction sc_law_fraction fun cdv A outer s H E hr => by
  have nd := sc_law_fraction.nd
  have tk := takes_of (X := cxOf (L2.CX P w) P w K mg base ["told", "weight", "total"] "_law_fraction" (defScope s_law_fraction) T.a_law_fraction cdv A outer s H E) rfl rfl rfl rfl
  exact (ds_cons (ds_if (dt_w (dw_or (dt_not (dt_v (de_isi T.n_isinstance (da_cons (de_v 0) (da_cons (de_ty T.n_tuple (by decide +kernel)) da_nil))))) (dw_or (dt_cm (cm_ne hr) (de_len T.n_len (da_cons (de_v 0) da_nil)) de_int) (dw_or1 (dt_not (dt_v (de_call (ok_law_good_int T) tk (hr.mono (by omega)) T.g_law_good_int T.d_law_good_int.kp (bd_law_good_int T.d_law_good_int) (da_cons (de_sub2 hr (de_v 0) de_int) (da_cons de_int (da_cons (de_v 2) da_nil))) (hn := (dCons_len (dCons_len (dCons_len dNil_len)))))))))))
    (ds_one (ds_ret de_bl))
    ds_nil)
    (ds_cons (ds_if (dt_w (dw_or (dt_not (dt_v (de_call (ok_law_good_int T) tk (hr.mono (by omega)) T.g_law_good_int T.d_law_good_int.kp (bd_law_good_int T.d_law_good_int) (da_cons (de_sub2 hr (de_v 0) de_int) (da_cons de_int (da_cons (de_v 2) da_nil))) (hn := (dCons_len (dCons_len (dCons_len dNil_len))))))) (dw_or1 (dt_cm (cm_ne hr) (de_mul (de_sub2 hr (de_v 0) de_int) (de_v 2)) (de_mul (de_v 1) (de_sub2 hr (de_v 0) de_int))))))
    (ds_one (ds_ret de_bl))
    ds_nil)
    (ds_cons (ds_if (dt_cm (cm_ne hr) (de_mod (de_intof T.n_int (da_cons (de_v 2) da_nil)) (de_sub2 hr (de_v 0) de_int)) de_int)
    (ds_one (ds_ret de_bl))
    ds_nil)
    (ds_one (ds_ret (de_or (de_cm (cm_eq hr) (de_sub2 hr (de_v 0) de_int) de_int) (de_one (de_cm (cm_eq hr) (de_mod (de_intof T.n_int (da_cons (de_sub2 hr (de_v 0) de_int) da_nil)) de_int) de_int))))))))
noncomputable def F_law_good_ints : DFn := dfun 1 2
    (sSeq (sFor (iAny (dV 0)) (bName 1)
    (sIf (dNot (dTst (dCB (fun S ds => F_law_good_int ds S) (dCons (dV 1) (dCons (dC (.int 0)) (dCons (dC (.int 8)) dNil))))))
    (sRet (dC (.bl false)))
    sNext))
    (sRet (dC (.bl true))))
theorem ok_law_good_ints (T : Tx P w K mg) : DFO P w K mg base 2 T.a_law_good_ints T.f_law_good_ints ["state"] F_law_good_ints := fn_def T.d_law_good_ints sc_law_good_ints fun cdv A outer s H E hr => by
  have nd := sc_law_good_ints.nd
  have tk := takes_of (X := cxOf (L2.CX P w) P w K mg base ["state", "held"] "_law_good_ints" (defScope s_law_good_ints) T.a_law_good_ints cdv A outer s H E) rfl rfl rfl rfl
  exact (ds_cons (ds_for (passes_of rfl) rfl (di_any (de_v 0)) (dg_name 1 nd)
    (ds_one (ds_if (dt_not (dt_v (de_call (ok_law_good_int T) tk (hr.mono (by omega)) T.g_law_good_int T.d_law_good_int.kp (bd_law_good_int T.d_law_good_int) (da_cons (de_v 1) (da_cons de_int (da_cons de_int da_nil))) (hn := (dCons_len (dCons_len (dCons_len dNil_len)))))))
    (ds_one (ds_ret de_bl))
    ds_nil)))
    (ds_one (ds_ret de_bl)))
noncomputable def F_law_right : DFn := dfun 3 4
    (sSeq (sIf (dOr (dNot (dTst (dCB gIsi (dCons (dV 0) (dCons (dC (.ty "dict")) dNil))))) (dTst (dOp gNe (dCB gTLen (dCons (dV 0) dNil)) (dCB gTLen (dCons (dV 1) dNil)))))
    (sRet (dC (.bl false)))
    sNext)
    (sSeq (sLk 0 (sFor (iKT (dV 0)) (bName 3)
    (sSeq (sIf (dOr (dNot (dTst (dCB gIsi (dCons (dV 3) (dCons (dC (.ty "tuple")) dNil))))) (dTst (dOp (gTIn true) (dV 3) (dV 1))))
    (sRet (dC (.bl false)))
    sNext)
    (sIf (dOr (dNot (dTst (dCB (fun S ds => F_law_good_ints ds S) (dCons (dV 3) dNil)))) (dNot (dTst (dCB (fun S ds => F_law_fraction ds S) (dCons (dOp gTGet (dV 0) (dV 3)) (dCons (dOp gTGet (dV 1) (dV 3)) (dCons (dV 2) dNil)))))))
    (sRet (dC (.bl false)))
    sNext))))
    (sRet (dC (.bl true)))))
theorem ok_law_right (T : Tx P w K mg) : DFO P w K mg base 3 T.a_law_right T.f_law_right ["told", "now", "total"] F_law_right := fn_def T.d_law_right sc_law_right fun cdv A outer s H E hr => by
  have nd := sc_law_right.nd
  have tk := takes_of (X := cxOf (L2.CX P w) P w K mg base ["told", "now", "total", "state"] "_law_right" (defScope s_law_right) T.a_law_right cdv A outer s H E) rfl rfl rfl rfl
  exact (ds_cons (ds_if (dt_w (dw_or (dt_not (dt_v (de_isi T.n_isinstance (da_cons (de_v 0) (da_cons (de_ty T.n_dict (by decide +kernel)) da_nil))))) (dw_or1 (dt_cm (cm_ne hr) (de_lent T.n_len (da_cons (de_v 0) da_nil)) (de_lent T.n_len (da_cons (de_v 1) da_nil))))))
    (ds_one (ds_ret de_bl))
    ds_nil)
    (ds_cons (ds_lk 0 (ds_for (passes_of rfl) rfl (di_keysT (de_v 0)) (dg_name 3 nd)
    (ds_cons (ds_if (dt_w (dw_or (dt_not (dt_v (de_isi T.n_isinstance (da_cons (de_v 3) (da_cons (de_ty T.n_tuple (by decide +kernel)) da_nil))))) (dw_or1 (dt_tnotin hr (de_v 3) (de_v 1)))))
    (ds_one (ds_ret de_bl))
    ds_nil)
    (ds_one (ds_if (dt_w (dw_or (dt_not (dt_v (de_call (ok_law_good_ints T) tk (hr.mono (by omega)) T.g_law_good_ints T.d_law_good_ints.kp (bd_law_good_ints T.d_law_good_ints) (da_cons (de_v 3) da_nil) (hn := (dCons_len dNil_len))))) (dw_or1 (dt_not (dt_v (de_call (ok_law_fraction T) tk (hr.mono (by omega)) T.g_law_fraction T.d_law_fraction.kp (bd_law_fraction T.d_law_fraction) (da_cons (de_tget hr (de_v 0) (de_v 3)) (da_cons (de_tget hr (de_v 1) (de_v 3)) (da_cons (de_v 2) da_nil))) (hn := (dCons_len (dCons_len (dCons_len dNil_len))))))))))
    (ds_one (ds_ret de_bl))
    ds_nil)))))
    (ds_one (ds_ret de_bl))))
noncomputable def F_law_row : DFn := dfun 3 5
    (sSeq (sSet 3 (dLst dNil))
    (sSeq (sFor (iRg1 (dCons (dCB (fun S ds => F_law_draw ds S) (dCons (dV 0) (dCons (dOp gAdd (dV 2) (dC (.int 1))) dNil))) dNil)) (bName 4)
    (sDrop (dM "list" mApp (dV 3) (dCons (dOp gSub2 (dV 1) (dCB (fun S ds => F_law_draw ds S) (dCons (dV 0) (dCons (dCB (one gLen) (dCons (dV 1) dNil)) dNil)))) dNil))))
    (sRet (dV 3))))
theorem ok_law_row (T : Tx P w K mg) : DFO P w K mg base 2 T.a_law_row T.f_law_row ["pool", "calls", "longest"] F_law_row := fn_def T.d_law_row sc_law_row fun cdv A outer s H E hr => by
  have nd := sc_law_row.nd
  have tk := takes_of (X := cxOf (L2.CX P w) P w K mg base ["pool", "calls", "longest", "row", "turn"] "_law_row" (defScope s_law_row) T.a_law_row cdv A outer s H E) rfl rfl rfl rfl
  exact (ds_cons (ds_set (i := 3) nd (de_lst da_nil))
    (ds_cons (ds_for (passes_of rfl) rfl (di_rg1 T.n_range (da_cons (de_call (ok_law_draw T) tk (hr.mono (by omega)) T.g_law_draw T.d_law_draw.kp (bd_law_draw T.d_law_draw) (da_cons (de_v 0) (da_cons (de_add (de_v 2) de_int) da_nil)) (hn := (dCons_len (dCons_len dNil_len)))) da_nil)) (dg_name 4 nd)
    (ds_one (ds_drop (de_app (de_v 3) (da_cons (de_sub2 hr (de_v 1) (de_call (ok_law_draw T) tk (hr.mono (by omega)) T.g_law_draw T.d_law_draw.kp (bd_law_draw T.d_law_draw) (da_cons (de_v 0) (da_cons (de_len T.n_len (da_cons (de_v 1) da_nil)) da_nil)) (hn := (dCons_len (dCons_len dNil_len))))) da_nil)))))
    (ds_one (ds_ret (de_v 3)))))
noncomputable def F_law_value : Nat → DFn
  | 0 => fun _ _ => .bad
  | n + 1 => dfun 2 4
    (sSeq (sIf (dTst (dCB gIsi (dCons (dV 0) (dCons (dC (.ty "tuple")) dNil))))
    (sSeq (sSet 2 (dCB (fun S ds => (F_law_value n) ds S) (dCons (dOp gSub2 (dV 0) (dC (.int 1))) (dCons (dV 1) dNil))))
    (sSeq (sSet 3 (dCB (fun S ds => (F_law_value n) ds S) (dCons (dOp gSub2 (dV 0) (dC (.int 2))) (dCons (dV 1) dNil))))
    (sSeq (sIf (dTst (dOp gEq (dOp gSub2 (dV 0) (dC (.int 0))) (dC (.str "="))))
    (sRet (dCB (one gIntOf) (dCons (dOp gEq (dV 2) (dV 3)) dNil)))
    sNext)
    (sSeq (sIf (dTst (dOp gEq (dOp gSub2 (dV 0) (dC (.int 0))) (dC (.str "<"))))
    (sRet (dCB (one gIntOf) (dCons (dOp gLt (dV 2) (dV 3)) dNil)))
    sNext)
    (sSeq (sIf (dTst (dOp gEq (dOp gSub2 (dV 0) (dC (.int 0))) (dC (.str "*"))))
    (sRet (dOp gMod (dCB (one gIntOf) (dCons (dOp gMul (dV 2) (dV 3)) dNil)) (dC (.int 10))))
    sNext)
    (sRet (dOp gMod (dCB (one gIntOf) (dCons (dOp gAdd (dV 2) (dOp gMul (dV 3) (dOp gSub (dC (.int 1)) (dOp gMul (dC (.int 2)) (dCB (one gIntOf) (dCons (dOp gEq (dOp gSub2 (dV 0) (dC (.int 0))) (dC (.str "-"))) dNil)))))) dNil)) (dC (.int 10)))))))))
    sNext)
    (sSeq (sIf (dTst (dCB gIsi (dCons (dV 0) (dCons (dC (.ty "str")) dNil))))
    (sRet (dOp gSub2 (dV 1) (dV 0)))
    sNext)
    (sRet (dV 0))))
theorem ok_law_value (T : Tx P w K mg) : ∀ n : Nat, DFO P w K mg base (0 + 1 * n) T.a_law_value T.f_law_value ["e", "held"] (F_law_value n)
  | 0 => dfo_bad
  | n + 1 => (fn_def T.d_law_value sc_law_value fun cdv A outer s H E hr => by
  have nd := sc_law_value.nd
  have tk := takes_of (X := cxOf (L2.CX P w) P w K mg base ["e", "held", "one", "two"] "_law_value" (defScope s_law_value) T.a_law_value cdv A outer s H E) rfl rfl rfl rfl
  exact (ds_cons (ds_if (dt_v (de_isi T.n_isinstance (da_cons (de_v 0) (da_cons (de_ty T.n_tuple (by decide +kernel)) da_nil))))
    (ds_cons (ds_set (i := 2) nd (de_call (ok_law_value T n) tk (hr.mono (by omega)) T.g_law_value T.d_law_value.kp (bd_law_value T.d_law_value) (da_cons (de_sub2 hr (de_v 0) de_int) (da_cons (de_v 1) da_nil)) (hn := (dCons_len (dCons_len dNil_len)))))
    (ds_cons (ds_set (i := 3) nd (de_call (ok_law_value T n) tk (hr.mono (by omega)) T.g_law_value T.d_law_value.kp (bd_law_value T.d_law_value) (da_cons (de_sub2 hr (de_v 0) de_int) (da_cons (de_v 1) da_nil)) (hn := (dCons_len (dCons_len dNil_len)))))
    (ds_cons (ds_if (dt_cm (cm_eq hr) (de_sub2 hr (de_v 0) de_int) de_str)
    (ds_one (ds_ret (de_intof T.n_int (da_cons (de_cm (cm_eq hr) (de_v 2) (de_v 3)) da_nil))))
    ds_nil)
    (ds_cons (ds_if (dt_cm (cm_eq hr) (de_sub2 hr (de_v 0) de_int) de_str)
    (ds_one (ds_ret (de_intof T.n_int (da_cons (de_cm cm_lt (de_v 2) (de_v 3)) da_nil))))
    ds_nil)
    (ds_cons (ds_if (dt_cm (cm_eq hr) (de_sub2 hr (de_v 0) de_int) de_str)
    (ds_one (ds_ret (de_mod (de_intof T.n_int (da_cons (de_mul (de_v 2) (de_v 3)) da_nil)) de_int)))
    ds_nil)
    (ds_one (ds_ret (de_mod (de_intof T.n_int (da_cons (de_add (de_v 2) (de_mul (de_v 3) (de_sub de_int (de_mul de_int (de_intof T.n_int (da_cons (de_cm (cm_eq hr) (de_sub2 hr (de_v 0) de_int) de_str) da_nil)))))) da_nil)) de_int))))))))
    ds_nil)
    (ds_cons (ds_if (dt_v (de_isi T.n_isinstance (da_cons (de_v 0) (da_cons (de_ty T.n_str (by decide +kernel)) da_nil))))
    (ds_one (ds_ret (de_sub2 hr (de_v 1) (de_v 0))))
    ds_nil)
    (ds_one (ds_ret (de_v 0))))) : DFO P w K mg base (0 + 1 * n + 0 + 1) _ _ _ _).mono (by omega)
noncomputable def F_law_step : DFn := dfun 5 8
    (sIf (dTst (dOp gEq (dOp gSub2 (dV 0) (dC (.int 0))) (dC (.str "read"))))
    (sSeq (sPut2 (dV 3) (dOp gSub2 (dV 0) (dC (.int 1))) (dOp gSub2 (dV 2) (dOp gSub2 (dV 0) (dC (.int 2)))))
    (sDrop (dM "list" mApp (dV 4) (dCons (dTup (dCons (dC (.str "read")) (dCons (dOp gSub2 (dV 0) (dC (.int 2))) (dCons (dOp gSub2 (dV 2) (dOp gSub2 (dV 0) (dC (.int 2)))) (dCons (dCB (one gTuple) (dCons (dV 2) dNil)) dNil))))) dNil))))
    (sIf (dTst (dOp gEq (dOp gSub2 (dV 0) (dC (.int 0))) (dC (.str "set"))))
    (sSeq (sPut2 (dV 2) (dOp gSub2 (dV 0) (dC (.int 1))) (dOp gMod (dCB (one gIntOf) (dCons (dCB (fun S ds => (F_law_value 8) ds S) (dCons (dOp gSub2 (dV 0) (dC (.int 2))) (dCons (dV 3) dNil))) dNil)) (dOp gSub2 (dV 1) (dOp gSub2 (dV 0) (dC (.int 1))))))
    (sDrop (dM "list" mApp (dV 4) (dCons (dTup (dCons (dC (.str "set")) (dCons (dOp gSub2 (dV 0) (dC (.int 1))) (dCons (dOp gSub2 (dV 2) (dOp gSub2 (dV 0) (dC (.int 1)))) (dCons (dCB (one gTuple) (dCons (dV 2) dNil)) dNil))))) dNil))))
    (sSeq (sSet 5 (dCB (fun S ds => (F_law_value 8) ds S) (dCons (dOp gSub2 (dV 0) (dC (.int 3))) (dCons (dV 3) dNil))))
    (sSeq (sSet 6 (dCB (fun S ds => (F_law_value 8) ds S) (dCons (dOp gSub2 (dV 0) (dC (.int 4))) (dCons (dV 3) dNil))))
    (sSeq (sSet 7 (dCB (one gIntOf) (dCons (dOp gEq (dOp gSub2 (dV 2) (dOp gSub2 (dV 0) (dC (.int 2)))) (dV 5)) dNil)))
    (sSeq (sIf (dTst (dOp gEq (dV 7) (dC (.int 1))))
    (sPut2 (dV 2) (dOp gSub2 (dV 0) (dC (.int 2))) (dOp gMod (dCB (one gIntOf) (dCons (dV 6) dNil)) (dOp gSub2 (dV 1) (dOp gSub2 (dV 0) (dC (.int 2))))))
    sNext)
    (sSeq (sPut2 (dV 3) (dOp gSub2 (dV 0) (dC (.int 1))) (dV 7))
    (sDrop (dM "list" mApp (dV 4) (dCons (dTup (dCons (dC (.str "swap")) (dCons (dOp gSub2 (dV 0) (dC (.int 2))) (dCons (dV 7) (dCons (dCB (one gTuple) (dCons (dV 2) dNil)) dNil))))) dNil))))))))))
theorem ok_law_step (T : Tx P w K mg) : DFO P w K mg base 9 T.a_law_step T.f_law_step ["row", "sizes", "cells", "held", "trace"] F_law_step := fn_def T.d_law_step sc_law_step fun cdv A outer s H E hr => by
  have nd := sc_law_step.nd
  have tk := takes_of (X := cxOf (L2.CX P w) P w K mg base ["row", "sizes", "cells", "held", "trace", "one", "two", "hit"] "_law_step" (defScope s_law_step) T.a_law_step cdv A outer s H E) rfl rfl rfl rfl
  exact (ds_one (ds_if (dt_cm (cm_eq hr) (de_sub2 hr (de_v 0) de_int) de_str)
    (ds_cons (ds_put2 hr (de_v 3) (de_sub2 hr (de_v 0) de_int) (pg_sub (de_v 3) (de_sub2 hr (de_v 0) de_int) set_list) (de_sub2 hr (de_v 2) (de_sub2 hr (de_v 0) de_int)))
    (ds_one (ds_drop (de_app (de_v 4) (da_cons (de_tup (da_cons de_str (da_cons (de_sub2 hr (de_v 0) de_int) (da_cons (de_sub2 hr (de_v 2) (de_sub2 hr (de_v 0) de_int)) (da_cons (de_tuple T.n_tuple (da_cons (de_v 2) da_nil)) da_nil))))) da_nil)))))
    (ds_one (ds_if (dt_cm (cm_eq hr) (de_sub2 hr (de_v 0) de_int) de_str)
    (ds_cons (ds_put2 hr (de_v 2) (de_sub2 hr (de_v 0) de_int) (pg_sub (de_v 2) (de_sub2 hr (de_v 0) de_int) set_list) (de_mod (de_intof T.n_int (da_cons (de_call (ok_law_value T 8) tk (hr.mono (by omega)) T.g_law_value T.d_law_value.kp (bd_law_value T.d_law_value) (da_cons (de_sub2 hr (de_v 0) de_int) (da_cons (de_v 3) da_nil)) (hn := (dCons_len (dCons_len dNil_len)))) da_nil)) (de_sub2 hr (de_v 1) (de_sub2 hr (de_v 0) de_int))))
    (ds_one (ds_drop (de_app (de_v 4) (da_cons (de_tup (da_cons de_str (da_cons (de_sub2 hr (de_v 0) de_int) (da_cons (de_sub2 hr (de_v 2) (de_sub2 hr (de_v 0) de_int)) (da_cons (de_tuple T.n_tuple (da_cons (de_v 2) da_nil)) da_nil))))) da_nil)))))
    (ds_cons (ds_set (i := 5) nd (de_call (ok_law_value T 8) tk (hr.mono (by omega)) T.g_law_value T.d_law_value.kp (bd_law_value T.d_law_value) (da_cons (de_sub2 hr (de_v 0) de_int) (da_cons (de_v 3) da_nil)) (hn := (dCons_len (dCons_len dNil_len)))))
    (ds_cons (ds_set (i := 6) nd (de_call (ok_law_value T 8) tk (hr.mono (by omega)) T.g_law_value T.d_law_value.kp (bd_law_value T.d_law_value) (da_cons (de_sub2 hr (de_v 0) de_int) (da_cons (de_v 3) da_nil)) (hn := (dCons_len (dCons_len dNil_len)))))
    (ds_cons (ds_set (i := 7) nd (de_intof T.n_int (da_cons (de_cm (cm_eq hr) (de_sub2 hr (de_v 2) (de_sub2 hr (de_v 0) de_int)) (de_v 5)) da_nil)))
    (ds_cons (ds_if (dt_cm (cm_eq hr) (de_v 7) de_int)
    (ds_one (ds_put2 hr (de_v 2) (de_sub2 hr (de_v 0) de_int) (pg_sub (de_v 2) (de_sub2 hr (de_v 0) de_int) set_list) (de_mod (de_intof T.n_int (da_cons (de_v 6) da_nil)) (de_sub2 hr (de_v 1) (de_sub2 hr (de_v 0) de_int)))))
    ds_nil)
    (ds_cons (ds_put2 hr (de_v 3) (de_sub2 hr (de_v 0) de_int) (pg_sub (de_v 3) (de_sub2 hr (de_v 0) de_int) set_list) (de_v 7))
    (ds_one (ds_drop (de_app (de_v 4) (da_cons (de_tup (da_cons de_str (da_cons (de_sub2 hr (de_v 0) de_int) (da_cons (de_v 7) (da_cons (de_tuple T.n_tuple (da_cons (de_v 2) da_nil)) da_nil))))) da_nil)))))))))))))
noncomputable def F_law_do : Nat → DFn
  | 0 => fun _ _ => .bad
  | n + 1 => dfun 6 9
    (sSeq (sFor (iAny (dV 0)) (bName 6)
    (sSeq (sSet 7 (dC .non))
    (sSeq (sIf (dTst (dOp gEq (dOp gSub2 (dV 6) (dC (.int 0))) (dC (.str "answer"))))
    (sRet (dCB (fun S ds => (F_law_value 8) ds S) (dCons (dOp gSub2 (dV 6) (dC (.int 1))) (dCons (dV 3) dNil))))
    sNext)
    (sSeq (sIf (dTst (dOp gEq (dOp gSub2 (dV 6) (dC (.int 0))) (dC (.str "keep"))))
    (sPut2 (dV 3) (dOp gSub2 (dV 6) (dC (.int 1))) (dCB (fun S ds => (F_law_value 8) ds S) (dCons (dOp gSub2 (dV 6) (dC (.int 2))) (dCons (dV 3) dNil))))
    (sIf (dTst (dOp gEq (dOp gSub2 (dV 6) (dC (.int 0))) (dC (.str "coin"))))
    (sSeq (sIf (dTst (dOp gEq (dCB (one gLen) (dCons (dV 4) dNil)) (dC (.int 0))))
    (sRet (dUn gNeg (dC (.int 1))))
    sNext)
    (sPut2 (dV 3) (dOp gSub2 (dV 6) (dC (.int 1))) (dM "list" mPopAt (dV 4) (dCons (dC (.int 0)) dNil))))
    (sIf (dTst (dOp gEq (dOp gSub2 (dV 6) (dC (.int 0))) (dC (.str "if"))))
    (sSet 7 (dCB (fun S ds => (F_law_do n) ds S) (dCons (dOp gSub2 (dV 6) (dOp gAdd (dC (.int 2)) (dCB (one gIntOf) (dCons (dOp gEq (dCB (fun S ds => (F_law_value 8) ds S) (dCons (dOp gSub2 (dV 6) (dC (.int 1))) (dCons (dV 3) dNil))) (dC (.int 0))) dNil)))) (dCons (dV 1) (dCons (dV 2) (dCons (dV 3) (dCons (dV 4) (dCons (dV 5) dNil))))))))
    (sIf (dTst (dOp gEq (dOp gSub2 (dV 6) (dC (.int 0))) (dC (.str "times"))))
    (sFor (iRg1 (dCons (dCB (fun S ds => (F_law_value 8) ds S) (dCons (dOp gSub2 (dV 6) (dC (.int 1))) (dCons (dV 3) dNil))) dNil)) (bName 8)
    (sIf (dTst (dOp (gIs false) (dV 7) (dC .non)))
    (sSet 7 (dCB (fun S ds => (F_law_do n) ds S) (dCons (dOp gSub2 (dV 6) (dC (.int 2))) (dCons (dV 1) (dCons (dV 2) (dCons (dV 3) (dCons (dV 4) (dCons (dV 5) dNil))))))))
    sNext))
    (sDrop (dCB (fun S ds => F_law_step ds S) (dCons (dV 6) (dCons (dV 1) (dCons (dV 2) (dCons (dV 3) (dCons (dV 5) dNil)))))))))))
    (sIf (dTst (dOp (gIs true) (dV 7) (dC .non)))
    (sRet (dV 7))
    sNext)))))
    (sRet (dC .non)))
theorem ok_law_do (T : Tx P w K mg) : ∀ n : Nat, DFO P w K mg base (9 + 1 * n) T.a_law_do T.f_law_do ["rows", "sizes", "cells", "held", "falls", "trace"] (F_law_do n)
  | 0 => dfo_bad
  | n + 1 => (fn_def T.d_law_do sc_law_do fun cdv A outer s H E hr => by
  have nd := sc_law_do.nd
  have tk := takes_of (X := cxOf (L2.CX P w) P w K mg base ["rows", "sizes", "cells", "held", "falls", "trace", "row", "answer", "turn"] "_law_do" (defScope s_law_do) T.a_law_do cdv A outer s H E) rfl rfl rfl rfl
  exact (ds_cons (ds_for (passes_of rfl) rfl (di_any (de_v 0)) (dg_name 6 nd)
    (ds_cons (ds_set (i := 7) nd de_non)
    (ds_cons (ds_if (dt_cm (cm_eq hr) (de_sub2 hr (de_v 6) de_int) de_str)
    (ds_one (ds_ret (de_call (ok_law_value T 8) tk (hr.mono (by omega)) T.g_law_value T.d_law_value.kp (bd_law_value T.d_law_value) (da_cons (de_sub2 hr (de_v 6) de_int) (da_cons (de_v 3) da_nil)) (hn := (dCons_len (dCons_len dNil_len))))))
    ds_nil)
    (ds_cons (ds_if (dt_cm (cm_eq hr) (de_sub2 hr (de_v 6) de_int) de_str)
    (ds_one (ds_put2 hr (de_v 3) (de_sub2 hr (de_v 6) de_int) (pg_sub (de_v 3) (de_sub2 hr (de_v 6) de_int) set_list) (de_call (ok_law_value T 8) tk (hr.mono (by omega)) T.g_law_value T.d_law_value.kp (bd_law_value T.d_law_value) (da_cons (de_sub2 hr (de_v 6) de_int) (da_cons (de_v 3) da_nil)) (hn := (dCons_len (dCons_len dNil_len))))))
    (ds_one (ds_if (dt_cm (cm_eq hr) (de_sub2 hr (de_v 6) de_int) de_str)
    (ds_cons (ds_if (dt_cm (cm_eq hr) (de_len T.n_len (da_cons (de_v 4) da_nil)) de_int)
    (ds_one (ds_ret (de_neg de_int)))
    ds_nil)
    (ds_one (ds_put2 hr (de_v 3) (de_sub2 hr (de_v 6) de_int) (pg_sub (de_v 3) (de_sub2 hr (de_v 6) de_int) set_list) (de_popAt (de_v 4) (da_cons de_int da_nil)))))
    (ds_one (ds_if (dt_cm (cm_eq hr) (de_sub2 hr (de_v 6) de_int) de_str)
    (ds_one (ds_set (i := 7) nd (de_call (ok_law_do T n) tk (hr.mono (by omega)) T.g_law_do T.d_law_do.kp (bd_law_do T.d_law_do) (da_cons (de_sub2 hr (de_v 6) (de_add de_int (de_intof T.n_int (da_cons (de_cm (cm_eq hr) (de_call (ok_law_value T 8) tk (hr.mono (by omega)) T.g_law_value T.d_law_value.kp (bd_law_value T.d_law_value) (da_cons (de_sub2 hr (de_v 6) de_int) (da_cons (de_v 3) da_nil)) (hn := (dCons_len (dCons_len dNil_len)))) de_int) da_nil)))) (da_cons (de_v 1) (da_cons (de_v 2) (da_cons (de_v 3) (da_cons (de_v 4) (da_cons (de_v 5) da_nil)))))) (hn := (dCons_len (dCons_len (dCons_len (dCons_len (dCons_len (dCons_len dNil_len))))))))))
    (ds_one (ds_if (dt_cm (cm_eq hr) (de_sub2 hr (de_v 6) de_int) de_str)
    (ds_one (ds_for (passes_of rfl) rfl (di_rg1 T.n_range (da_cons (de_call (ok_law_value T 8) tk (hr.mono (by omega)) T.g_law_value T.d_law_value.kp (bd_law_value T.d_law_value) (da_cons (de_sub2 hr (de_v 6) de_int) (da_cons (de_v 3) da_nil)) (hn := (dCons_len (dCons_len dNil_len)))) da_nil)) (dg_name 8 nd)
    (ds_one (ds_if (dt_cm cm_is (de_v 7) de_non)
    (ds_one (ds_set (i := 7) nd (de_call (ok_law_do T n) tk (hr.mono (by omega)) T.g_law_do T.d_law_do.kp (bd_law_do T.d_law_do) (da_cons (de_sub2 hr (de_v 6) de_int) (da_cons (de_v 1) (da_cons (de_v 2) (da_cons (de_v 3) (da_cons (de_v 4) (da_cons (de_v 5) da_nil)))))) (hn := (dCons_len (dCons_len (dCons_len (dCons_len (dCons_len (dCons_len dNil_len))))))))))
    ds_nil))))
    (ds_one (ds_drop (de_call (ok_law_step T) tk (hr.mono (by omega)) T.g_law_step T.d_law_step.kp (bd_law_step T.d_law_step) (da_cons (de_v 6) (da_cons (de_v 1) (da_cons (de_v 2) (da_cons (de_v 3) (da_cons (de_v 5) da_nil))))) (hn := (dCons_len (dCons_len (dCons_len (dCons_len (dCons_len dNil_len))))))))))))))))
    (ds_one (ds_if (dt_cm cm_isnot (de_v 7) de_non)
    (ds_one (ds_ret (de_v 7)))
    ds_nil))))))
    (ds_one (ds_ret de_non))) : DFO P w K mg base (9 + 1 * n + 0 + 1) _ _ _ _).mono (by omega)
noncomputable def F_law_call : DFn := dfun 5 14
    (sSeq (sSet 5 (dLc (iAny (dV 0)) (bName 12) tTrue (dOp gSub2 (dV 12) (dC (.int 0))) [12]))
    (sSeq (sSet 6 (dOp gSub2 (dLc (iAny (dV 1)) (bName 13) (dTst (dOp gEq (dOp gSub2 (dV 13) (dC (.int 0))) (dOp gSub2 (dV 3) (dC (.int 0))))) (dOp gSub2 (dV 13) (dC (.int 2))) [13]) (dC (.int 0))))
    (sSeq (sSet 7 (dDisp (((dC (.str "a")), (dC (.int 0))) :: (((dC (.str "b")), (dC (.int 0))) :: (((dC (.str "c")), (dC (.int 0))) :: (((dC (.str "d")), (dC (.int 0))) :: (((dC (.str "x")), (dOp gSub2 (dV 3) (dC (.int 1)))) :: [])))))))
    (sSeq (sSet 8 (dCB (one gList) (dCons (dV 2) dNil)))
    (sSeq (sSet 9 (dCB (one gList) (dCons (dV 4) dNil)))
    (sSeq (sSet 10 (dLst dNil))
    (sSeq (sSet 11 (dCB (fun S ds => (F_law_do 6) ds S) (dCons (dV 6) (dCons (dV 5) (dCons (dV 8) (dCons (dV 7) (dCons (dV 9) (dCons (dV 10) dNil))))))))
    (sSeq (sIf (dTst (dOp (gIs false) (dV 11) (dC .non)))
    (sSet 11 (dC (.int 0)))
    sNext)
    (sRet (dTup (dCons (dV 11) (dCons (dCB (one gTuple) (dCons (dV 8) dNil)) (dCons (dV 10) (dCons (dOp gSub (dCB (one gLen) (dCons (dV 4) dNil)) (dCB (one gLen) (dCons (dV 9) dNil))) dNil))))))))))))))
theorem ok_law_call (T : Tx P w K mg) : DFO P w K mg base 16 T.a_law_call T.f_law_call ["cells", "deeds", "state", "call", "falls"] F_law_call := fn_def T.d_law_call sc_law_call fun cdv A outer s H E hr => by
  have nd := sc_law_call.nd
  have tk := takes_of (X := cxOf (L2.CX P w) P w K mg base ["cells", "deeds", "state", "call", "falls", "sizes", "rows", "held", "now", "left", "trace", "answer", "cell", "deed"] "_law_call" (defScope s_law_call) T.a_law_call cdv A outer s H E) rfl rfl rfl rfl
  exact (ds_cons (ds_setLc (i := 5) (own := [("cell", 12)]) rfl nd (di_any (de_v 0)) (blkOk_by (N := ["cells", "deeds", "state", "call", "falls", "sizes", "rows", "held", "now", "left", "trace", "answer", "cell", "deed"]) (sc := defScope (topS 57)) (by decide +kernel)) (fun _ _ _ _ _ => (dg_name 12 nd)) (fun _ _ _ _ _ => dts_nil) (fun _ _ _ _ _ => (de_sub2 hr (de_v 12) de_int)) (sw_true rfl rfl rfl (by decide +kernel)))
    (ds_cons (ds_set (i := 6) nd (de_sub2 hr (de_lc (own := [("deed", 13)]) rfl nd (di_any (de_v 1)) (blkOk_by (N := ["cells", "deeds", "state", "call", "falls", "sizes", "rows", "held", "now", "left", "trace", "answer", "cell", "deed"]) (sc := defScope (topS 57)) (by decide +kernel)) (fun _ _ _ _ _ => (dg_name 13 nd)) (fun _ _ _ _ _ => (dts_one (dt_cm (cm_eq hr) (de_sub2 hr (de_v 13) de_int) (de_sub2 hr (de_v 3) de_int)))) (fun _ _ _ _ _ => (de_sub2 hr (de_v 13) de_int))) de_int))
    (ds_cons (ds_set (i := 7) nd (de_disp (prs := (((dC (.str "a")), (dC (.int 0))) :: (((dC (.str "b")), (dC (.int 0))) :: (((dC (.str "c")), (dC (.int 0))) :: (((dC (.str "d")), (dC (.int 0))) :: (((dC (.str "x")), (dOp gSub2 (dV 3) (dC (.int 1)))) :: [])))))) (dps_cons de_str de_int (dps_cons de_str de_int (dps_cons de_str de_int (dps_cons de_str de_int (dps_cons de_str (de_sub2 hr (de_v 3) de_int) dps_nil)))))))
    (ds_cons (ds_set (i := 8) nd (de_list T.n_list (da_cons (de_v 2) da_nil)))
    (ds_cons (ds_set (i := 9) nd (de_list T.n_list (da_cons (de_v 4) da_nil)))
    (ds_cons (ds_set (i := 10) nd (de_lst da_nil))
    (ds_cons (ds_set (i := 11) nd (de_call (ok_law_do T 6) tk (hr.mono (by omega)) T.g_law_do T.d_law_do.kp (bd_law_do T.d_law_do) (da_cons (de_v 6) (da_cons (de_v 5) (da_cons (de_v 8) (da_cons (de_v 7) (da_cons (de_v 9) (da_cons (de_v 10) da_nil)))))) (hn := (dCons_len (dCons_len (dCons_len (dCons_len (dCons_len (dCons_len dNil_len)))))))))
    (ds_cons (ds_if (dt_cm cm_is (de_v 11) de_non)
    (ds_one (ds_set (i := 11) nd de_int))
    ds_nil)
    (ds_one (ds_ret (de_tup (da_cons (de_v 11) (da_cons (de_tuple T.n_tuple (da_cons (de_v 8) da_nil)) (da_cons (de_v 10) (da_cons (de_sub (de_len T.n_len (da_cons (de_v 4) da_nil)) (de_len T.n_len (da_cons (de_v 9) da_nil))) da_nil)))))))))))))))
noncomputable def F_law_outs : DFn := dfun 4 9
    (sSeq (sSet 4 (dLst dNil))
    (sSeq (sSet 5 (dLst (dCons (dLst dNil) dNil)))
    (sSeq (sFor (iRg1 (dCons (dC (.int 31)) dNil)) (bName 6)
    (sIf (dTst (dOp gGt (dCB (one gLen) (dCons (dV 5) dNil)) (dC (.int 0))))
    (sSeq (sSet 7 (dM "list" mPop (dV 5) dNil))
    (sSeq (sSet 8 (dCB (fun S ds => F_law_call ds S) (dCons (dV 0) (dCons (dV 1) (dCons (dV 2) (dCons (dV 3) (dCons (dV 7) dNil)))))))
    (sIf (dTst (dOp gEq (dOp gSub2 (dV 8) (dC (.int 0))) (dUn gNeg (dC (.int 1)))))
    (sSeq (sDrop (dM "list" mApp (dV 5) (dCons (dOp gAdd (dV 7) (dLst (dCons (dC (.int 1)) dNil))) dNil)))
    (sDrop (dM "list" mApp (dV 5) (dCons (dOp gAdd (dV 7) (dLst (dCons (dC (.int 0)) dNil))) dNil))))
    (sDrop (dM "list" mApp (dV 4) (dCons (dTup (dCons (dCB (one gTuple) (dCons (dV 7) dNil)) (dCons (dOp gSub2 (dV 8) (dC (.int 0))) (dCons (dOp gSub2 (dV 8) (dC (.int 1))) dNil)))) dNil))))))
    sNext))
    (sRet (dV 4)))))
theorem ok_law_outs (T : Tx P w K mg) : DFO P w K mg base 17 T.a_law_outs T.f_law_outs ["cells", "deeds", "state", "call"] F_law_outs := fn_def T.d_law_outs sc_law_outs fun cdv A outer s H E hr => by
  have nd := sc_law_outs.nd
  have tk := takes_of (X := cxOf (L2.CX P w) P w K mg base ["cells", "deeds", "state", "call", "outs", "todo", "turn", "falls", "came"] "_law_outs" (defScope s_law_outs) T.a_law_outs cdv A outer s H E) rfl rfl rfl rfl
  exact (ds_cons (ds_set (i := 4) nd (de_lst da_nil))
    (ds_cons (ds_set (i := 5) nd (de_lst (da_cons (de_lst da_nil) da_nil)))
    (ds_cons (ds_for (passes_of rfl) rfl (di_rg1 T.n_range (da_cons de_int da_nil)) (dg_name 6 nd)
    (ds_one (ds_if (dt_cm cm_gt (de_len T.n_len (da_cons (de_v 5) da_nil)) de_int)
    (ds_cons (ds_set (i := 7) nd (de_pop (de_v 5)))
    (ds_cons (ds_set (i := 8) nd (de_call (ok_law_call T) tk (hr.mono (by omega)) T.g_law_call T.d_law_call.kp (bd_law_call T.d_law_call) (da_cons (de_v 0) (da_cons (de_v 1) (da_cons (de_v 2) (da_cons (de_v 3) (da_cons (de_v 7) da_nil))))) (hn := (dCons_len (dCons_len (dCons_len (dCons_len (dCons_len dNil_len))))))))
    (ds_one (ds_if (dt_cm (cm_eq hr) (de_sub2 hr (de_v 8) de_int) (de_neg de_int))
    (ds_cons (ds_drop (de_app (de_v 5) (da_cons (de_add (de_v 7) (de_lst (da_cons de_int da_nil))) da_nil)))
    (ds_one (ds_drop (de_app (de_v 5) (da_cons (de_add (de_v 7) (de_lst (da_cons de_int da_nil))) da_nil)))))
    (ds_one (ds_drop (de_app (de_v 4) (da_cons (de_tup (da_cons (de_tuple T.n_tuple (da_cons (de_v 7) da_nil)) (da_cons (de_sub2 hr (de_v 8) de_int) (da_cons (de_sub2 hr (de_v 8) de_int) da_nil)))) da_nil))))))))
    ds_nil)))
    (ds_one (ds_ret (de_v 4))))))
noncomputable def F_law_weights : DFn := dfun 3 13
    (sSeq (sSet 3 (dCB (one gTuple) (dCons (dLc (iAny (dV 0)) (bName 12) tTrue (dOp gSub2 (dV 12) (dC (.int 1))) [12]) dNil)))
    (sSeq (sSet 4 (dOneT (dV 3) (dC (.int 1))))
    (sSeq (sSet 5 (dC (.int 1)))
    (sSeq (sFor (iAny (dV 2)) (bName 6)
    (sSeq (sSet 7 dTNew)
    (sSeq (sSet 5 (dOp gMul (dV 5) (dC (.int 16))))
    (sSeq (sLk 4 (sFor (iKT (dV 4)) (bName 8)
    (sFor (iAny (dCB (fun S ds => F_law_outs ds S) (dCons (dV 0) (dCons (dV 1) (dCons (dV 8) (dCons (dV 6) dNil)))))) (bTup 3 (bCons (bName 9) (bCons (bName 10) (bCons (bName 11) bNil))))
    (sTPut (dV 7) (dV 11) (dOp gAdd (dTGet2 (dV 7) (dV 11) (dC (.int 0))) (dOp gMul (dOp gTGet (dV 4) (dV 8)) (dOp gSub2 (dLst (dCons (dC (.int 16)) (dCons (dC (.int 8)) (dCons (dC (.int 4)) (dCons (dC (.int 2)) (dCons (dC (.int 1)) dNil)))))) (dCB (one gLen) (dCons (dV 9) dNil)))))))))
    (sSet 4 (dV 7))))))
    (sRet (dTup (dCons (dV 4) (dCons (dV 5) dNil))))))))
theorem ok_law_weights (T : Tx P w K mg) : DFO P w K mg base 18 T.a_law_weights T.f_law_weights ["cells", "deeds", "row"] F_law_weights := fn_def T.d_law_weights sc_law_weights fun cdv A outer s H E hr => by
  have nd := sc_law_weights.nd
  have tk := takes_of (X := cxOf (L2.CX P w) P w K mg base ["cells", "deeds", "row", "first", "now", "total", "call", "behind", "state", "falls", "answer", "after", "cell"] "_law_weights" (defScope s_law_weights) T.a_law_weights cdv A outer s H E) rfl rfl rfl rfl
  exact (ds_cons (ds_set (i := 3) nd (de_tuple T.n_tuple (da_cons (de_lc (own := [("cell", 12)]) rfl nd (di_any (de_v 0)) (blkOk_by (N := ["cells", "deeds", "row", "first", "now", "total", "call", "behind", "state", "falls", "answer", "after", "cell"]) (sc := defScope (topS 62)) (by decide +kernel)) (fun _ _ _ _ _ => (dg_name 12 nd)) (fun _ _ _ _ _ => dts_nil) (fun _ _ _ _ _ => (de_sub2 hr (de_v 12) de_int))) da_nil)))
    (ds_cons (ds_set (i := 4) nd (de_oneT hr (de_v 3) de_int))
    (ds_cons (ds_set (i := 5) nd de_int)
    (ds_cons (ds_for (passes_of rfl) rfl (di_any (de_v 2)) (dg_name 6 nd)
    (ds_cons (ds_set (i := 7) nd de_tnew)
    (ds_cons (ds_set (i := 5) nd (de_mul (de_v 5) de_int))
    (ds_cons (ds_lk 4 (ds_for (passes_of rfl) rfl (di_keysT (de_v 4)) (dg_name 8 nd)
    (ds_one (ds_for (passes_of rfl) rfl (di_any (de_call (ok_law_outs T) tk (hr.mono (by omega)) T.g_law_outs T.d_law_outs.kp (bd_law_outs T.d_law_outs) (da_cons (de_v 0) (da_cons (de_v 1) (da_cons (de_v 8) (da_cons (de_v 6) da_nil)))) (hn := (dCons_len (dCons_len (dCons_len (dCons_len dNil_len))))))) (dg_tup rfl (dgs_cons (dg_name 9 nd) (dgs_cons (dg_name 10 nd) (dgs_cons (dg_name 11 nd) dgs_nil))))
    (ds_one (ds_tput hr (de_v 7) (de_v 11) (de_add (de_tget2 hr (de_v 7) (de_v 11) de_int ⟨rfl, rfl, rfl, rfl⟩) (de_mul (de_tget hr (de_v 4) (de_v 8)) (de_sub2 hr (de_lst (da_cons de_int (da_cons de_int (da_cons de_int (da_cons de_int (da_cons de_int da_nil)))))) (de_len T.n_len (da_cons (de_v 9) da_nil)))))))))))
    (ds_one (ds_set (i := 4) nd (de_v 7)))))))
    (ds_one (ds_ret (de_tup (da_cons (de_v 4) (da_cons (de_v 5) da_nil)))))))))
noncomputable def F_law : DFn := dfun 1 17
    (sSeq (sSet 1 (dCB (fun S ds => F_law_pool ds S) (dCons (dV 0) (dCons (dC (.int 0)) dNil))))
    (sSeq (sSet 2 (dCB (fun S ds => F_law_draw ds S) (dCons (dV 1) (dCons (dC (.int 16)) dNil))))
    (sSeq (sSet 3 (dCB (fun S ds => F_law_cells ds S) (dCons (dV 1) dNil)))
    (sSeq (sSet 4 (dCB (fun S ds => F_law_coin_vault ds S) (dCons (dV 1) (dCons (dV 3) dNil))))
    (sSeq (sSet 5 (dMake "Vault" F_Vault___init__ (dCons (dCB (one gList) (dCons (dV 3) dNil)) (dCons (dCB (one gList) (dCons (dV 4) dNil)) dNil))))
    (sSeq (sSet 6 (dCB (fun S ds => F_law_calls ds S) (dCons (dV 4) dNil)))
    (sSeq (sSet 7 (dLc (iRg2 (dCons (dC (.int 1)) (dCons (dCB gMin2 (dCons (dCB (one gLen) (dCons (dV 0) dNil)) (dCons (dC (.int 6)) dNil))) dNil))) (bName 15) tTrue (dOp gSub2 (dV 6) (dCB (fun S ds => F_law_draw ds S) (dCons (dCB (fun S ds => F_law_pool ds S) (dCons (dV 0) (dCons (dV 15) dNil))) (dCons (dCB (one gLen) (dCons (dV 6) dNil)) dNil)))) [15]))
    (sSeq (sSet 7 (dOp gAdd (dV 7) (dCB (fun S ds => F_law_row ds S) (dCons (dV 1) (dCons (dV 6) (dCons (dC (.int 4)) dNil))))))
    (sSeq (sSet 2 (dOp gMod (dCB (one gIntOf) (dCons (dV 2) dNil)) (dOp gAdd (dCB (one gLen) (dCons (dV 7) dNil)) (dC (.int 1)))))
    (sSeq (sSet 8 (dCB (fun S ds => F_law_weights ds S) (dCons (dV 3) (dCons (dV 4) (dCons (dV 7) dNil)))))
    (sSeq (sSet 9 (dCB (one gList) (dCons (dV 7) dNil)))
    (sSeq (sSet 10 (dCB (fun S ds => F_share ds S) (dCons (dV 5) (dCons (dV 9) dNil))))
    (sSeq (sIf (dOr (dTst (dOp gNe (dV 7) (dV 9))) (dNot (dTst (dCB (fun S ds => F_law_right ds S) (dCons (dV 10) (dCons (dOp gSub2 (dV 8) (dC (.int 0))) (dCons (dOp gSub2 (dV 8) (dC (.int 1))) dNil)))))))
    (sRet (dC (.bl false)))
    sNext)
    (sSeq (sTPut (dV 10) (dTup (dCons (dC (.int 9)) dNil)) (dTup (dCons (dC (.int 1)) (dCons (dC (.int 2)) dNil))))
    (sSeq (sSet 11 (dCB (fun S ds => F_law_weights ds S) (dCons (dV 3) (dCons (dV 4) (dCons (dSl (dV 7) dO0 (dO1 (dV 2))) dNil)))))
    (sSeq (sIf (dNot (dTst (dCB (fun S ds => F_law_right ds S) (dCons (dCB (fun S ds => F_share ds S) (dCons (dV 5) (dCons (dSl (dV 7) dO0 (dO1 (dV 2))) dNil))) (dCons (dOp gSub2 (dV 11) (dC (.int 0))) (dCons (dOp gSub2 (dV 11) (dC (.int 1))) dNil))))))
    (sRet (dC (.bl false)))
    sNext)
    (sSeq (sSet 12 (dCB (fun S ds => F_law_mixed ds S) (dCons (dV 5) (dCons (dSl (dV 7) dO0 (dO1 (dV 2))) (dCons (dSl (dV 7) (dO1 (dV 2)) dO0) (dCons (dOp gSub2 (dV 8) (dC (.int 1))) dNil))))))
    (sSeq (sIf (dTst (dOp gNe (dCB gTLen (dCons (dV 12) dNil)) (dCB gTLen (dCons (dOp gSub2 (dV 8) (dC (.int 0))) dNil))))
    (sRet (dC (.bl false)))
    sNext)
    (sSeq (sLk 12 (sFor (iKT (dV 12)) (bName 13)
    (sIf (dOr (dTst (dOp (gTIn true) (dV 13) (dOp gSub2 (dV 8) (dC (.int 0))))) (dTst (dOp gNe (dOp gTGet (dV 12) (dV 13)) (dOp gMul (dOp gTGet (dOp gSub2 (dV 8) (dC (.int 0))) (dV 13)) (dOp gSub2 (dV 8) (dC (.int 1)))))))
    (sRet (dC (.bl false)))
    sNext)))
    (sSeq (sSet 14 (dCB (one gTuple) (dCons (dLc (iAny (dV 3)) (bName 16) tTrue (dOp gSub2 (dV 16) (dC (.int 1))) [16]) dNil)))
    (sSeq (sIf (dNot (dTst (dCB (fun S ds => F_law_right ds S) (dCons (dCB (fun S ds => F_share ds S) (dCons (dV 5) (dCons (dLst dNil) dNil))) (dCons (dOneT (dV 14) (dC (.int 1))) (dCons (dC (.int 1)) dNil))))))
    (sRet (dC (.bl false)))
    sNext)
    (sRet (dCB (fun S ds => F_law_right ds S) (dCons (dCB (fun S ds => F_share ds S) (dCons (dV 5) (dCons (dV 9) dNil))) (dCons (dOp gSub2 (dV 8) (dC (.int 0))) (dCons (dOp gSub2 (dV 8) (dC (.int 1))) dNil))))))))))))))))))))))))))
theorem ok_law (T : Tx P w K mg) : DFO P w K mg base 58 T.a_law T.f_law ["script"] F_law := fn_def T.d_law sc_law fun cdv A outer s H E hr => by
  have nd := sc_law.nd
  have tk := takes_of (X := cxOf (L2.CX P w) P w K mg base ["script", "pool", "place", "cells", "deeds", "vault", "calls", "row", "weighed", "row_in", "told", "half", "mixed", "state", "first", "k", "cell"] "law" (defScope s_law) T.a_law cdv A outer s H E) rfl rfl rfl rfl
  exact (ds_cons (ds_set (i := 1) nd (de_call (ok_law_pool T) tk (hr.mono (by omega)) T.g_law_pool T.d_law_pool.kp (bd_law_pool T.d_law_pool) (da_cons (de_v 0) (da_cons de_int da_nil)) (hn := (dCons_len (dCons_len dNil_len)))))
    (ds_cons (ds_set (i := 2) nd (de_call (ok_law_draw T) tk (hr.mono (by omega)) T.g_law_draw T.d_law_draw.kp (bd_law_draw T.d_law_draw) (da_cons (de_v 1) (da_cons de_int da_nil)) (hn := (dCons_len (dCons_len dNil_len)))))
    (ds_cons (ds_set (i := 3) nd (de_call (ok_law_cells T) tk (hr.mono (by omega)) T.g_law_cells T.d_law_cells.kp (bd_law_cells T.d_law_cells) (da_cons (de_v 1) da_nil) (hn := (dCons_len dNil_len))))
    (ds_cons (ds_set (i := 4) nd (de_call (ok_law_coin_vault T) tk (hr.mono (by omega)) T.g_law_coin_vault T.d_law_coin_vault.kp (bd_law_coin_vault T.d_law_coin_vault) (da_cons (de_v 1) (da_cons (de_v 3) da_nil)) (hn := (dCons_len (dCons_len dNil_len)))))
    (ds_cons (ds_set (i := 5) nd (de_make T.mk_Vault (ok_Vault___init__ T) tk (hr.mono (by omega)) T.g_Vault (bd_Vault___init__ T.d_Vault___init__) (da_cons (de_list T.n_list (da_cons (de_v 3) da_nil)) (da_cons (de_list T.n_list (da_cons (de_v 4) da_nil)) da_nil)) (hn := (dCons_len (dCons_len dNil_len)))))
    (ds_cons (ds_set (i := 6) nd (de_call (ok_law_calls T) tk (hr.mono (by omega)) T.g_law_calls T.d_law_calls.kp (bd_law_calls T.d_law_calls) (da_cons (de_v 4) da_nil) (hn := (dCons_len dNil_len))))
    (ds_cons (ds_setLc (i := 7) (own := [("k", 15)]) rfl nd (di_rg2 T.n_range (da_cons de_int (da_cons (de_min2 rfl T.n_min (da_cons (de_len T.n_len (da_cons (de_v 0) da_nil)) (da_cons de_int da_nil))) da_nil))) (blkOk_by (N := ["script", "pool", "place", "cells", "deeds", "vault", "calls", "row", "weighed", "row_in", "told", "half", "mixed", "state", "first", "k", "cell"]) (sc := defScope (topS 67)) (by decide +kernel)) (fun _ _ _ _ _ => (dg_name 15 nd)) (fun _ _ _ _ _ => dts_nil) (fun _ _ _ _ _ => (de_sub2 hr (de_v 6) (de_call (ok_law_draw T) takesF (hr.mono (by omega)) T.g_law_draw T.d_law_draw.kp (bd_law_draw T.d_law_draw) (da_cons (de_call (ok_law_pool T) takesF (hr.mono (by omega)) T.g_law_pool T.d_law_pool.kp (bd_law_pool T.d_law_pool) (da_cons (de_v 0) (da_cons (de_v 15) da_nil)) (hn := (dCons_len (dCons_len dNil_len)))) (da_cons (de_len T.n_len (da_cons (de_v 6) da_nil)) da_nil)) (hn := (dCons_len (dCons_len dNil_len)))))) (sw_true rfl rfl rfl (by decide +kernel)))
    (ds_cons (ds_set (i := 7) nd (de_add (de_v 7) (de_call (ok_law_row T) tk (hr.mono (by omega)) T.g_law_row T.d_law_row.kp (bd_law_row T.d_law_row) (da_cons (de_v 1) (da_cons (de_v 6) (da_cons de_int da_nil))) (hn := (dCons_len (dCons_len (dCons_len dNil_len)))))))
    (ds_cons (ds_set (i := 2) nd (de_mod (de_intof T.n_int (da_cons (de_v 2) da_nil)) (de_add (de_len T.n_len (da_cons (de_v 7) da_nil)) de_int)))
    (ds_cons (ds_set (i := 8) nd (de_call (ok_law_weights T) tk (hr.mono (by omega)) T.g_law_weights T.d_law_weights.kp (bd_law_weights T.d_law_weights) (da_cons (de_v 3) (da_cons (de_v 4) (da_cons (de_v 7) da_nil))) (hn := (dCons_len (dCons_len (dCons_len dNil_len))))))
    (ds_cons (ds_set (i := 9) nd (de_list T.n_list (da_cons (de_v 7) da_nil)))
    (ds_cons (ds_set (i := 10) nd (de_call (ok_share T) tk (hr.mono (by omega)) T.g_share T.d_share.kp (bd_share T.d_share) (da_cons (de_v 5) (da_cons (de_v 9) da_nil)) (hn := (dCons_len (dCons_len dNil_len)))))
    (ds_cons (ds_if (dt_w (dw_or (dt_cm (cm_ne hr) (de_v 7) (de_v 9)) (dw_or1 (dt_not (dt_v (de_call (ok_law_right T) tk (hr.mono (by omega)) T.g_law_right T.d_law_right.kp (bd_law_right T.d_law_right) (da_cons (de_v 10) (da_cons (de_sub2 hr (de_v 8) de_int) (da_cons (de_sub2 hr (de_v 8) de_int) da_nil))) (hn := (dCons_len (dCons_len (dCons_len dNil_len))))))))))
    (ds_one (ds_ret de_bl))
    ds_nil)
    (ds_cons (ds_tput hr (de_v 10) (de_tup (da_cons de_int da_nil)) (de_tup (da_cons de_int (da_cons de_int da_nil))))
    (ds_cons (ds_set (i := 11) nd (de_call (ok_law_weights T) tk (hr.mono (by omega)) T.g_law_weights T.d_law_weights.kp (bd_law_weights T.d_law_weights) (da_cons (de_v 3) (da_cons (de_v 4) (da_cons (de_sl (de_v 7) do_0 (do_1 (de_v 2))) da_nil))) (hn := (dCons_len (dCons_len (dCons_len dNil_len))))))
    (ds_cons (ds_if (dt_not (dt_v (de_call (ok_law_right T) tk (hr.mono (by omega)) T.g_law_right T.d_law_right.kp (bd_law_right T.d_law_right) (da_cons (de_call (ok_share T) tk (hr.mono (by omega)) T.g_share T.d_share.kp (bd_share T.d_share) (da_cons (de_v 5) (da_cons (de_sl (de_v 7) do_0 (do_1 (de_v 2))) da_nil)) (hn := (dCons_len (dCons_len dNil_len)))) (da_cons (de_sub2 hr (de_v 11) de_int) (da_cons (de_sub2 hr (de_v 11) de_int) da_nil))) (hn := (dCons_len (dCons_len (dCons_len dNil_len)))))))
    (ds_one (ds_ret de_bl))
    ds_nil)
    (ds_cons (ds_set (i := 12) nd (de_call (ok_law_mixed T) tk (hr.mono (by omega)) T.g_law_mixed T.d_law_mixed.kp (bd_law_mixed T.d_law_mixed) (da_cons (de_v 5) (da_cons (de_sl (de_v 7) do_0 (do_1 (de_v 2))) (da_cons (de_sl (de_v 7) (do_1 (de_v 2)) do_0) (da_cons (de_sub2 hr (de_v 8) de_int) da_nil)))) (hn := (dCons_len (dCons_len (dCons_len (dCons_len dNil_len)))))))
    (ds_cons (ds_if (dt_cm (cm_ne hr) (de_lent T.n_len (da_cons (de_v 12) da_nil)) (de_lent T.n_len (da_cons (de_sub2 hr (de_v 8) de_int) da_nil)))
    (ds_one (ds_ret de_bl))
    ds_nil)
    (ds_cons (ds_lk 12 (ds_for (passes_of rfl) rfl (di_keysT (de_v 12)) (dg_name 13 nd)
    (ds_one (ds_if (dt_w (dw_or (dt_tnotin hr (de_v 13) (de_sub2 hr (de_v 8) de_int)) (dw_or1 (dt_cm (cm_ne hr) (de_tget hr (de_v 12) (de_v 13)) (de_mul (de_tget hr (de_sub2 hr (de_v 8) de_int) (de_v 13)) (de_sub2 hr (de_v 8) de_int))))))
    (ds_one (ds_ret de_bl))
    ds_nil))))
    (ds_cons (ds_set (i := 14) nd (de_tuple T.n_tuple (da_cons (de_lc (own := [("cell", 16)]) rfl nd (di_any (de_v 3)) (blkOk_by (N := ["script", "pool", "place", "cells", "deeds", "vault", "calls", "row", "weighed", "row_in", "told", "half", "mixed", "state", "first", "k", "cell"]) (sc := defScope (topS 67)) (by decide +kernel)) (fun _ _ _ _ _ => (dg_name 16 nd)) (fun _ _ _ _ _ => dts_nil) (fun _ _ _ _ _ => (de_sub2 hr (de_v 16) de_int))) da_nil)))
    (ds_cons (ds_if (dt_not (dt_v (de_call (ok_law_right T) tk (hr.mono (by omega)) T.g_law_right T.d_law_right.kp (bd_law_right T.d_law_right) (da_cons (de_call (ok_share T) tk (hr.mono (by omega)) T.g_share T.d_share.kp (bd_share T.d_share) (da_cons (de_v 5) (da_cons (de_lst da_nil) da_nil)) (hn := (dCons_len (dCons_len dNil_len)))) (da_cons (de_oneT hr (de_v 14) de_int) (da_cons de_int da_nil))) (hn := (dCons_len (dCons_len (dCons_len dNil_len)))))))
    (ds_one (ds_ret de_bl))
    ds_nil)
    (ds_one (ds_ret (de_call (ok_law_right T) tk (hr.mono (by omega)) T.g_law_right T.d_law_right.kp (bd_law_right T.d_law_right) (da_cons (de_call (ok_share T) tk (hr.mono (by omega)) T.g_share T.d_share.kp (bd_share T.d_share) (da_cons (de_v 5) (da_cons (de_v 9) da_nil)) (hn := (dCons_len (dCons_len dNil_len)))) (da_cons (de_sub2 hr (de_v 8) de_int) (da_cons (de_sub2 hr (de_v 8) de_int) da_nil))) (hn := (dCons_len (dCons_len (dCons_len dNil_len))))))))))))))))))))))))))))
end
end K13

set_option Elab.async false
set_option linter.all false
set_option maxRecDepth 100000
set_option maxHeartbeats 8000000
namespace K13
open PySem PySem.Spec PyProof.Rows L2 TD
def hfa0 : List He.Fa := [.free "abs", .free "any", .free "bool", .free "dict", .free "enumerate", .free "int", .free "isinstance", .free "len", .free "list", .free "max", .free "min", .free "range", .free "str", .free "tuple", .free "zip", .int "DEEPEST_EXPRESSION" 6, .int "DEEPEST_ROW" 12, .glo "FORMS", .glo "KEEPERS", .str "LETTERS" "abcdefghijklmnopqrstuvwxyz", .int "MOST_COINS" 4, .int "MOST_ROWS" 2000, .glo "POWERS", .glo "REGISTERS", .glo "SIGNS", .glo "Body", .cls "Body", .noat "Body" "coin_count", .noat "Body" "many_cells", .noat "Body" "row_count"]
def hfa1 : List He.Fa := [.glo "Vault", .cls "Vault", .noat "Vault" "begin", .noat "Vault" "body_table", .noat "Vault" "cell_row", .noat "Vault" "choice_table", .noat "Vault" "coined", .noat "Vault" "deed_row", .noat "Vault" "size_row", .glo "Walk", .cls "Walk", .noat "Walk" "cells", .noat "Walk" "coins", .noat "Walk" "held", .noat "Walk" "result", .noat "Walk" "size_row", .noat "Walk" "trace", .noat "Walk" "used", .glo "is_integer", .glo "good_cells", .mkr "Body", .glo "is_expression", .meth "Body" "good_part", .meth "Body" "good_row", .meth "Body" "good_rows", .glo "is_name", .glo "good_heads", .glo "good_deeds", .glo "has_coin", .mkr "Vault"]
def hfa2 : List He.Fa := [.glo "_law_calls", .glo "_law_draw", .glo "_law_cells", .glo "_law_e", .glo "_law_rows", .glo "_law_coin_tree", .glo "_law_body", .glo "_law_deeds", .glo "_law_coin_vault", .glo "is_state_of", .glo "is_state", .glo "check_state", .glo "begun", .glo "is_call", .glo "row_fault", .glo "check_row", .glo "common_divisor", .glo "reduced", .meth "Walk" "do_coin", .glo "value", .meth "Walk" "do_step", .meth "Walk" "do_times", .meth "Walk" "do_row", .meth "Walk" "do_rows", .mkr "Walk", .glo "outcomes_of", .glo "spread", .glo "share", .glo "_law_mixed", .glo "_law_pool"]
def hfa3 : List He.Fa := [.glo "_law_good_int", .glo "_law_fraction", .glo "_law_good_ints", .glo "_law_right", .glo "_law_row", .glo "_law_value", .glo "_law_step", .glo "_law_do", .glo "_law_call", .glo "_law_outs", .glo "_law_weights", .glo "law"]
def hfa : List He.Fa := hfa0 ++ hfa1 ++ hfa2 ++ hfa3
def hfn0 : List He.DefD := [⟨("is_integer", none), "is_integer", "is_integer", defArgs s_is_integer, defBody s_is_integer, defScope s_is_integer, [], []⟩, ⟨("good_cells", none), "good_cells", "good_cells", defArgs s_good_cells, defBody s_good_cells, defScope s_good_cells, [], []⟩, ⟨("Body", some "__init__"), "__init__", "Body.__init__", defArgs s_Body___init__, defBody s_Body___init__, defScope s_Body___init__, [], []⟩, ⟨("is_expression", none), "is_expression", "is_expression", defArgs s_is_expression, defBody s_is_expression, defScope s_is_expression, [.int 6], []⟩, ⟨("Body", some "good_part"), "good_part", "Body.good_part", defArgs s_Body_good_part, defBody s_Body_good_part, defScope s_Body_good_part, [], []⟩, ⟨("Body", some "good_row"), "good_row", "Body.good_row", defArgs s_Body_good_row, defBody s_Body_good_row, defScope s_Body_good_row, [], []⟩, ⟨("Body", some "good_rows"), "good_rows", "Body.good_rows", defArgs s_Body_good_rows, defBody s_Body_good_rows, defScope s_Body_good_rows, [], []⟩, ⟨("is_name", none), "is_name", "is_name", defArgs s_is_name, defBody s_is_name, defScope s_is_name, [], []⟩, ⟨("good_heads", none), "good_heads", "good_heads", defArgs s_good_heads, defBody s_good_heads, defScope s_good_heads, [], []⟩, ⟨("good_deeds", none), "good_deeds", "good_deeds", defArgs s_good_deeds, defBody s_good_deeds, defScope s_good_deeds, [], []⟩, ⟨("has_coin", none), "has_coin", "has_coin", defArgs s_has_coin, defBody s_has_coin, defScope s_has_coin, [], []⟩, ⟨("Vault", some "__init__"), "__init__", "Vault.__init__", defArgs s_Vault___init__, defBody s_Vault___init__, defScope s_Vault___init__, [], []⟩, ⟨("_law_calls", none), "_law_calls", "_law_calls", defArgs s_law_calls, defBody s_law_calls, defScope s_law_calls, [], []⟩, ⟨("_law_draw", none), "_law_draw", "_law_draw", defArgs s_law_draw, defBody s_law_draw, defScope s_law_draw, [], []⟩, ⟨("_law_cells", none), "_law_cells", "_law_cells", defArgs s_law_cells, defBody s_law_cells, defScope s_law_cells, [], []⟩, ⟨("_law_e", none), "_law_e", "_law_e", defArgs s_law_e, defBody s_law_e, defScope s_law_e, [], []⟩, ⟨("_law_rows", none), "_law_rows", "_law_rows", defArgs s_law_rows, defBody s_law_rows, defScope s_law_rows, [], []⟩, ⟨("_law_coin_tree", none), "_law_coin_tree", "_law_coin_tree", defArgs s_law_coin_tree, defBody s_law_coin_tree, defScope s_law_coin_tree, [], []⟩, ⟨("_law_body", none), "_law_body", "_law_body", defArgs s_law_body, defBody s_law_body, defScope s_law_body, [], []⟩, ⟨("_law_deeds", none), "_law_deeds", "_law_deeds", defArgs s_law_deeds, defBody s_law_deeds, defScope s_law_deeds, [], []⟩, ⟨("_law_coin_vault", none), "_law_coin_vault", "_law_coin_vault", defArgs s_law_coin_vault, defBody s_law_coin_vault, defScope s_law_coin_vault, [], []⟩, ⟨("is_state_of", none), "is_state_of", "is_state_of", defArgs s_is_state_of, defBody s_is_state_of, defScope s_is_state_of, [], []⟩, ⟨("is_state", none), "is_state", "is_state", defArgs s_is_state, defBody s_is_state, defScope s_is_state, [], []⟩, ⟨("check_state", none), "check_state", "check_state", defArgs s_check_state, defBody s_check_state, defScope s_check_state, [], []⟩, ⟨("begun", none), "begun", "begun", defArgs s_begun, defBody s_begun, defScope s_begun, [], []⟩, ⟨("is_call", none), "is_call", "is_call", defArgs s_is_call, defBody s_is_call, defScope s_is_call, [], []⟩, ⟨("row_fault", none), "row_fault", "row_fault", defArgs s_row_fault, defBody s_row_fault, defScope s_row_fault, [], []⟩, ⟨("check_row", none), "check_row", "check_row", defArgs s_check_row, defBody s_check_row, defScope s_check_row, [], []⟩, ⟨("common_divisor", none), "common_divisor", "common_divisor", defArgs s_common_divisor, defBody s_common_divisor, defScope s_common_divisor, [], []⟩, ⟨("reduced", none), "reduced", "reduced", defArgs s_reduced, defBody s_reduced, defScope s_reduced, [], []⟩]
def hfn1 : List He.DefD := [⟨("Walk", some "do_coin"), "do_coin", "Walk.do_coin", defArgs s_Walk_do_coin, defBody s_Walk_do_coin, defScope s_Walk_do_coin, [], []⟩, ⟨("value", none), "value", "value", defArgs s_value, defBody s_value, defScope s_value, [], []⟩, ⟨("Walk", some "do_step"), "do_step", "Walk.do_step", defArgs s_Walk_do_step, defBody s_Walk_do_step, defScope s_Walk_do_step, [], []⟩, ⟨("Walk", some "do_times"), "do_times", "Walk.do_times", defArgs s_Walk_do_times, defBody s_Walk_do_times, defScope s_Walk_do_times, [], []⟩, ⟨("Walk", some "do_row"), "do_row", "Walk.do_row", defArgs s_Walk_do_row, defBody s_Walk_do_row, defScope s_Walk_do_row, [], []⟩, ⟨("Walk", some "do_rows"), "do_rows", "Walk.do_rows", defArgs s_Walk_do_rows, defBody s_Walk_do_rows, defScope s_Walk_do_rows, [], []⟩, ⟨("Walk", some "__init__"), "__init__", "Walk.__init__", defArgs s_Walk___init__, defBody s_Walk___init__, defScope s_Walk___init__, [], []⟩, ⟨("outcomes_of", none), "outcomes_of", "outcomes_of", defArgs s_outcomes_of, defBody s_outcomes_of, defScope s_outcomes_of, [], []⟩, ⟨("spread", none), "spread", "spread", defArgs s_spread, defBody s_spread, defScope s_spread, [], []⟩, ⟨("share", none), "share", "share", defArgs s_share, defBody s_share, defScope s_share, [], []⟩, ⟨("_law_mixed", none), "_law_mixed", "_law_mixed", defArgs s_law_mixed, defBody s_law_mixed, defScope s_law_mixed, [], []⟩, ⟨("_law_pool", none), "_law_pool", "_law_pool", defArgs s_law_pool, defBody s_law_pool, defScope s_law_pool, [], []⟩, ⟨("_law_good_int", none), "_law_good_int", "_law_good_int", defArgs s_law_good_int, defBody s_law_good_int, defScope s_law_good_int, [], []⟩, ⟨("_law_fraction", none), "_law_fraction", "_law_fraction", defArgs s_law_fraction, defBody s_law_fraction, defScope s_law_fraction, [], []⟩, ⟨("_law_good_ints", none), "_law_good_ints", "_law_good_ints", defArgs s_law_good_ints, defBody s_law_good_ints, defScope s_law_good_ints, [], []⟩, ⟨("_law_right", none), "_law_right", "_law_right", defArgs s_law_right, defBody s_law_right, defScope s_law_right, [], []⟩, ⟨("_law_row", none), "_law_row", "_law_row", defArgs s_law_row, defBody s_law_row, defScope s_law_row, [], []⟩, ⟨("_law_value", none), "_law_value", "_law_value", defArgs s_law_value, defBody s_law_value, defScope s_law_value, [], []⟩, ⟨("_law_step", none), "_law_step", "_law_step", defArgs s_law_step, defBody s_law_step, defScope s_law_step, [], []⟩, ⟨("_law_do", none), "_law_do", "_law_do", defArgs s_law_do, defBody s_law_do, defScope s_law_do, [], []⟩, ⟨("_law_call", none), "_law_call", "_law_call", defArgs s_law_call, defBody s_law_call, defScope s_law_call, [], []⟩, ⟨("_law_outs", none), "_law_outs", "_law_outs", defArgs s_law_outs, defBody s_law_outs, defScope s_law_outs, [], []⟩, ⟨("_law_weights", none), "_law_weights", "_law_weights", defArgs s_law_weights, defBody s_law_weights, defScope s_law_weights, [], []⟩, ⟨("law", none), "law", "law", defArgs s_law, defBody s_law, defScope s_law, [], []⟩]
def hfn : List He.DefD := hfn0 ++ hfn1
def hts0 : List He.Tab := [(fun K => He.ga K "FORMS", ["read", "set", "swap", "keep", "coin", "if", "times", "answer"])]
def hts : List He.Tab := hts0
def hex (K : PySem.W.Frag) : Bool := tabB K "FORMS" [("read", .str "RC"), ("set", .str "CE"), ("swap", .str "RCEE"), ("keep", .str "RE"), ("coin", .str "R"), ("if", .str "EBB"), ("times", .str "EB"), ("answer", .str "E")] && (ktpB K "KEEPERS" [.str "a", .str "b", .str "c", .str "d"] && (ktpB K "POWERS" [.int 1, .int 2, .int 4, .int 8, .int 16] && (ktpB K "REGISTERS" [.str "a", .str "b", .str "c", .str "d", .str "x"] && (ktpB K "SIGNS" [.str "+", .str "-", .str "*", .str "=", .str "<"] && (true)))))
theorem tx_of {P : Program} {w : World} {K : PySem.W.Frag} {h : Heap} {mg : Str → Option Value} (X : K.In h) (G : h.Ns mainGlobals mg) (c : He.SaysX hfa hfn hts [] hex w h K) : Nonempty (Tx P w K mg) := by
  have C := c.t.d
  have e0 := c.more
  obtain ⟨e1, e0⟩ := He.ba e0
  obtain ⟨e2, e0⟩ := He.ba e0
  obtain ⟨e3, e0⟩ := He.ba e0
  obtain ⟨e4, e0⟩ := He.ba e0
  obtain ⟨e5, e0⟩ := He.ba e0
  obtain ⟨t_DEEPEST_EXPRESSION, g_DEEPEST_EXPRESSION⟩ := He.int_ok X G (C.fact 15 (f := .int "DEEPEST_EXPRESSION" 6) rfl)
  obtain ⟨t_DEEPEST_ROW, g_DEEPEST_ROW⟩ := He.int_ok X G (C.fact 16 (f := .int "DEEPEST_ROW" 12) rfl)
  obtain ⟨t_LETTERS, g_LETTERS⟩ := He.str_ok X G (C.fact 19 (f := .str "LETTERS" "abcdefghijklmnopqrstuvwxyz") rfl)
  obtain ⟨t_MOST_COINS, g_MOST_COINS⟩ := He.int_ok X G (C.fact 20 (f := .int "MOST_COINS" 4) rfl)
  obtain ⟨t_MOST_ROWS, g_MOST_ROWS⟩ := He.int_ok X G (C.fact 21 (f := .int "MOST_ROWS" 2000) rfl)
  obtain ⟨f_is_integer, d_is_integer⟩ := C.def_ 0 (d := ⟨("is_integer", none), "is_integer", "is_integer", defArgs s_is_integer, defBody s_is_integer, defScope s_is_integer, [], []⟩) rfl
  obtain ⟨f_good_cells, d_good_cells⟩ := C.def_ 1 (d := ⟨("good_cells", none), "good_cells", "good_cells", defArgs s_good_cells, defBody s_good_cells, defScope s_good_cells, [], []⟩) rfl
  obtain ⟨f_Body___init__, d_Body___init__⟩ := C.def_ 2 (d := ⟨("Body", some "__init__"), "__init__", "Body.__init__", defArgs s_Body___init__, defBody s_Body___init__, defScope s_Body___init__, [], []⟩) rfl
  obtain ⟨f_is_expression, d_is_expression⟩ := C.def_ 3 (d := ⟨("is_expression", none), "is_expression", "is_expression", defArgs s_is_expression, defBody s_is_expression, defScope s_is_expression, [.int 6], []⟩) rfl
  obtain ⟨f_Body_good_part, d_Body_good_part⟩ := C.def_ 4 (d := ⟨("Body", some "good_part"), "good_part", "Body.good_part", defArgs s_Body_good_part, defBody s_Body_good_part, defScope s_Body_good_part, [], []⟩) rfl
  obtain ⟨f_Body_good_row, d_Body_good_row⟩ := C.def_ 5 (d := ⟨("Body", some "good_row"), "good_row", "Body.good_row", defArgs s_Body_good_row, defBody s_Body_good_row, defScope s_Body_good_row, [], []⟩) rfl
  obtain ⟨f_Body_good_rows, d_Body_good_rows⟩ := C.def_ 6 (d := ⟨("Body", some "good_rows"), "good_rows", "Body.good_rows", defArgs s_Body_good_rows, defBody s_Body_good_rows, defScope s_Body_good_rows, [], []⟩) rfl
  obtain ⟨f_is_name, d_is_name⟩ := C.def_ 7 (d := ⟨("is_name", none), "is_name", "is_name", defArgs s_is_name, defBody s_is_name, defScope s_is_name, [], []⟩) rfl
  obtain ⟨f_good_heads, d_good_heads⟩ := C.def_ 8 (d := ⟨("good_heads", none), "good_heads", "good_heads", defArgs s_good_heads, defBody s_good_heads, defScope s_good_heads, [], []⟩) rfl
  obtain ⟨f_good_deeds, d_good_deeds⟩ := C.def_ 9 (d := ⟨("good_deeds", none), "good_deeds", "good_deeds", defArgs s_good_deeds, defBody s_good_deeds, defScope s_good_deeds, [], []⟩) rfl
  obtain ⟨f_has_coin, d_has_coin⟩ := C.def_ 10 (d := ⟨("has_coin", none), "has_coin", "has_coin", defArgs s_has_coin, defBody s_has_coin, defScope s_has_coin, [], []⟩) rfl
  obtain ⟨f_Vault___init__, d_Vault___init__⟩ := C.def_ 11 (d := ⟨("Vault", some "__init__"), "__init__", "Vault.__init__", defArgs s_Vault___init__, defBody s_Vault___init__, defScope s_Vault___init__, [], []⟩) rfl
  obtain ⟨f_law_calls, d_law_calls⟩ := C.def_ 12 (d := ⟨("_law_calls", none), "_law_calls", "_law_calls", defArgs s_law_calls, defBody s_law_calls, defScope s_law_calls, [], []⟩) rfl
  obtain ⟨f_law_draw, d_law_draw⟩ := C.def_ 13 (d := ⟨("_law_draw", none), "_law_draw", "_law_draw", defArgs s_law_draw, defBody s_law_draw, defScope s_law_draw, [], []⟩) rfl
  obtain ⟨f_law_cells, d_law_cells⟩ := C.def_ 14 (d := ⟨("_law_cells", none), "_law_cells", "_law_cells", defArgs s_law_cells, defBody s_law_cells, defScope s_law_cells, [], []⟩) rfl
  obtain ⟨f_law_e, d_law_e⟩ := C.def_ 15 (d := ⟨("_law_e", none), "_law_e", "_law_e", defArgs s_law_e, defBody s_law_e, defScope s_law_e, [], []⟩) rfl
  obtain ⟨f_law_rows, d_law_rows⟩ := C.def_ 16 (d := ⟨("_law_rows", none), "_law_rows", "_law_rows", defArgs s_law_rows, defBody s_law_rows, defScope s_law_rows, [], []⟩) rfl
  obtain ⟨f_law_coin_tree, d_law_coin_tree⟩ := C.def_ 17 (d := ⟨("_law_coin_tree", none), "_law_coin_tree", "_law_coin_tree", defArgs s_law_coin_tree, defBody s_law_coin_tree, defScope s_law_coin_tree, [], []⟩) rfl
  obtain ⟨f_law_body, d_law_body⟩ := C.def_ 18 (d := ⟨("_law_body", none), "_law_body", "_law_body", defArgs s_law_body, defBody s_law_body, defScope s_law_body, [], []⟩) rfl
  obtain ⟨f_law_deeds, d_law_deeds⟩ := C.def_ 19 (d := ⟨("_law_deeds", none), "_law_deeds", "_law_deeds", defArgs s_law_deeds, defBody s_law_deeds, defScope s_law_deeds, [], []⟩) rfl
  obtain ⟨f_law_coin_vault, d_law_coin_vault⟩ := C.def_ 20 (d := ⟨("_law_coin_vault", none), "_law_coin_vault", "_law_coin_vault", defArgs s_law_coin_vault, defBody s_law_coin_vault, defScope s_law_coin_vault, [], []⟩) rfl
  obtain ⟨f_is_state_of, d_is_state_of⟩ := C.def_ 21 (d := ⟨("is_state_of", none), "is_state_of", "is_state_of", defArgs s_is_state_of, defBody s_is_state_of, defScope s_is_state_of, [], []⟩) rfl
  obtain ⟨f_is_state, d_is_state⟩ := C.def_ 22 (d := ⟨("is_state", none), "is_state", "is_state", defArgs s_is_state, defBody s_is_state, defScope s_is_state, [], []⟩) rfl
  obtain ⟨f_check_state, d_check_state⟩ := C.def_ 23 (d := ⟨("check_state", none), "check_state", "check_state", defArgs s_check_state, defBody s_check_state, defScope s_check_state, [], []⟩) rfl
  obtain ⟨f_begun, d_begun⟩ := C.def_ 24 (d := ⟨("begun", none), "begun", "begun", defArgs s_begun, defBody s_begun, defScope s_begun, [], []⟩) rfl
  obtain ⟨f_is_call, d_is_call⟩ := C.def_ 25 (d := ⟨("is_call", none), "is_call", "is_call", defArgs s_is_call, defBody s_is_call, defScope s_is_call, [], []⟩) rfl
  obtain ⟨f_row_fault, d_row_fault⟩ := C.def_ 26 (d := ⟨("row_fault", none), "row_fault", "row_fault", defArgs s_row_fault, defBody s_row_fault, defScope s_row_fault, [], []⟩) rfl
  obtain ⟨f_check_row, d_check_row⟩ := C.def_ 27 (d := ⟨("check_row", none), "check_row", "check_row", defArgs s_check_row, defBody s_check_row, defScope s_check_row, [], []⟩) rfl
  obtain ⟨f_common_divisor, d_common_divisor⟩ := C.def_ 28 (d := ⟨("common_divisor", none), "common_divisor", "common_divisor", defArgs s_common_divisor, defBody s_common_divisor, defScope s_common_divisor, [], []⟩) rfl
  obtain ⟨f_reduced, d_reduced⟩ := C.def_ 29 (d := ⟨("reduced", none), "reduced", "reduced", defArgs s_reduced, defBody s_reduced, defScope s_reduced, [], []⟩) rfl
  obtain ⟨f_Walk_do_coin, d_Walk_do_coin⟩ := C.def_ 30 (d := ⟨("Walk", some "do_coin"), "do_coin", "Walk.do_coin", defArgs s_Walk_do_coin, defBody s_Walk_do_coin, defScope s_Walk_do_coin, [], []⟩) rfl
  obtain ⟨f_value, d_value⟩ := C.def_ 31 (d := ⟨("value", none), "value", "value", defArgs s_value, defBody s_value, defScope s_value, [], []⟩) rfl
  obtain ⟨f_Walk_do_step, d_Walk_do_step⟩ := C.def_ 32 (d := ⟨("Walk", some "do_step"), "do_step", "Walk.do_step", defArgs s_Walk_do_step, defBody s_Walk_do_step, defScope s_Walk_do_step, [], []⟩) rfl
  obtain ⟨f_Walk_do_times, d_Walk_do_times⟩ := C.def_ 33 (d := ⟨("Walk", some "do_times"), "do_times", "Walk.do_times", defArgs s_Walk_do_times, defBody s_Walk_do_times, defScope s_Walk_do_times, [], []⟩) rfl
  obtain ⟨f_Walk_do_row, d_Walk_do_row⟩ := C.def_ 34 (d := ⟨("Walk", some "do_row"), "do_row", "Walk.do_row", defArgs s_Walk_do_row, defBody s_Walk_do_row, defScope s_Walk_do_row, [], []⟩) rfl
  obtain ⟨f_Walk_do_rows, d_Walk_do_rows⟩ := C.def_ 35 (d := ⟨("Walk", some "do_rows"), "do_rows", "Walk.do_rows", defArgs s_Walk_do_rows, defBody s_Walk_do_rows, defScope s_Walk_do_rows, [], []⟩) rfl
  obtain ⟨f_Walk___init__, d_Walk___init__⟩ := C.def_ 36 (d := ⟨("Walk", some "__init__"), "__init__", "Walk.__init__", defArgs s_Walk___init__, defBody s_Walk___init__, defScope s_Walk___init__, [], []⟩) rfl
  obtain ⟨f_outcomes_of, d_outcomes_of⟩ := C.def_ 37 (d := ⟨("outcomes_of", none), "outcomes_of", "outcomes_of", defArgs s_outcomes_of, defBody s_outcomes_of, defScope s_outcomes_of, [], []⟩) rfl
  obtain ⟨f_spread, d_spread⟩ := C.def_ 38 (d := ⟨("spread", none), "spread", "spread", defArgs s_spread, defBody s_spread, defScope s_spread, [], []⟩) rfl
  obtain ⟨f_share, d_share⟩ := C.def_ 39 (d := ⟨("share", none), "share", "share", defArgs s_share, defBody s_share, defScope s_share, [], []⟩) rfl
  obtain ⟨f_law_mixed, d_law_mixed⟩ := C.def_ 40 (d := ⟨("_law_mixed", none), "_law_mixed", "_law_mixed", defArgs s_law_mixed, defBody s_law_mixed, defScope s_law_mixed, [], []⟩) rfl
  obtain ⟨f_law_pool, d_law_pool⟩ := C.def_ 41 (d := ⟨("_law_pool", none), "_law_pool", "_law_pool", defArgs s_law_pool, defBody s_law_pool, defScope s_law_pool, [], []⟩) rfl
  obtain ⟨f_law_good_int, d_law_good_int⟩ := C.def_ 42 (d := ⟨("_law_good_int", none), "_law_good_int", "_law_good_int", defArgs s_law_good_int, defBody s_law_good_int, defScope s_law_good_int, [], []⟩) rfl
  obtain ⟨f_law_fraction, d_law_fraction⟩ := C.def_ 43 (d := ⟨("_law_fraction", none), "_law_fraction", "_law_fraction", defArgs s_law_fraction, defBody s_law_fraction, defScope s_law_fraction, [], []⟩) rfl
  obtain ⟨f_law_good_ints, d_law_good_ints⟩ := C.def_ 44 (d := ⟨("_law_good_ints", none), "_law_good_ints", "_law_good_ints", defArgs s_law_good_ints, defBody s_law_good_ints, defScope s_law_good_ints, [], []⟩) rfl
  obtain ⟨f_law_right, d_law_right⟩ := C.def_ 45 (d := ⟨("_law_right", none), "_law_right", "_law_right", defArgs s_law_right, defBody s_law_right, defScope s_law_right, [], []⟩) rfl
  obtain ⟨f_law_row, d_law_row⟩ := C.def_ 46 (d := ⟨("_law_row", none), "_law_row", "_law_row", defArgs s_law_row, defBody s_law_row, defScope s_law_row, [], []⟩) rfl
  obtain ⟨f_law_value, d_law_value⟩ := C.def_ 47 (d := ⟨("_law_value", none), "_law_value", "_law_value", defArgs s_law_value, defBody s_law_value, defScope s_law_value, [], []⟩) rfl
  obtain ⟨f_law_step, d_law_step⟩ := C.def_ 48 (d := ⟨("_law_step", none), "_law_step", "_law_step", defArgs s_law_step, defBody s_law_step, defScope s_law_step, [], []⟩) rfl
  obtain ⟨f_law_do, d_law_do⟩ := C.def_ 49 (d := ⟨("_law_do", none), "_law_do", "_law_do", defArgs s_law_do, defBody s_law_do, defScope s_law_do, [], []⟩) rfl
  obtain ⟨f_law_call, d_law_call⟩ := C.def_ 50 (d := ⟨("_law_call", none), "_law_call", "_law_call", defArgs s_law_call, defBody s_law_call, defScope s_law_call, [], []⟩) rfl
  obtain ⟨f_law_outs, d_law_outs⟩ := C.def_ 51 (d := ⟨("_law_outs", none), "_law_outs", "_law_outs", defArgs s_law_outs, defBody s_law_outs, defScope s_law_outs, [], []⟩) rfl
  obtain ⟨f_law_weights, d_law_weights⟩ := C.def_ 52 (d := ⟨("_law_weights", none), "_law_weights", "_law_weights", defArgs s_law_weights, defBody s_law_weights, defScope s_law_weights, [], []⟩) rfl
  obtain ⟨f_law, d_law⟩ := C.def_ 53 (d := ⟨("law", none), "law", "law", defArgs s_law, defBody s_law, defScope s_law, [], []⟩) rfl
  exact ⟨{
    n_abs := He.free_ok X G (C.fact 0 (f := .free "abs") rfl)
    n_any := He.free_ok X G (C.fact 1 (f := .free "any") rfl)
    n_bool := He.free_ok X G (C.fact 2 (f := .free "bool") rfl)
    n_dict := He.free_ok X G (C.fact 3 (f := .free "dict") rfl)
    n_enumerate := He.free_ok X G (C.fact 4 (f := .free "enumerate") rfl)
    n_int := He.free_ok X G (C.fact 5 (f := .free "int") rfl)
    n_isinstance := He.free_ok X G (C.fact 6 (f := .free "isinstance") rfl)
    n_len := He.free_ok X G (C.fact 7 (f := .free "len") rfl)
    n_list := He.free_ok X G (C.fact 8 (f := .free "list") rfl)
    n_max := He.free_ok X G (C.fact 9 (f := .free "max") rfl)
    n_min := He.free_ok X G (C.fact 10 (f := .free "min") rfl)
    n_range := He.free_ok X G (C.fact 11 (f := .free "range") rfl)
    n_str := He.free_ok X G (C.fact 12 (f := .free "str") rfl)
    n_tuple := He.free_ok X G (C.fact 13 (f := .free "tuple") rfl)
    n_zip := He.free_ok X G (C.fact 14 (f := .free "zip") rfl)
    u_DEEPEST_EXPRESSION := _
    v_DEEPEST_EXPRESSION := .int 6
    g_DEEPEST_EXPRESSION := g_DEEPEST_EXPRESSION
    r_DEEPEST_EXPRESSION := ⟨t_DEEPEST_EXPRESSION, rfl⟩
    q_DEEPEST_EXPRESSION := fun _ _ => rfl
    u_DEEPEST_ROW := _
    v_DEEPEST_ROW := .int 12
    g_DEEPEST_ROW := g_DEEPEST_ROW
    r_DEEPEST_ROW := ⟨t_DEEPEST_ROW, rfl⟩
    q_DEEPEST_ROW := fun _ _ => rfl
    u_FORMS := He.ga K "FORMS"
    k_FORMS := kdt_at (vs := [("read", .str "RC"), ("set", .str "CE"), ("swap", .str "RCEE"), ("keep", .str "RE"), ("coin", .str "R"), ("if", .str "EBB"), ("times", .str "EB"), ("answer", .str "E")]) (He.glo_ok X G (C.fact 17 (f := .glo "FORMS") rfl)) (c.t.tab 0 rfl) e1 rfl (by decide +kernel)
    u_KEEPERS := .ref (He.ga K "KEEPERS")
    v_KEEPERS := .ref (He.ga K "KEEPERS")
    g_KEEPERS := He.glo_ok X G (C.fact 18 (f := .glo "KEEPERS") rfl)
    r_KEEPERS := rfl
    q_KEEPERS := fun A H => ktp_rep (G := ⟨K, mg⟩) (vs := [.str "a", .str "b", .str "c", .str "d"]) e2 rfl A H
    u_LETTERS := _
    v_LETTERS := .str "abcdefghijklmnopqrstuvwxyz"
    g_LETTERS := g_LETTERS
    r_LETTERS := ⟨t_LETTERS, rfl⟩
    q_LETTERS := fun _ _ => rfl
    u_MOST_COINS := _
    v_MOST_COINS := .int 4
    g_MOST_COINS := g_MOST_COINS
    r_MOST_COINS := ⟨t_MOST_COINS, rfl⟩
    q_MOST_COINS := fun _ _ => rfl
    u_MOST_ROWS := _
    v_MOST_ROWS := .int 2000
    g_MOST_ROWS := g_MOST_ROWS
    r_MOST_ROWS := ⟨t_MOST_ROWS, rfl⟩
    q_MOST_ROWS := fun _ _ => rfl
    u_POWERS := .ref (He.ga K "POWERS")
    v_POWERS := .ref (He.ga K "POWERS")
    g_POWERS := He.glo_ok X G (C.fact 22 (f := .glo "POWERS") rfl)
    r_POWERS := rfl
    q_POWERS := fun A H => ktp_rep (G := ⟨K, mg⟩) (vs := [.int 1, .int 2, .int 4, .int 8, .int 16]) e3 rfl A H
    u_REGISTERS := .ref (He.ga K "REGISTERS")
    v_REGISTERS := .ref (He.ga K "REGISTERS")
    g_REGISTERS := He.glo_ok X G (C.fact 23 (f := .glo "REGISTERS") rfl)
    r_REGISTERS := rfl
    q_REGISTERS := fun A H => ktp_rep (G := ⟨K, mg⟩) (vs := [.str "a", .str "b", .str "c", .str "d", .str "x"]) e4 rfl A H
    u_SIGNS := .ref (He.ga K "SIGNS")
    v_SIGNS := .ref (He.ga K "SIGNS")
    g_SIGNS := He.glo_ok X G (C.fact 24 (f := .glo "SIGNS") rfl)
    r_SIGNS := rfl
    q_SIGNS := fun A H => ktp_rep (G := ⟨K, mg⟩) (vs := [.str "+", .str "-", .str "*", .str "=", .str "<"]) e5 rfl A H
    c_Body := He.ga K "Body"
    g_Body := He.glo_ok X G (C.fact 25 (f := .glo "Body") rfl)
    cl_Body := He.cls_ok (C.fact 26 (f := .cls "Body") rfl)
    na_Body_coin_count := He.noat_ok (C.fact 27 (f := .noat "Body" "coin_count") rfl)
    na_Body_many_cells := He.noat_ok (C.fact 28 (f := .noat "Body" "many_cells") rfl)
    na_Body_row_count := He.noat_ok (C.fact 29 (f := .noat "Body" "row_count") rfl)
    c_Vault := He.ga K "Vault"
    g_Vault := He.glo_ok X G (C.fact 30 (f := .glo "Vault") rfl)
    cl_Vault := He.cls_ok (C.fact 31 (f := .cls "Vault") rfl)
    na_Vault_begin := He.noat_ok (C.fact 32 (f := .noat "Vault" "begin") rfl)
    na_Vault_body_table := He.noat_ok (C.fact 33 (f := .noat "Vault" "body_table") rfl)
    na_Vault_cell_row := He.noat_ok (C.fact 34 (f := .noat "Vault" "cell_row") rfl)
    na_Vault_choice_table := He.noat_ok (C.fact 35 (f := .noat "Vault" "choice_table") rfl)
    na_Vault_coined := He.noat_ok (C.fact 36 (f := .noat "Vault" "coined") rfl)
    na_Vault_deed_row := He.noat_ok (C.fact 37 (f := .noat "Vault" "deed_row") rfl)
    na_Vault_size_row := He.noat_ok (C.fact 38 (f := .noat "Vault" "size_row") rfl)
    c_Walk := He.ga K "Walk"
    g_Walk := He.glo_ok X G (C.fact 39 (f := .glo "Walk") rfl)
    cl_Walk := He.cls_ok (C.fact 40 (f := .cls "Walk") rfl)
    na_Walk_cells := He.noat_ok (C.fact 41 (f := .noat "Walk" "cells") rfl)
    na_Walk_coins := He.noat_ok (C.fact 42 (f := .noat "Walk" "coins") rfl)
    na_Walk_held := He.noat_ok (C.fact 43 (f := .noat "Walk" "held") rfl)
    na_Walk_result := He.noat_ok (C.fact 44 (f := .noat "Walk" "result") rfl)
    na_Walk_size_row := He.noat_ok (C.fact 45 (f := .noat "Walk" "size_row") rfl)
    na_Walk_trace := He.noat_ok (C.fact 46 (f := .noat "Walk" "trace") rfl)
    na_Walk_used := He.noat_ok (C.fact 47 (f := .noat "Walk" "used") rfl)
    a_is_integer := He.fAd K ("is_integer", none)
    f_is_integer := f_is_integer
    d_is_integer := (He5.fun_of (st := s_is_integer) d_is_integer)
    g_is_integer := He.glo_ok X G (C.fact 48 (f := .glo "is_integer") rfl)
    a_good_cells := He.fAd K ("good_cells", none)
    f_good_cells := f_good_cells
    d_good_cells := (He5.fun_of (st := s_good_cells) d_good_cells)
    g_good_cells := He.glo_ok X G (C.fact 49 (f := .glo "good_cells") rfl)
    a_Body___init__ := He.fAd K ("Body", some "__init__")
    f_Body___init__ := f_Body___init__
    d_Body___init__ := (He5.fun_of (st := s_Body___init__) d_Body___init__)
    mk_Body := He.mkr_ok (C.fact 50 (f := .mkr "Body") rfl)
    a_is_expression := He.fAd K ("is_expression", none)
    f_is_expression := f_is_expression
    d_is_expression := d_is_expression
    g_is_expression := He.glo_ok X G (C.fact 51 (f := .glo "is_expression") rfl)
    a_Body_good_part := He.fAd K ("Body", some "good_part")
    f_Body_good_part := f_Body_good_part
    d_Body_good_part := (He5.fun_of (st := s_Body_good_part) d_Body_good_part)
    me_Body_good_part := He.meth_ok (C.fact 52 (f := .meth "Body" "good_part") rfl)
    a_Body_good_row := He.fAd K ("Body", some "good_row")
    f_Body_good_row := f_Body_good_row
    d_Body_good_row := (He5.fun_of (st := s_Body_good_row) d_Body_good_row)
    me_Body_good_row := He.meth_ok (C.fact 53 (f := .meth "Body" "good_row") rfl)
    a_Body_good_rows := He.fAd K ("Body", some "good_rows")
    f_Body_good_rows := f_Body_good_rows
    d_Body_good_rows := (He5.fun_of (st := s_Body_good_rows) d_Body_good_rows)
    me_Body_good_rows := He.meth_ok (C.fact 54 (f := .meth "Body" "good_rows") rfl)
    a_is_name := He.fAd K ("is_name", none)
    f_is_name := f_is_name
    d_is_name := (He5.fun_of (st := s_is_name) d_is_name)
    g_is_name := He.glo_ok X G (C.fact 55 (f := .glo "is_name") rfl)
    a_good_heads := He.fAd K ("good_heads", none)
    f_good_heads := f_good_heads
    d_good_heads := (He5.fun_of (st := s_good_heads) d_good_heads)
    g_good_heads := He.glo_ok X G (C.fact 56 (f := .glo "good_heads") rfl)
    a_good_deeds := He.fAd K ("good_deeds", none)
    f_good_deeds := f_good_deeds
    d_good_deeds := (He5.fun_of (st := s_good_deeds) d_good_deeds)
    g_good_deeds := He.glo_ok X G (C.fact 57 (f := .glo "good_deeds") rfl)
    a_has_coin := He.fAd K ("has_coin", none)
    f_has_coin := f_has_coin
    d_has_coin := (He5.fun_of (st := s_has_coin) d_has_coin)
    g_has_coin := He.glo_ok X G (C.fact 58 (f := .glo "has_coin") rfl)
    a_Vault___init__ := He.fAd K ("Vault", some "__init__")
    f_Vault___init__ := f_Vault___init__
    d_Vault___init__ := (He5.fun_of (st := s_Vault___init__) d_Vault___init__)
    mk_Vault := He.mkr_ok (C.fact 59 (f := .mkr "Vault") rfl)
    a_law_calls := He.fAd K ("_law_calls", none)
    f_law_calls := f_law_calls
    d_law_calls := (He5.fun_of (st := s_law_calls) d_law_calls)
    g_law_calls := He.glo_ok X G (C.fact 60 (f := .glo "_law_calls") rfl)
    a_law_draw := He.fAd K ("_law_draw", none)
    f_law_draw := f_law_draw
    d_law_draw := (He5.fun_of (st := s_law_draw) d_law_draw)
    g_law_draw := He.glo_ok X G (C.fact 61 (f := .glo "_law_draw") rfl)
    a_law_cells := He.fAd K ("_law_cells", none)
    f_law_cells := f_law_cells
    d_law_cells := (He5.fun_of (st := s_law_cells) d_law_cells)
    g_law_cells := He.glo_ok X G (C.fact 62 (f := .glo "_law_cells") rfl)
    a_law_e := He.fAd K ("_law_e", none)
    f_law_e := f_law_e
    d_law_e := (He5.fun_of (st := s_law_e) d_law_e)
    g_law_e := He.glo_ok X G (C.fact 63 (f := .glo "_law_e") rfl)
    a_law_rows := He.fAd K ("_law_rows", none)
    f_law_rows := f_law_rows
    d_law_rows := (He5.fun_of (st := s_law_rows) d_law_rows)
    g_law_rows := He.glo_ok X G (C.fact 64 (f := .glo "_law_rows") rfl)
    a_law_coin_tree := He.fAd K ("_law_coin_tree", none)
    f_law_coin_tree := f_law_coin_tree
    d_law_coin_tree := (He5.fun_of (st := s_law_coin_tree) d_law_coin_tree)
    g_law_coin_tree := He.glo_ok X G (C.fact 65 (f := .glo "_law_coin_tree") rfl)
    a_law_body := He.fAd K ("_law_body", none)
    f_law_body := f_law_body
    d_law_body := (He5.fun_of (st := s_law_body) d_law_body)
    g_law_body := He.glo_ok X G (C.fact 66 (f := .glo "_law_body") rfl)
    a_law_deeds := He.fAd K ("_law_deeds", none)
    f_law_deeds := f_law_deeds
    d_law_deeds := (He5.fun_of (st := s_law_deeds) d_law_deeds)
    g_law_deeds := He.glo_ok X G (C.fact 67 (f := .glo "_law_deeds") rfl)
    a_law_coin_vault := He.fAd K ("_law_coin_vault", none)
    f_law_coin_vault := f_law_coin_vault
    d_law_coin_vault := (He5.fun_of (st := s_law_coin_vault) d_law_coin_vault)
    g_law_coin_vault := He.glo_ok X G (C.fact 68 (f := .glo "_law_coin_vault") rfl)
    a_is_state_of := He.fAd K ("is_state_of", none)
    f_is_state_of := f_is_state_of
    d_is_state_of := (He5.fun_of (st := s_is_state_of) d_is_state_of)
    g_is_state_of := He.glo_ok X G (C.fact 69 (f := .glo "is_state_of") rfl)
    a_is_state := He.fAd K ("is_state", none)
    f_is_state := f_is_state
    d_is_state := (He5.fun_of (st := s_is_state) d_is_state)
    g_is_state := He.glo_ok X G (C.fact 70 (f := .glo "is_state") rfl)
    a_check_state := He.fAd K ("check_state", none)
    f_check_state := f_check_state
    d_check_state := (He5.fun_of (st := s_check_state) d_check_state)
    g_check_state := He.glo_ok X G (C.fact 71 (f := .glo "check_state") rfl)
    a_begun := He.fAd K ("begun", none)
    f_begun := f_begun
    d_begun := (He5.fun_of (st := s_begun) d_begun)
    g_begun := He.glo_ok X G (C.fact 72 (f := .glo "begun") rfl)
    a_is_call := He.fAd K ("is_call", none)
    f_is_call := f_is_call
    d_is_call := (He5.fun_of (st := s_is_call) d_is_call)
    g_is_call := He.glo_ok X G (C.fact 73 (f := .glo "is_call") rfl)
    a_row_fault := He.fAd K ("row_fault", none)
    f_row_fault := f_row_fault
    d_row_fault := (He5.fun_of (st := s_row_fault) d_row_fault)
    g_row_fault := He.glo_ok X G (C.fact 74 (f := .glo "row_fault") rfl)
    a_check_row := He.fAd K ("check_row", none)
    f_check_row := f_check_row
    d_check_row := (He5.fun_of (st := s_check_row) d_check_row)
    g_check_row := He.glo_ok X G (C.fact 75 (f := .glo "check_row") rfl)
    a_common_divisor := He.fAd K ("common_divisor", none)
    f_common_divisor := f_common_divisor
    d_common_divisor := (He5.fun_of (st := s_common_divisor) d_common_divisor)
    g_common_divisor := He.glo_ok X G (C.fact 76 (f := .glo "common_divisor") rfl)
    a_reduced := He.fAd K ("reduced", none)
    f_reduced := f_reduced
    d_reduced := (He5.fun_of (st := s_reduced) d_reduced)
    g_reduced := He.glo_ok X G (C.fact 77 (f := .glo "reduced") rfl)
    a_Walk_do_coin := He.fAd K ("Walk", some "do_coin")
    f_Walk_do_coin := f_Walk_do_coin
    d_Walk_do_coin := (He5.fun_of (st := s_Walk_do_coin) d_Walk_do_coin)
    me_Walk_do_coin := He.meth_ok (C.fact 78 (f := .meth "Walk" "do_coin") rfl)
    a_value := He.fAd K ("value", none)
    f_value := f_value
    d_value := (He5.fun_of (st := s_value) d_value)
    g_value := He.glo_ok X G (C.fact 79 (f := .glo "value") rfl)
    a_Walk_do_step := He.fAd K ("Walk", some "do_step")
    f_Walk_do_step := f_Walk_do_step
    d_Walk_do_step := (He5.fun_of (st := s_Walk_do_step) d_Walk_do_step)
    me_Walk_do_step := He.meth_ok (C.fact 80 (f := .meth "Walk" "do_step") rfl)
    a_Walk_do_times := He.fAd K ("Walk", some "do_times")
    f_Walk_do_times := f_Walk_do_times
    d_Walk_do_times := (He5.fun_of (st := s_Walk_do_times) d_Walk_do_times)
    me_Walk_do_times := He.meth_ok (C.fact 81 (f := .meth "Walk" "do_times") rfl)
    a_Walk_do_row := He.fAd K ("Walk", some "do_row")
    f_Walk_do_row := f_Walk_do_row
    d_Walk_do_row := (He5.fun_of (st := s_Walk_do_row) d_Walk_do_row)
    me_Walk_do_row := He.meth_ok (C.fact 82 (f := .meth "Walk" "do_row") rfl)
    a_Walk_do_rows := He.fAd K ("Walk", some "do_rows")
    f_Walk_do_rows := f_Walk_do_rows
    d_Walk_do_rows := (He5.fun_of (st := s_Walk_do_rows) d_Walk_do_rows)
    me_Walk_do_rows := He.meth_ok (C.fact 83 (f := .meth "Walk" "do_rows") rfl)
    a_Walk___init__ := He.fAd K ("Walk", some "__init__")
    f_Walk___init__ := f_Walk___init__
    d_Walk___init__ := (He5.fun_of (st := s_Walk___init__) d_Walk___init__)
    mk_Walk := He.mkr_ok (C.fact 84 (f := .mkr "Walk") rfl)
    a_outcomes_of := He.fAd K ("outcomes_of", none)
    f_outcomes_of := f_outcomes_of
    d_outcomes_of := (He5.fun_of (st := s_outcomes_of) d_outcomes_of)
    g_outcomes_of := He.glo_ok X G (C.fact 85 (f := .glo "outcomes_of") rfl)
    a_spread := He.fAd K ("spread", none)
    f_spread := f_spread
    d_spread := (He5.fun_of (st := s_spread) d_spread)
    g_spread := He.glo_ok X G (C.fact 86 (f := .glo "spread") rfl)
    a_share := He.fAd K ("share", none)
    f_share := f_share
    d_share := (He5.fun_of (st := s_share) d_share)
    g_share := He.glo_ok X G (C.fact 87 (f := .glo "share") rfl)
    a_law_mixed := He.fAd K ("_law_mixed", none)
    f_law_mixed := f_law_mixed
    d_law_mixed := (He5.fun_of (st := s_law_mixed) d_law_mixed)
    g_law_mixed := He.glo_ok X G (C.fact 88 (f := .glo "_law_mixed") rfl)
    a_law_pool := He.fAd K ("_law_pool", none)
    f_law_pool := f_law_pool
    d_law_pool := (He5.fun_of (st := s_law_pool) d_law_pool)
    g_law_pool := He.glo_ok X G (C.fact 89 (f := .glo "_law_pool") rfl)
    a_law_good_int := He.fAd K ("_law_good_int", none)
    f_law_good_int := f_law_good_int
    d_law_good_int := (He5.fun_of (st := s_law_good_int) d_law_good_int)
    g_law_good_int := He.glo_ok X G (C.fact 90 (f := .glo "_law_good_int") rfl)
    a_law_fraction := He.fAd K ("_law_fraction", none)
    f_law_fraction := f_law_fraction
    d_law_fraction := (He5.fun_of (st := s_law_fraction) d_law_fraction)
    g_law_fraction := He.glo_ok X G (C.fact 91 (f := .glo "_law_fraction") rfl)
    a_law_good_ints := He.fAd K ("_law_good_ints", none)
    f_law_good_ints := f_law_good_ints
    d_law_good_ints := (He5.fun_of (st := s_law_good_ints) d_law_good_ints)
    g_law_good_ints := He.glo_ok X G (C.fact 92 (f := .glo "_law_good_ints") rfl)
    a_law_right := He.fAd K ("_law_right", none)
    f_law_right := f_law_right
    d_law_right := (He5.fun_of (st := s_law_right) d_law_right)
    g_law_right := He.glo_ok X G (C.fact 93 (f := .glo "_law_right") rfl)
    a_law_row := He.fAd K ("_law_row", none)
    f_law_row := f_law_row
    d_law_row := (He5.fun_of (st := s_law_row) d_law_row)
    g_law_row := He.glo_ok X G (C.fact 94 (f := .glo "_law_row") rfl)
    a_law_value := He.fAd K ("_law_value", none)
    f_law_value := f_law_value
    d_law_value := (He5.fun_of (st := s_law_value) d_law_value)
    g_law_value := He.glo_ok X G (C.fact 95 (f := .glo "_law_value") rfl)
    a_law_step := He.fAd K ("_law_step", none)
    f_law_step := f_law_step
    d_law_step := (He5.fun_of (st := s_law_step) d_law_step)
    g_law_step := He.glo_ok X G (C.fact 96 (f := .glo "_law_step") rfl)
    a_law_do := He.fAd K ("_law_do", none)
    f_law_do := f_law_do
    d_law_do := (He5.fun_of (st := s_law_do) d_law_do)
    g_law_do := He.glo_ok X G (C.fact 97 (f := .glo "_law_do") rfl)
    a_law_call := He.fAd K ("_law_call", none)
    f_law_call := f_law_call
    d_law_call := (He5.fun_of (st := s_law_call) d_law_call)
    g_law_call := He.glo_ok X G (C.fact 98 (f := .glo "_law_call") rfl)
    a_law_outs := He.fAd K ("_law_outs", none)
    f_law_outs := f_law_outs
    d_law_outs := (He5.fun_of (st := s_law_outs) d_law_outs)
    g_law_outs := He.glo_ok X G (C.fact 99 (f := .glo "_law_outs") rfl)
    a_law_weights := He.fAd K ("_law_weights", none)
    f_law_weights := f_law_weights
    d_law_weights := (He5.fun_of (st := s_law_weights) d_law_weights)
    g_law_weights := He.glo_ok X G (C.fact 100 (f := .glo "_law_weights") rfl)
    a_law := He.fAd K ("law", none)
    f_law := f_law
    d_law := (He5.fun_of (st := s_law) d_law)
    g_law := He.glo_ok X G (C.fact 101 (f := .glo "law") rfl) }⟩
def hnames0 : List PySem.Str := ["_wall", "PastError", "NoName", "NoState", "NoVault", "NoRow", "LETTERS", "SIGNS", "KEEPERS", "REGISTERS", "MOST_ROWS", "MOST_COINS", "DEEPEST_ROW", "DEEPEST_EXPRESSION", "FORMS", "is_integer", "is_name", "is_expression", "Body", "good_cells", "good_heads", "good_deeds", "has_coin", "calls_of", "is_state_of", "is_state", "is_call", "row_fault", "check_state", "check_row"]
def hnames1 : List PySem.Str := ["POWERS", "value", "Walk", "outcomes_of", "common_divisor", "reduced", "spread", "share", "Vault", "begun", "_law_pool", "_law_draw", "_law_cells", "_law_e", "_law_rows", "_law_body", "_law_deeds", "_law_calls", "_law_row", "_law_value", "_law_step", "_law_do", "_law_call", "_law_outs", "_law_good_int", "_law_coin_tree", "_law_coin_vault", "_law_weights", "_law_fraction", "_law_right"]
def hnames2 : List PySem.Str := ["_law_good_ints", "_law_mixed"]
def hnames : List PySem.Str := hnames0 ++ hnames1 ++ hnames2
abbrev R : PySem.W.OpenRow := PySem.W.OpenLaw.row PySem.Challenge.rw_traceless_k13_whole_shares_by_own_fracti
def hk : PySem.W.Hook := He.hookX 5 hfa hfn hts [] hex
def ob (s : PySem.W.SharedT) : He.AlX := He.obsX 5 hfa hfn hts [] hex (HandSHeadRun.getT s)
theorem ob_eq (s : PySem.W.SharedT) : ob s = hk.obs s.abs := He.obsX_eq (HandSHeadRun.getT_eq s)
abbrev qv : Program := PySem.W.view R.prog [67]
theorem run_false (w : World) : HandSHeadRun.RunEq R qv hk ob 30000 hnames (w.withFollow "special-get-raises" false) := by
  intro os
  kernel_rfl
theorem run_true (w : World) : HandSHeadRun.RunEq R qv hk ob 30000 hnames (w.withFollow "special-get-raises" true) := by
  intro os
  kernel_rfl
theorem run (w : World) : HandSHeadRun.RunEq R qv hk ob 30000 hnames w := PySem.W.byRow2 "special-get-raises" (P := fun w => HandSHeadRun.RunEq R qv hk ob 30000 hnames w) run_false run_true w
end K13

set_option Elab.async false
set_option linter.all false
set_option maxRecDepth 100000
set_option pp.maxSteps 350
set_option pp.deepTerms.threshold 3
set_option maxHeartbeats 2000000
namespace K13
open PySem PySem.Spec PyProof.Rows L2 TD
theorem ins_at {S : Sto} {n : Nat} {c : Str} {fs : List (Str × D)} (h : S[n]? = some (.ins c fs)) : insOf S c (.ref n) = some (n, fs) := by
  simp only [insOf, h, if_true]
/-- a pool of draws at p -/
def Pl (S : Sto) (p : Nat) : Prop := ∃ a b c : Int, S[p]? = some (.lst [.int a, .int b, .int c]) ∧ 0 ≤ a ∧ 0 ≤ b ∧ b < 1000000000000
theorem draw {S : Sto} {p : Nat} (hp : Pl S p) {m : Int} (h0 : 0 < m) (h1 : m < 1000000) : WR (F_law_draw [.ref p, .int m] S) (fun d S' => ∃ k : Int, d = .int k ∧ 0 ≤ k ∧ k < m ∧ Pl S' p ∧ Fr S S' [p]) NX := by
  obtain ⟨a, b, c, h, ha, hb, hb2⟩ := hp
  unfold F_law_draw
  apply wr_dfun rfl
  have hm : 0 < m ∧ m < 1073741824 := ⟨h0, by omega⟩
  have hl := ins_of h
  have hne : m ≠ 0 := by omega
  have hm2 : m < 1073741824 := by omega
  simp [h, hl, h0, hm2]
  have n0 : ¬ S.length = S.length + 1 := by omega
  split
  · refine ⟨Int.emod_nonneg _ hne, Int.emod_lt_of_pos _ h0, ⟨_, _, _, set_self hl, ?_, hb, hb2⟩, Fr.rfl'.set (by simp) _⟩
    exact Int.ediv_nonneg ha (by omega)
  · refine ⟨mulOkL (by omega) (by omega), mulOkL (by omega) (by omega), Int.emod_nonneg _ hne, Int.emod_lt_of_pos _ h0, ⟨_, _, _, set_self hl, ha, hb, hb2⟩, Fr.rfl'.set (by simp) _⟩
end K13

set_option Elab.async false
set_option linter.all false
set_option maxRecDepth 100000
set_option maxHeartbeats 2000000
namespace K13
open PySem PySem.Spec PyProof.Rows L2 TD
/-- a walk in a store; its coins are a list of the store or a tuple -/
structure Wc where
  wk : Nat
  ic : Nat
  ih : Nat
  io : Nat
  it : Nat
  sz : List Int
  all : List Int
  cv : D
def Wc.L (C : Wc) : List Nat := [C.wk, C.ic, C.ih, C.it]
structure Wc.Ne (C : Wc) : Prop where
  a : C.wk ≠ C.ic
  b : C.wk ≠ C.ih
  c : C.wk ≠ C.io
  d : C.wk ≠ C.it
  e : C.ic ≠ C.ih
  f : C.ic ≠ C.io
  g : C.ic ≠ C.it
  h : C.ih ≠ C.io
  i : C.ih ≠ C.it
  j : C.io ≠ C.it
def wkF (C : Wc) (s : Vs) : List (Str × D) := [("size_row", .tup (C.sz.map D.int)), ("cells", .ref C.ic), ("held", .ref C.ih), ("coins", C.cv), ("used", .int s.used), ("trace", .ref C.it)]
def CoAt (S : Sto) (cv : D) (io : Nat) (fs : List Int) : Prop := cv = .tup (fs.map D.int) ∨ (cv = .ref io ∧ S[io]? = some (.lst (fs.map D.int)))
theorem CoAt.to {S S' : Sto} {cv : D} {io : Nat} {fs : List Int} (h : CoAt S cv io fs) (e : S'[io]? = S[io]?) : CoAt S' cv io fs := h.imp id fun k => ⟨k.1, e.trans k.2⟩
structure WkAt (C : Wc) (S : Sto) (s : Vs) : Prop where
  w : S[C.wk]? = some (.ins "Walk" (wkF C s))
  c : S[C.ic]? = some (.lst (s.cells.map D.int))
  h : S[C.ih]? = some (.dct (hd s.held))
  o : CoAt S C.cv C.io C.all
  t : S[C.it]? = some (.lst s.trace)
  fl : s.falls = C.all.drop s.used
  u : s.used ≤ C.all.length
end K13

set_option Elab.async false
set_option linter.all false
set_option maxRecDepth 100000
set_option pp.maxSteps 1500
set_option maxHeartbeats 2000000
namespace K13
open PySem PySem.Spec PyProof.Rows L2 TD
theorem value_eq {S : Sto} {q : Nat} {h : Rs} (hq : S[q]? = some (.dct (hd h))) (hh : ROk h) : ∀ (e : Ex) (n : Nat), e.Ok → e.dep < n → F_value n [encE e, .ref q] S = .ok (.int (e.val h)) S
  | .num i, n + 1, _, _ => by
    apply WR.eq
    unfold F_value
    apply wr_dfun rfl
    simp [encE, Ex.val]
  | .reg r, n + 1, _, _ => by
    apply WR.eq
    unfold F_value
    apply wr_dfun rfl
    simp [encE, Ex.val, hq]
  | .op o l r, n + 1, k, hd => by
    have hl : l.dep < n := by simp only [Ex.dep] at hd; omega
    have hr : r.dep < n := by simp only [Ex.dep] at hd; omega
    have e1 := value_eq hq hh l n k.1 hl
    have e2 := value_eq hq hh r n k.2 hr
    have b1 := Ex.val_ok hh k.1
    have b2 := Ex.val_ok hh k.2
    have mk : TD.MulOk (l.val h) (r.val h) := mulOkL (by omega) (by omega)
    apply WR.eq
    unfold F_value
    apply wr_dfun rfl
    cases o <;> simp [encE, Ex.val, Sg.s, e1, e2, mk]
theorem lvalue_eq {S : Sto} {q : Nat} {h : Rs} (hq : S[q]? = some (.dct (hd h))) (hh : ROk h) : ∀ (e : Ex) (n : Nat), e.Ok → e.dep < n → F_law_value n [encE e, .ref q] S = .ok (.int (e.val h)) S
  | .num i, n + 1, _, _ => by
    apply WR.eq
    unfold F_law_value
    apply wr_dfun rfl
    simp [encE, Ex.val]
  | .reg r, n + 1, _, _ => by
    apply WR.eq
    unfold F_law_value
    apply wr_dfun rfl
    simp [encE, Ex.val, hq]
  | .op o l r, n + 1, k, hd => by
    have hl : l.dep < n := by simp only [Ex.dep] at hd; omega
    have hr : r.dep < n := by simp only [Ex.dep] at hd; omega
    have e1 := lvalue_eq hq hh l n k.1 hl
    have e2 := lvalue_eq hq hh r n k.2 hr
    have b1 := Ex.val_ok hh k.1
    have b2 := Ex.val_ok hh k.2
    have mk : TD.MulOk (l.val h) (r.val h) := mulOkL (by omega) (by omega)
    have mk2 : TD.MulOk (r.val h) 1 := mulOkL (by omega) (by omega)
    have mk3 : TD.MulOk (r.val h) (-1) := mulOkL (by omega) (by omega)
    have mk4 : TD.MulOk 2 0 := mulOkL (by omega) (by omega)
    have mk5 : TD.MulOk 2 1 := mulOkL (by omega) (by omega)
    apply WR.eq
    unfold F_law_value
    apply wr_dfun rfl
    cases o <;> simp [encE, Ex.val, Sg.s, e1, e2, mk, mk2, mk3, mk4, mk5, Int.sub_eq_add_neg]
end K13

set_option Elab.async false
set_option linter.all false
set_option maxRecDepth 100000
set_option pp.maxSteps 1500
set_option maxHeartbeats 4000000
namespace K13
open PySem PySem.Spec PyProof.Rows L2 TD
abbrev Wp (C : Wc) (S : Sto) (r : Option Int × Vs) : D → Sto → Prop := fun d S' => d = ansD r.1 ∧ WkAt C S' r.2 ∧ Fr S S' C.L
theorem coin_spec {C : Wc} (ne : C.Ne) {S : Sto} {s : Vs} (W : WkAt C S s) (r : Rg) : WR (F_Walk_do_coin [.ref C.wk, .str (Str.ofString r.s)] S) (Wp C S ((Rw.coin r).run C.sz s)) NX := by
  have iw := ins_of W.w
  have ih := ins_of W.h
  have n1 := ne.a; have n2 := ne.b; have n3 := ne.c; have n4 := ne.d; have n5 := ne.e; have n6 := ne.f; have n7 := ne.g; have n8 := ne.h; have n9 := ne.i; have n10 := ne.j
  have hfl := W.fl
  unfold F_Walk_do_coin
  apply wr_dfun rfl
  rcases W.o with ho | ⟨ho, hs⟩
  · by_cases hu : s.used = C.all.length
    · have e : s.falls = [] := by rw [hfl, hu, List.drop_length]
      have hz : (Rw.coin r).run C.sz s = (some (-1), s) := by simp only [Rw.run, e]
      simp [W.w, ho, wkF, hu, hz, Wp]
      exact ⟨W, Fr.rfl'⟩
    · have hlt : s.used < C.all.length := by have := W.u; omega
      have e : s.falls = C.all.getD s.used 0 :: C.all.drop (s.used + 1) := by
        rw [hfl, List.drop_eq_getElem_cons hlt]
        simp [List.getD_eq_getElem?_getD, List.getElem?_eq_getElem hlt]
      have hz : (Rw.coin r).run C.sz s = (none, { s with held := setR s.held r (C.all.getD s.used 0), falls := C.all.drop (s.used + 1), used := s.used + 1 }) := by simp only [Rw.run, e]
      have hne : ¬ ((s.used : Int) = (C.all.length : Int)) := by omega
      have m1 := map_at hlt
      rw [hz]
      simp [W.w, ho, W.h, wkF, hne, Wp, iw, ih, n1, n2, n3, n4, n2.symm, n3.symm, n8, n8.symm, m1, -List.getElem?_map, -List.getD_eq_getElem?_getD]
      refine ⟨⟨?_, ?_, ?_, ?_, ?_, rfl, hlt⟩, (Fr.rfl'.set (by simp [Wc.L]) _).set (by simp [Wc.L]) _⟩
      · simp [wkF, iw, ho]
      · simp [n1, n5.symm, W.c]
      · simp [n2, ih]
      · exact W.o.to (by simp [n3, n8])
      · simp [n4, n9, W.t]
  · by_cases hu : s.used = C.all.length
    · have e : s.falls = [] := by rw [hfl, hu, List.drop_length]
      have hz : (Rw.coin r).run C.sz s = (some (-1), s) := by simp only [Rw.run, e]
      simp [W.w, ho, hs, wkF, hu, hz, Wp]
      exact ⟨W, Fr.rfl'⟩
    · have hlt : s.used < C.all.length := by have := W.u; omega
      have e : s.falls = C.all.getD s.used 0 :: C.all.drop (s.used + 1) := by
        rw [hfl, List.drop_eq_getElem_cons hlt]
        simp [List.getD_eq_getElem?_getD, List.getElem?_eq_getElem hlt]
      have hz : (Rw.coin r).run C.sz s = (none, { s with held := setR s.held r (C.all.getD s.used 0), falls := C.all.drop (s.used + 1), used := s.used + 1 }) := by simp only [Rw.run, e]
      have hne : ¬ ((s.used : Int) = (C.all.length : Int)) := by omega
      have m1 := map_at hlt
      rw [hz]
      simp [W.w, ho, hs, W.h, wkF, hne, Wp, iw, ih, n1, n2, n3, n4, n2.symm, n3.symm, n8, n8.symm, m1, -List.getElem?_map, -List.getD_eq_getElem?_getD]
      refine ⟨⟨?_, ?_, ?_, ?_, ?_, rfl, hlt⟩, (Fr.rfl'.set (by simp [Wc.L]) _).set (by simp [Wc.L]) _⟩
      · simp [wkF, iw, ho, hs]
      · simp [n1, n5.symm, W.c]
      · simp [n2, ih]
      · exact W.o.to (by simp [n3, n8])
      · simp [n4, n9, W.t]
theorem ixN_at {n c : Nat} (h : c < n) : ixN n ((c : Nat) : Int) = some c := by
  have e := ixN_nn (n := n) (i := ((c : Nat) : Int)) (by omega) (by omega)
  simpa using e
theorem step_read {C : Wc} (ne : C.Ne) {S : Sto} {s : Vs} (W : WkAt C S s) {m : Nat} (V : VOk C.sz m s) {r : Rg} {c : Nat} (hc : c < m) (hl : s.trace.length < 1000000) : WR (F_Walk_do_step [.ref C.wk, encR (.read r c)] S) (Wp C S ((Rw.read r c).run C.sz s)) NX := by
  have iw := ins_of W.w
  have ih := ins_of W.h
  have it := ins_of W.t
  have n1 := ne.a; have n2 := ne.b; have n3 := ne.c; have n4 := ne.d; have n5 := ne.e; have n6 := ne.f; have n7 := ne.g; have n8 := ne.h; have n9 := ne.i; have n10 := ne.j
  have m1 := map_at (l := s.cells) (c := c) (by rw [V.len]; exact hc)
  unfold F_Walk_do_step
  apply wr_dfun rfl
  simp [encR, Rw.run, W.w, W.o, W.h, W.c, W.t, wkF, Wp, iw, ih, it, n1, n2, n3, n4, n5, n6, n7, n8, n9, n10, n1.symm, n2.symm, n3.symm, n4.symm, n5.symm, n6.symm, n7.symm, n8.symm, n9.symm, n10.symm, m1, hl, -List.getElem?_map, -List.getD_eq_getElem?_getD]
  refine ⟨⟨?_, ?_, ?_, ?_, ?_, W.fl, W.u⟩, (Fr.rfl'.set (by simp [Wc.L]) _).set (by simp [Wc.L]) _⟩
  · simp [wkF, n2.symm, n4.symm, W.w]
  · simp [n5.symm, n7.symm, W.c]
  · simp [n9.symm, ih]
  · exact W.o.to (by simp [n8, n10.symm])
  · simp [n9, it]
theorem step_set {C : Wc} (ne : C.Ne) {S : Sto} {s : Vs} (W : WkAt C S s) {m : Nat} (V : VOk C.sz m s) (Z : SzOk C.sz m) {c : Nat} {e : Ex} (hc : c < m) (he : e.G) (hl : s.trace.length < 1000000) : WR (F_Walk_do_step [.ref C.wk, encR (.set c e)] S) (Wp C S ((Rw.set c e).run C.sz s)) NX := by
  have iw := ins_of W.w
  have ih := ins_of W.h
  have it := ins_of W.t
  have ic := ins_of W.c
  have n1 := ne.a; have n2 := ne.b; have n3 := ne.c; have n4 := ne.d; have n5 := ne.e; have n6 := ne.f; have n7 := ne.g; have n8 := ne.h; have n9 := ne.i; have n10 := ne.j
  have m1 := map_at (l := C.sz) (c := c) (by rw [Z.1]; exact hc)
  have m2 := ixN_at (n := s.cells.length) (c := c) (by rw [V.len]; exact hc)
  have hv := value_eq W.h V.held e 8 he.1 (by have := he.2; omega)
  have hz : 0 < C.sz.getD c 0 := by have := (Z.2 c hc).1; omega
  unfold F_Walk_do_step
  apply wr_dfun rfl
  simp [encR, Rw.run, W.w, W.o, W.h, W.c, W.t, wkF, Wp, iw, ih, it, ic, n1, n2, n3, n4, n5, n6, n7, n8, n9, n10, n1.symm, n2.symm, n3.symm, n4.symm, n5.symm, n6.symm, n7.symm, n8.symm, n9.symm, n10.symm, m1, m2, hl, hv, hz, -List.getElem?_map, -List.getD_eq_getElem?_getD, List.map_set]
  refine ⟨⟨?_, ?_, ?_, ?_, ?_, W.fl, W.u⟩, (Fr.rfl'.set (by simp [Wc.L]) _).set (by simp [Wc.L]) _⟩
  · simp [wkF, n1.symm, n4.symm, W.w]
  · simp [n7.symm, ic, List.map_set]
  · simp [n5, n9.symm, W.h]
  · exact W.o.to (by simp [n6, n10.symm])
  · simp [n7, it]
theorem step_swap {C : Wc} (ne : C.Ne) {S : Sto} {s : Vs} (W : WkAt C S s) {m : Nat} (V : VOk C.sz m s) (Z : SzOk C.sz m) {r : Rg} {c : Nat} {e f : Ex} (hc : c < m) (he : e.G) (hf : f.G) (hl : s.trace.length < 1000000) : WR (F_Walk_do_step [.ref C.wk, encR (.swap r c e f)] S) (Wp C S ((Rw.swap r c e f).run C.sz s)) NX := by
  have iw := ins_of W.w
  have ih := ins_of W.h
  have it := ins_of W.t
  have ic := ins_of W.c
  have n1 := ne.a; have n2 := ne.b; have n3 := ne.c; have n4 := ne.d; have n5 := ne.e; have n6 := ne.f; have n7 := ne.g; have n8 := ne.h; have n9 := ne.i; have n10 := ne.j
  have m0 := map_at (l := s.cells) (c := c) (by rw [V.len]; exact hc)
  have m1 := map_at (l := C.sz) (c := c) (by rw [Z.1]; exact hc)
  have m2 := ixN_at (n := s.cells.length) (c := c) (by rw [V.len]; exact hc)
  have hv := value_eq W.h V.held e 8 he.1 (by have := he.2; omega)
  have hv2 := value_eq W.h V.held f 8 hf.1 (by have := hf.2; omega)
  have hz : 0 < C.sz.getD c 0 := by have := (Z.2 c hc).1; omega
  unfold F_Walk_do_step
  apply wr_dfun rfl
  by_cases hh : s.cells.getD c 0 = e.val s.held
  · simp [encR, Rw.run, W.w, W.o, W.h, W.c, W.t, wkF, Wp, iw, ih, it, ic, n1, n2, n3, n4, n5, n6, n7, n8, n9, n10, n1.symm, n2.symm, n3.symm, n4.symm, n5.symm, n6.symm, n7.symm, n8.symm, n9.symm, n10.symm, m0, m1, m2, hl, hv, hv2, hz, hh, -List.getElem?_map, -List.getD_eq_getElem?_getD, List.map_set]
    refine ⟨⟨?_, ?_, ?_, ?_, ?_, W.fl, W.u⟩, ((Fr.rfl'.set (by simp [Wc.L]) _).set (by simp [Wc.L]) _).set (by simp [Wc.L]) _⟩
    · simp [wkF, n1.symm, n2.symm, n4.symm, W.w]
    · simp [n7.symm, n5.symm, ic, List.map_set]
    · simp [n5, n9.symm, ih]
    · exact W.o.to (by simp [n6, n8, n10.symm])
    · simp [n7, n9, it]
  · simp [encR, Rw.run, W.w, W.o, W.h, W.c, W.t, wkF, Wp, iw, ih, it, ic, n1, n2, n3, n4, n5, n6, n7, n8, n9, n10, n1.symm, n2.symm, n3.symm, n4.symm, n5.symm, n6.symm, n7.symm, n8.symm, n9.symm, n10.symm, m0, m1, m2, hl, hv, hv2, hz, hh, -List.getElem?_map, -List.getD_eq_getElem?_getD, List.map_set]
    refine ⟨⟨?_, ?_, ?_, ?_, ?_, W.fl, W.u⟩, (Fr.rfl'.set (by simp [Wc.L]) _).set (by simp [Wc.L]) _⟩
    · simp [wkF, n2.symm, n4.symm, W.w]
    · simp [n7.symm, n5.symm, W.c]
    · simp [n5, n9.symm, ih]
    · exact W.o.to (by simp [n6, n8, n10.symm])
    · simp [n7, n9, it]
end K13

set_option Elab.async false
set_option linter.all false
set_option maxRecDepth 100000
set_option pp.maxSteps 1500
set_option maxHeartbeats 4000000
namespace K13
open PySem PySem.Spec PyProof.Rows L2 TD
theorem rgD_len : ∀ (n : Nat) (lo : Int), (rgD lo n).length = n
  | 0, _ => rfl
  | n + 1, lo => by simp [rgD, rgD_len n]
/-- what the inner rows do -/
def HOk (C : Wc) (m : Nat) (HF : DFn) (d : Nat) : Prop := ∀ (rows : List Rw) (l : Nat) (S : Sto) (s : Vs), GL m d l rows → WkAt C S s → VOk C.sz m s → s.trace.length + wkL rows ≤ 100000 → WR (HF [.ref C.wk, .tup (encL rows)] S) (Wp C S (runL C.sz rows s)) NX
theorem times_spec {C : Wc} {m d l : Nat} {HF : DFn} (Z : SzOk C.sz m) (hF : HOk C m HF d) {b : List Rw} (g : GL m d l b) {S : Sto} {s : Vs} (W : WkAt C S s) (V : VOk C.sz m s) {n : Int} (h0 : 0 ≤ n) (h9 : n ≤ 9) (hl : s.trace.length + 9 * wkL b ≤ 100000) :
    WR (F_Walk_do_times HF [.ref C.wk, .int n, .tup (encL b)] S) (Wp C S (iter (runL C.sz b) n.toNat s)) NX := by
  unfold F_Walk_do_times
  apply wr_dfun rfl
  have hr : rngOk n := ⟨by omega, by omega⟩
  simp [hr]
  refine ws_forL (fun ds ρ S' => ∃ s' x y, ρ = [some (.ref C.wk), some (.int n), some (.tup (encL b)), x, y] ∧ WkAt C S' s' ∧ VOk C.sz m s' ∧ s'.trace.length + ds.length * wkL b ≤ 100000 ∧ iter (runL C.sz b) n.toNat s = iter (runL C.sz b) ds.length s' ∧ Fr S S' C.L) ?_ ?_ ?_ _ _ _ ⟨s, none, none, rfl, W, V, ?_, by rw [rgD_len], Fr.rfl'⟩
  · exact fun _ _ _ _ => trivial
  · rintro e ds ρ S' ⟨s', x, y, rfl, W', V', b', i', f'⟩
    have hb : s'.trace.length + wkL b ≤ 100000 := by
      rw [List.length_cons, Nat.add_mul, Nat.one_mul] at b'
      omega
    have hw := (hF b l S' s' g W' V' hb)
    simp [W'.w, wkF, -List.lookup_eq_none_iff]
    refine TD.WR.step hw ?_
    rintro dd S2 ⟨rfl, W2, f2⟩
    have k2 := runL_len Z b d l s' g V'
    have k3 := runL_ok Z b d l s' g V'
    have i2 := i'
    rw [List.length_cons] at i2
    simp only [iter] at i2
    cases er : runL C.sz b s' with
    | mk o s2 =>
      rw [er] at i2 W2 k2 k3
      cases o with
      | none =>
        simp
        refine ⟨s2, W2, k3, ?_, i2, f'.trans f2⟩
        rw [List.length_cons, Nat.add_mul, Nat.one_mul] at b'
        simp only at k2
        omega
      | some a =>
        simp
        rw [gc_len (f2.1.trans f'.1)]
        rw [i2]
        exact ⟨rfl, W2, f'.trans f2⟩
  · rintro ρ S' ⟨s', x, y, rfl, W', V', b', i', f'⟩
    simp
    rw [gc_len f'.1, i']
    exact ⟨rfl, W', f'⟩
  · rw [rgD_len]
    have hm : n.toNat * wkL b ≤ 9 * wkL b := Nat.mul_le_mul_right _ (by omega)
    omega
theorem Wp.len {C : Wc} {S : Sto} {r : Option Int × Vs} {d : D} {S' : Sto} (h : Wp C S r d S') : S'.length = S.length := h.2.2.1
theorem row_spec {C : Wc} (ne : C.Ne) {m d l : Nat} {HF : DFn} (Z : SzOk C.sz m) (hF : ∀ d', d = d' + 1 → HOk C m HF d') {r : Rw} (g : r.G m d l) {S : Sto} {s : Vs} (W : WkAt C S s) (V : VOk C.sz m s) (hl : s.trace.length + r.wk ≤ 100000) :
    WR (F_Walk_do_row HF [.ref C.wk, encR r] S) (Wp C S (r.run C.sz s)) NX := by
  have iw := ins_of W.w
  have ih := ins_of W.h
  have n1 := ne.a; have n2 := ne.b; have n3 := ne.c; have n4 := ne.d; have n5 := ne.e; have n6 := ne.f; have n7 := ne.g; have n8 := ne.h; have n9 := ne.i; have n10 := ne.j
  cases r with
  | read r c =>
    obtain ⟨g1, g2⟩ := (show r ≠ .x ∧ c < m by simpa [Rw.G] using g)
    have k := step_read ne W V (r := r) g2 (by simp only [Rw.wk] at hl; omega)
    unfold F_Walk_do_row
    apply wr_dfun rfl
    simp only [encR] at k ⊢
    simp [W.w, wkF, -List.lookup_eq_none_iff]
    refine TD.WR.step k ?_
    intro dd S2 q
    simp only [gc_len q.len]
    exact ⟨by simp [Rw.run], q.2⟩
  | set c e =>
    obtain ⟨g1, g2⟩ := (show c < m ∧ e.G by simpa [Rw.G] using g)
    have k := step_set ne W V Z g1 g2 (by simp only [Rw.wk] at hl; omega)
    unfold F_Walk_do_row
    apply wr_dfun rfl
    simp only [encR] at k ⊢
    simp [W.w, wkF, -List.lookup_eq_none_iff]
    refine TD.WR.step k ?_
    intro dd S2 q
    simp only [gc_len q.len]
    exact ⟨by simp [Rw.run], q.2⟩
  | swap r c e f =>
    obtain ⟨g0, g1, g2, g3⟩ := (show r ≠ .x ∧ c < m ∧ e.G ∧ f.G by simpa [Rw.G] using g)
    have k := step_swap ne W V Z (r := r) g1 g2 g3 (by simp only [Rw.wk] at hl; omega)
    unfold F_Walk_do_row
    apply wr_dfun rfl
    simp only [encR] at k ⊢
    simp [W.w, wkF, -List.lookup_eq_none_iff]
    refine TD.WR.step k ?_
    intro dd S2 q
    simp only [gc_len q.len]
    exact ⟨by simp [Rw.run], q.2⟩
  | keep r e =>
    obtain ⟨g1, g2⟩ := (show r ≠ .x ∧ e.G by simpa [Rw.G] using g)
    have hv := value_eq W.h V.held e 8 g2.1 (by have := g2.2; omega)
    unfold F_Walk_do_row
    apply wr_dfun rfl
    simp [encR, W.w, wkF, hv, W.h, Rw.run, Wp]
    refine ⟨⟨?_, ?_, ?_, ?_, ?_, W.fl, W.u⟩, Fr.rfl'.set (by simp [Wc.L]) _⟩
    · simp [wkF, n2.symm, W.w]
    · simp [n5.symm, W.c]
    · simp [ih]
    · exact W.o.to (by simp [n8])
    · simp [n9, W.t]
  | coin r =>
    have k := coin_spec ne W r
    unfold F_Walk_do_row
    apply wr_dfun rfl
    simp only [encR] at k ⊢
    simp [W.w, wkF, -List.lookup_eq_none_iff]
    refine TD.WR.step k ?_
    intro dd S2 q
    simp only [gc_len q.len]
    exact q
  | ite e a b =>
    obtain ⟨g1, g2, g3, g4⟩ := (show e.G ∧ 0 < d ∧ GL m (d - 1) l a ∧ GL m (d - 1) l b by simpa [Rw.G] using g)
    have hv := value_eq W.h V.held e 8 g1.1 (by have := g1.2; omega)
    simp only [Rw.wk] at hl
    have ka := hF (d - 1) (by omega) a l S s g3 W V (by omega)
    have kb := hF (d - 1) (by omega) b l S s g4 W V (by omega)
    unfold F_Walk_do_row
    apply wr_dfun rfl
    by_cases h : e.val s.held = 0
    · simp [encR, W.w, W.h, wkF, hv, h, Rw.run, -List.lookup_eq_none_iff]
      refine TD.WR.step kb ?_
      intro dd S2 q
      simp only [gc_len q.len]
      exact q
    · simp [encR, W.w, W.h, wkF, hv, h, Rw.run, -List.lookup_eq_none_iff]
      refine TD.WR.step ka ?_
      intro dd S2 q
      simp only [gc_len q.len]
      exact q
  | times e b =>
    obtain ⟨g1, g2, g3, g4⟩ := (show e.G ∧ 0 < d ∧ l < 2 ∧ GL m (d - 1) (l + 1) b by simpa [Rw.G] using g)
    have hv := value_eq W.h V.held e 8 g1.1 (by have := g1.2; omega)
    have v := Ex.val_ok V.held g1.1
    simp only [Rw.wk] at hl
    have k := times_spec Z (hF (d - 1) (by omega)) g4 W V v.1 v.2 (by omega)
    unfold F_Walk_do_row
    apply wr_dfun rfl
    simp [encR, W.w, W.h, wkF, hv, Rw.run, -List.lookup_eq_none_iff]
    refine TD.WR.step k ?_
    intro dd S2 q
    simp only [gc_len q.len]
    exact q
  | ans e =>
    have g1 : e.G := by simpa [Rw.G] using g
    have hv := value_eq W.h V.held e 8 g1.1 (by have := g1.2; omega)
    unfold F_Walk_do_row
    apply wr_dfun rfl
    simp [encR, W.w, wkF, hv, W.h, Rw.run, Wp]
    exact ⟨W, Fr.rfl'⟩
theorem rows_spec {C : Wc} (ne : C.Ne) {m : Nat} (Z : SzOk C.sz m) : ∀ (n d : Nat), d < n → HOk C m (F_Walk_do_rows n) d
  | 0, d, h => absurd h (Nat.not_lt_zero _)
  | n + 1, d, h => fun rows l S s g W V hl => by
    have hF : ∀ d', d = d' + 1 → HOk C m (F_Walk_do_rows n) d' := fun d' e => rows_spec ne Z n d' (by omega)
    unfold F_Walk_do_rows
    apply wr_dfun rfl
    simp
    refine ws_forL (fun ds ρ S' => ∃ rs s' x y, ds = encL rs ∧ ρ = [some (.ref C.wk), some (.tup (encL rows)), x, y] ∧ GL m d l rs ∧ WkAt C S' s' ∧ VOk C.sz m s' ∧ s'.trace.length + wkL rs ≤ 100000 ∧ runL C.sz rows s = runL C.sz rs s' ∧ TD.Fr S S' C.L) ?_ ?_ ?_ _ _ _ ⟨rows, s, none, none, rfl, rfl, g, W, V, hl, rfl, Fr.rfl'⟩
    · exact fun _ _ _ _ => trivial
    · rintro e ds ρ S' ⟨rs, s', x, y, he, rfl, g', W', V', b', i', f'⟩
      cases rs with
      | nil => simp [encL] at he
      | cons r rs =>
        obtain ⟨rfl, rfl⟩ := (show e = encR r ∧ ds = encL rs by simpa [encL] using he)
        obtain ⟨g1, g2⟩ := (show r.G m d l ∧ GL m d l rs by simpa [GL] using g')
        simp only [wkL] at b'
        have hw := row_spec ne Z hF g1 W' V' (by omega)
        simp [W'.w, wkF, -List.lookup_eq_none_iff]
        refine TD.WR.step hw ?_
        rintro dd S2 ⟨rfl, W2, f2⟩
        have k2 := run_len Z r d l s' g1 V'
        have k3 := run_ok Z r d l s' g1 V'
        have i2 := i'
        simp only [runL] at i2
        cases er : r.run C.sz s' with
        | mk o s2 =>
          rw [er] at i2 W2 k2 k3
          cases o with
          | none =>
            simp
            refine ⟨rs, rfl, g2, s2, W2, k3, ?_, i2, f'.trans f2⟩
            simp only at k2
            omega
          | some a =>
            simp
            rw [gc_len (f2.1.trans f'.1)]
            rw [i2]
            exact ⟨rfl, W2, f'.trans f2⟩
    · rintro ρ S' ⟨rs, s', x, y, he, rfl, g', W', V', b', i', f'⟩
      cases rs with
      | cons r rs => simp [encL] at he
      | nil =>
        simp
        rw [gc_len f'.1, i']
        exact ⟨rfl, W', f'⟩
end K13

set_option Elab.async false
set_option linter.all false
set_option maxRecDepth 100000
set_option pp.maxSteps 1500
set_option maxHeartbeats 4000000
namespace K13
open PySem PySem.Spec PyProof.Rows L2 TD
/-! ### the law's own walker -/
structure Lc where
  ic : Nat
  ih : Nat
  fa : Nat
  it : Nat
  sz : List Int
  is : Nat
def Lc.L (C : Lc) : List Nat := [C.ic, C.ih, C.fa, C.it]
structure Lc.Ne (C : Lc) : Prop where
  a : C.ic ≠ C.ih
  b : C.ic ≠ C.fa
  c : C.ic ≠ C.it
  d : C.ih ≠ C.fa
  e : C.ih ≠ C.it
  f : C.fa ≠ C.it
  g : C.is ≠ C.ic
  h : C.is ≠ C.ih
  i : C.is ≠ C.fa
  j : C.is ≠ C.it
structure LkAt (C : Lc) (S : Sto) (s : Vs) : Prop where
  z : S[C.is]? = some (.lst (C.sz.map D.int))
  c : S[C.ic]? = some (.lst (s.cells.map D.int))
  h : S[C.ih]? = some (.dct (hd s.held))
  f : S[C.fa]? = some (.lst (s.falls.map D.int))
  t : S[C.it]? = some (.lst s.trace)
abbrev Lp (C : Lc) (S : Sto) (r : Option Int × Vs) : D → Sto → Prop := fun d S' => d = ansD r.1 ∧ LkAt C S' r.2 ∧ TD.Fr S S' C.L
def Rw.isStep : Rw → Prop
  | .read _ _ => True
  | .set _ _ => True
  | .swap _ _ _ _ => True
  | _ => False
theorem lstep_spec {C : Lc} (ne : C.Ne) {S : Sto} {s : Vs} (W : LkAt C S s) {m d l : Nat} (V : VOk C.sz m s) (Z : SzOk C.sz m) {r : Rw} (hr : Rw.isStep r) (g : r.G m d l) (hl : s.trace.length < 1000000) :
    WR (F_law_step [encR r, .ref C.is, .ref C.ic, .ref C.ih, .ref C.it] S) (Lp C S (r.run C.sz s)) NX := by
  have iz := ins_of W.z
  have ih := ins_of W.h
  have it := ins_of W.t
  have ic := ins_of W.c
  have n1 := ne.a; have n2 := ne.b; have n3 := ne.c; have n4 := ne.d; have n5 := ne.e; have n6 := ne.f; have n7 := ne.g; have n8 := ne.h; have n9 := ne.i; have n10 := ne.j
  unfold F_law_step
  apply wr_dfun rfl
  cases r with
  | read r c =>
    obtain ⟨g1, hc⟩ := (show r ≠ .x ∧ c < m by simpa [Rw.G] using g)
    have m1 := map_at (l := s.cells) (c := c) (by rw [V.len]; exact hc)
    simp [encR, Rw.run, W.z, W.h, W.c, W.t, W.f, Lp, iz, ih, it, ic, n1, n2, n3, n4, n5, n6, n7, n8, n9, n10, n1.symm, n2.symm, n3.symm, n4.symm, n5.symm, n6.symm, n7.symm, n8.symm, n9.symm, n10.symm, m1, hl, -List.getElem?_map, -List.getD_eq_getElem?_getD]
    refine ⟨⟨?_, ?_, ?_, ?_, ?_⟩, (Fr.rfl'.set (by simp [Lc.L]) _).set (by simp [Lc.L]) _⟩
    · simp [n8.symm, n10.symm, W.z]
    · simp [n1.symm, n3.symm, W.c]
    · simp [n5.symm, ih]
    · simp [n4, n6.symm, W.f]
    · simp [n5, it]
  | set c e =>
    obtain ⟨hc, he⟩ := (show c < m ∧ e.G by simpa [Rw.G] using g)
    have m1 := map_at (l := C.sz) (c := c) (by rw [Z.1]; exact hc)
    have m2 := ixN_at (n := s.cells.length) (c := c) (by rw [V.len]; exact hc)
    have hv := lvalue_eq W.h V.held e 8 he.1 (by have := he.2; omega)
    have hz : 0 < C.sz.getD c 0 := by have := (Z.2 c hc).1; omega
    have m3 : ((s.cells.set c (e.val s.held % C.sz.getD c 0)).map D.int)[c]? = some (.int (e.val s.held % C.sz.getD c 0)) := by
      rw [List.getElem?_map, List.getElem?_set_self (by rw [V.len]; exact hc)]
      rfl
    rw [List.map_set] at m3
    simp [encR, Rw.run, W.z, W.h, W.c, W.t, W.f, Lp, iz, ih, it, ic, n1, n2, n3, n4, n5, n6, n7, n8, n9, n10, n1.symm, n2.symm, n3.symm, n4.symm, n5.symm, n6.symm, n7.symm, n8.symm, n9.symm, n10.symm, m1, m2, hl, hv, hz, List.map_set, -List.getElem?_map, -List.getD_eq_getElem?_getD]
    rw [m3]
    simp [encR, Rw.run, W.z, W.h, W.c, W.t, W.f, Lp, iz, ih, it, ic, n1, n2, n3, n4, n5, n6, n7, n8, n9, n10, n1.symm, n2.symm, n3.symm, n4.symm, n5.symm, n6.symm, n7.symm, n8.symm, n9.symm, n10.symm, m1, m2, hl, hv, hz, List.map_set, -List.getElem?_map, -List.getD_eq_getElem?_getD]
    refine ⟨⟨?_, ?_, ?_, ?_, ?_⟩, (Fr.rfl'.set (by simp [Lc.L]) _).set (by simp [Lc.L]) _⟩
    · simp [n7.symm, n10.symm, W.z]
    · simp [n3.symm, ic, List.map_set]
    · simp [n1, n5.symm, W.h]
    · simp [n2, n6.symm, W.f]
    · simp [n3, it]
  | swap r c e f =>
    obtain ⟨g0, hc, he, hf⟩ := (show r ≠ .x ∧ c < m ∧ e.G ∧ f.G by simpa [Rw.G] using g)
    have m0 := map_at (l := s.cells) (c := c) (by rw [V.len]; exact hc)
    have m1 := map_at (l := C.sz) (c := c) (by rw [Z.1]; exact hc)
    have m2 := ixN_at (n := s.cells.length) (c := c) (by rw [V.len]; exact hc)
    have hv := lvalue_eq W.h V.held e 8 he.1 (by have := he.2; omega)
    have hv2 := lvalue_eq W.h V.held f 8 hf.1 (by have := hf.2; omega)
    have hz : 0 < C.sz.getD c 0 := by have := (Z.2 c hc).1; omega
    by_cases hh : s.cells.getD c 0 = e.val s.held
    · simp [encR, Rw.run, W.z, W.h, W.c, W.t, W.f, Lp, iz, ih, it, ic, n1, n2, n3, n4, n5, n6, n7, n8, n9, n10, n1.symm, n2.symm, n3.symm, n4.symm, n5.symm, n6.symm, n7.symm, n8.symm, n9.symm, n10.symm, m0, m1, m2, hl, hv, hv2, hz, hh, List.map_set, -List.getElem?_map, -List.getD_eq_getElem?_getD]
      refine ⟨⟨?_, ?_, ?_, ?_, ?_⟩, ((Fr.rfl'.set (by simp [Lc.L]) _).set (by simp [Lc.L]) _).set (by simp [Lc.L]) _⟩
      · simp [n7.symm, n8.symm, n10.symm, W.z]
      · simp [n1.symm, n3.symm, ic, List.map_set]
      · simp [n1, n5.symm, ih]
      · simp [n2, n4, n6.symm, W.f]
      · simp [n3, n5, it]
    · simp [encR, Rw.run, W.z, W.h, W.c, W.t, W.f, Lp, iz, ih, it, ic, n1, n2, n3, n4, n5, n6, n7, n8, n9, n10, n1.symm, n2.symm, n3.symm, n4.symm, n5.symm, n6.symm, n7.symm, n8.symm, n9.symm, n10.symm, m0, m1, m2, hl, hv, hv2, hz, hh, List.map_set, -List.getElem?_map, -List.getD_eq_getElem?_getD]
      refine ⟨⟨?_, ?_, ?_, ?_, ?_⟩, (Fr.rfl'.set (by simp [Lc.L]) _).set (by simp [Lc.L]) _⟩
      · simp [n8.symm, n10.symm, W.z]
      · simp [n1.symm, n3.symm, W.c]
      · simp [n5.symm, ih]
      · simp [n4, n6.symm, W.f]
      · simp [n3, n5, it]
  | _ => exact hr.elim
end K13

set_option Elab.async false
set_option linter.all false
set_option maxRecDepth 100000
set_option pp.maxSteps 1500
set_option maxHeartbeats 4000000
namespace K13
open PySem PySem.Spec PyProof.Rows L2 TD
theorem Lp.len {C : Lc} {S : Sto} {r : Option Int × Vs} {d : D} {S' : Sto} (h : Lp C S r d S') : S'.length = S.length := h.2.2.1
def LOk (C : Lc) (m : Nat) (HF : DFn) (d : Nat) : Prop := ∀ (rows : List Rw) (l : Nat) (S : Sto) (s : Vs), GL m d l rows → LkAt C S s → VOk C.sz m s → s.trace.length + wkL rows ≤ 100000 → WR (HF [.tup (encL rows), .ref C.is, .ref C.ic, .ref C.ih, .ref C.fa, .ref C.it] S) (Lp C S (runL C.sz rows s)) NX
theorem seq00' (n : Nat) : seqIndex? 0 (n + 1) = some 0 := seq00 n
theorem isNon_ansD (o : Option Int) : TD.isNon (ansD o) = o.isNone := by cases o <;> rfl
theorem ldo_spec {C : Lc} (ne : C.Ne) {m : Nat} (Z : SzOk C.sz m) : ∀ (n d : Nat), d < n → LOk C m (F_law_do n) d
  | 0, d, h => absurd h (Nat.not_lt_zero _)
  | n + 1, d, h => fun rows l S s g W V hl => by
    have hF : ∀ d', d = d' + 1 → LOk C m (F_law_do n) d' := fun d' e => ldo_spec ne Z n d' (by omega)
    have n1 := ne.a; have n2 := ne.b; have n3 := ne.c; have n4 := ne.d; have n5 := ne.e; have n6 := ne.f; have n7 := ne.g; have n8 := ne.h; have n9 := ne.i; have n10 := ne.j
    unfold F_law_do
    apply wr_dfun rfl
    simp
    refine ws_forL (fun ds ρ S' => ∃ rs s' x y z, ds = encL rs ∧ ρ = [some (.tup (encL rows)), some (.ref C.is), some (.ref C.ic), some (.ref C.ih), some (.ref C.fa), some (.ref C.it), x, y, z] ∧ GL m d l rs ∧ LkAt C S' s' ∧ VOk C.sz m s' ∧ s'.trace.length + wkL rs ≤ 100000 ∧ runL C.sz rows s = runL C.sz rs s' ∧ TD.Fr S S' C.L) ?_ ?_ ?_ _ _ _ ⟨rows, s, none, none, none, rfl, rfl, g, W, V, hl, rfl, Fr.rfl'⟩
    · exact fun _ _ _ _ => trivial
    · rintro e ds ρ S' ⟨rs, s', x, y, z, he, rfl, g', W', V', b', i', f'⟩
      cases rs with
      | nil => simp [encL] at he
      | cons r rs =>
        obtain ⟨rfl, rfl⟩ := (show e = encR r ∧ ds = encL rs by simpa [encL] using he)
        obtain ⟨g1, g2⟩ := (show r.G m d l ∧ GL m d l rs by simpa [GL] using g')
        simp only [wkL] at b'
        have iz := ins_of W'.z
        have ih := ins_of W'.h
        have it := ins_of W'.t
        have ic := ins_of W'.c
        have ifa := ins_of W'.f
        have k2 := run_len Z r d l s' g1 V'
        have k3 := run_ok Z r d l s' g1 V'
        have i2 := i'
        simp only [runL] at i2
        cases r with
        | read r c =>
          have k := lstep_spec ne W' V' Z (r := .read r c) trivial g1 (by omega)
          simp only [encR] at k ⊢
          simp
          refine TD.WR.step k ?_
          rintro dd S2 ⟨rfl, W2, f2⟩
          refine ⟨rs, rfl, g2, _, W2, k3, ?_, ?_, f'.trans f2⟩
          · simp only [Rw.wk] at k2 b'; omega
          · rw [i2]; simp [Rw.run, seqV]
        | set c e =>
          have k := lstep_spec ne W' V' Z (r := .set c e) trivial g1 (by omega)
          simp only [encR] at k ⊢
          simp
          refine TD.WR.step k ?_
          rintro dd S2 ⟨rfl, W2, f2⟩
          refine ⟨rs, rfl, g2, _, W2, k3, ?_, ?_, f'.trans f2⟩
          · simp only [Rw.wk] at k2 b'; omega
          · rw [i2]; simp [Rw.run, seqV]
        | swap r c e f =>
          have k := lstep_spec ne W' V' Z (r := .swap r c e f) trivial g1 (by omega)
          simp only [encR] at k ⊢
          simp
          refine TD.WR.step k ?_
          rintro dd S2 ⟨rfl, W2, f2⟩
          refine ⟨rs, rfl, g2, _, W2, k3, ?_, ?_, f'.trans f2⟩
          · simp only [Rw.wk] at k2 b'; omega
          · rw [i2]; simp [Rw.run, seqV]
        | keep r e =>
          obtain ⟨h1, h2⟩ := (show r ≠ .x ∧ e.G by simpa [Rw.G] using g1)
          have hv := lvalue_eq W'.h V'.held e 8 h2.1 (by have := h2.2; omega)
          simp [encR, hv, W'.h]
          refine ⟨rs, rfl, g2, { s' with held := setR s'.held r (e.val s'.held) }, ⟨?_, ?_, ?_, ?_, ?_⟩, k3, ?_, ?_, f'.set (by simp [Lc.L]) _⟩
          · simp [n8.symm, W'.z]
          · simp [n1.symm, W'.c]
          · simp [ih]
          · simp [n4, W'.f]
          · simp [n5, W'.t]
          · simp only [Rw.wk, Rw.run] at k2 b' ⊢; omega
          · rw [i2]; simp [Rw.run, seqV]
        | coin r =>
          cases ef : s'.falls with
          | nil =>
            have hf := W'.f
            rw [ef] at hf
            simp [encR, hf]
            rw [gc_len f'.1, i2]
            simp only [Rw.run, ef, seqV]
            exact ⟨rfl, W', f'⟩
          | cons a fs =>
            have hf := W'.f
            rw [ef] at hf
            have hne : ¬ ((fs.length : Int) + 1 = 0) := by omega
            simp [encR, hf, hne, W'.h, n4.symm, n4, ifa]
            refine ⟨rs, rfl, g2, { s' with held := setR s'.held r a, falls := fs, used := s'.used + 1 }, ⟨?_, ?_, ?_, ?_, ?_⟩, ?_, ?_, ?_, (f'.set (by simp [Lc.L]) _).set (by simp [Lc.L]) _⟩
            · simp [n8.symm, n9.symm, W'.z]
            · simp [n1.symm, n2.symm, W'.c]
            · simp [ih]
            · simp [n4, ifa]
            · simp [n5, n6, W'.t]
            · simp only [Rw.run, ef] at k3; exact k3
            · simp only [Rw.wk] at b' ⊢; omega
            · rw [i2]; simp [Rw.run, seqV, ef]
        | ans e =>
          have h1 : e.G := by simpa [Rw.G] using g1
          have hv := lvalue_eq W'.h V'.held e 8 h1.1 (by have := h1.2; omega)
          simp [encR, hv]
          rw [gc_len f'.1, i2]
          simp only [Rw.run, seqV]
          exact ⟨rfl, W', f'⟩
        | ite e a b =>
          obtain ⟨g1, h2, g3, g4⟩ := (show e.G ∧ 0 < d ∧ GL m (d - 1) l a ∧ GL m (d - 1) l b by simpa [Rw.G] using g1)
          have hv := lvalue_eq W'.h V'.held e 8 g1.1 (by have := g1.2; omega)
          simp only [Rw.wk] at b' k2
          have ka := hF (d - 1) (by omega) a l S' s' g3 W' V' (by omega)
          have kb := hF (d - 1) (by omega) b l S' s' g4 W' V' (by omega)
          by_cases hh : e.val s'.held = 0
          · simp [encR, hv, hh]
            refine TD.WR.step kb ?_
            rintro dd S2 ⟨rfl, W2, f2⟩
            simp only [Rw.run, hh, if_true] at k2 k3 i2
            cases er : runL C.sz b s' with
            | mk o s2 =>
              rw [er] at k2 k3 i2 W2
              cases o with
              | none =>
                simp
                exact ⟨rs, rfl, g2, s2, W2, k3, by simp only at k2; omega, by rw [i2]; rfl, f'.trans f2⟩
              | some v =>
                simp
                rw [gc_len (f2.1.trans f'.1), i2]
                exact ⟨rfl, W2, f'.trans f2⟩
          · simp [encR, hv, hh]
            refine TD.WR.step ka ?_
            rintro dd S2 ⟨rfl, W2, f2⟩
            simp only [Rw.run, hh, if_false] at k2 k3 i2
            cases er : runL C.sz a s' with
            | mk o s2 =>
              rw [er] at k2 k3 i2 W2
              cases o with
              | none =>
                simp
                exact ⟨rs, rfl, g2, s2, W2, k3, by simp only at k2; omega, by rw [i2]; rfl, f'.trans f2⟩
              | some v =>
                simp
                rw [gc_len (f2.1.trans f'.1), i2]
                exact ⟨rfl, W2, f'.trans f2⟩
        | times e b =>
          obtain ⟨g1, h2, g3, g4⟩ := (show e.G ∧ 0 < d ∧ l < 2 ∧ GL m (d - 1) (l + 1) b by simpa [Rw.G] using g1)
          have hv := lvalue_eq W'.h V'.held e 8 g1.1 (by have := g1.2; omega)
          have v := Ex.val_ok V'.held g1.1
          have hr : rngOk (e.val s'.held) := ⟨by omega, by omega⟩
          simp only [Rw.wk] at b' k2
          simp only [Rw.run] at k2 k3 i2
          simp [encR, hv, hr]
          refine ws_forL (fun ts ρ S2 => ∃ o s2 z, ρ = [some (.tup (encL rows)), some (.ref C.is), some (.ref C.ic), some (.ref C.ih), some (.ref C.fa), some (.ref C.it), some (.tup [.str (Str.ofString "times"), encE e, .tup (encL b)]), some (ansD o), z] ∧ LkAt C S2 s2 ∧ VOk C.sz m s2 ∧ TD.Fr S S2 C.L ∧ (o = none → s2.trace.length + ts.length * wkL b ≤ s'.trace.length + 9 * wkL b) ∧ iter (runL C.sz b) (e.val s'.held).toNat s' = (match o with | none => iter (runL C.sz b) ts.length s2 | some a => (some a, s2))) ?_ ?_ ?_ _ _ _ ⟨none, s', z, rfl, W', V', f', ?_, by rw [rgD_len]⟩
          · exact fun _ _ _ _ => trivial
          · rintro t ts ρ S2 ⟨o, s2, z, rfl, W2, V2, f2, b2, j2⟩
            cases o with
            | some a =>
              simp [ansD]
              exact ⟨some a, rfl, s2, W2, V2, f2, (fun h => by cases h), j2⟩
            | none =>
              have b2 := b2 rfl
              rw [List.length_cons, Nat.add_mul, Nat.one_mul] at b2
              have kb := hF (d - 1) (by omega) b (l + 1) S2 s2 g4 W2 V2 (by omega)
              have q2 := runL_len Z b (d - 1) (l + 1) s2 g4 V2
              have q3 := runL_ok Z b (d - 1) (l + 1) s2 g4 V2
              simp
              refine TD.WR.step kb ?_
              rintro dd S3 ⟨rfl, W3, f3⟩
              simp only [List.length_cons, iter] at j2
              cases er : runL C.sz b s2 with
              | mk o s3 =>
                rw [er] at q2 q3 j2 W3
                cases o with
                | none =>
                  refine ⟨none, rfl, s3, W3, q3, f2.trans f3, fun _ => ?_, j2⟩
                  simp only at q2
                  omega
                | some v => exact ⟨some v, rfl, s3, W3, q3, f2.trans f3, fun h => (by cases h), j2⟩
          · rintro ρ S2 ⟨o, s2, z, rfl, W2, V2, f2, b2, j2⟩
            rw [j2] at k2 k3 i2
            cases o with
            | none =>
              simp only [iter] at k2 k3 i2
              have b3 := b2 rfl
              simp only [List.length_nil, Nat.zero_mul, Nat.add_zero] at b3
              simp
              exact ⟨rs, rfl, g2, s2, W2, V2, by omega, by rw [i2]; rfl, f2⟩
            | some v =>
              simp
              rw [gc_len f2.1, i2]
              exact ⟨rfl, W2, f2⟩
          · intro _
            rw [rgD_len]
            have hm : (e.val s'.held).toNat * wkL b ≤ 9 * wkL b := Nat.mul_le_mul_right _ (by omega)
            omega
    · rintro ρ S' ⟨rs, s', x, y, z, he, rfl, g', W', V', b', i', f'⟩
      cases rs with
      | cons r rs => simp [encL] at he
      | nil =>
        simp
        rw [gc_len f'.1, i']
        exact ⟨rfl, W', f'⟩
end K13

set_option Elab.async false
set_option linter.all false
set_option maxRecDepth 100000
set_option pp.maxSteps 1500
set_option maxHeartbeats 4000000
namespace K13
open PySem PySem.Spec PyProof.Rows L2 TD
theorem isint_int {S : Sto} (i : Int) : F_is_integer [.int i] S = .ok (.bl true) S := by
  apply WR.eq
  unfold F_is_integer
  apply wr_dfun rfl
  simp
theorem isint_str {S : Sto} (i : Str) : F_is_integer [.str i] S = .ok (.bl false) S := by
  apply WR.eq
  unfold F_is_integer
  apply wr_dfun rfl
  simp
theorem isint_tup {S : Sto} (i : List D) : F_is_integer [.tup i] S = .ok (.bl false) S := by
  apply WR.eq
  unfold F_is_integer
  apply wr_dfun rfl
  simp
theorem state_of {S : Sto} {sz st : List Int} (h : StOk sz st) : F_is_state_of [.tup (sz.map D.int), .tup (st.map D.int)] S = .ok (.bl true) S := by
  apply WR.eq
  unfold F_is_state_of
  apply wr_dfun rfl
  have hl : (st.length : Int) = (sz.length : Int) := by rw [h.1]
  simp [hl, pairs_ints]
  refine ws_forL (fun ds ρ S' => ∃ ps x y, ds = ps.map (fun p : Int × Int => D.tup [.int p.1, .int p.2]) ∧ (∀ p ∈ ps, 0 ≤ p.2 ∧ p.2 < p.1) ∧ ρ = [some (.tup (sz.map D.int)), some (.tup (st.map D.int)), x, y] ∧ S' = S) ?_ ?_ ?_ _ _ _ ⟨sz.zip st, none, none, rfl, ?_, rfl, rfl⟩
  · exact fun _ _ _ _ => trivial
  · rintro d ds ρ S' ⟨ps, x, y, he, hp, rfl, rfl⟩
    cases ps with
    | nil => simp at he
    | cons p ps =>
      obtain ⟨rfl, rfl⟩ := (show d = D.tup [.int p.1, .int p.2] ∧ ds = ps.map (fun p : Int × Int => D.tup [.int p.1, .int p.2]) by simpa using he)
      obtain ⟨h1, h2⟩ := hp p (List.mem_cons_self ..)
      simp [bTup, bCons, bNil, isint_int, h1, h2]
      exact ⟨ps, rfl, fun a b hq => hp (a, b) (List.mem_cons_of_mem _ hq)⟩
  · rintro ρ S' ⟨ps, x, y, he, hp, rfl, rfl⟩
    simp
  · intro p hp
    obtain ⟨i, hi, e⟩ := List.mem_iff_getElem.mp hp
    simp only [List.length_zip] at hi
    have a := h.2 i (by omega)
    rw [← e, List.getElem_zip]
    simp only [List.getD_eq_getElem?_getD, List.getElem?_eq_getElem (show i < sz.length by omega), List.getElem?_eq_getElem (show i < st.length by omega), Option.getD_some] at a
    exact a
theorem check_state_ok {S : Sto} {C : Vc} (W : VtAt C S) {st : List Int} (h : StOk C.sz st) : F_check_state [.ref C.v, .tup (st.map D.int)] S = .ok .non S := by
  have e : F_is_state [.ref C.v, .tup (st.map D.int)] S = .ok (.bl true) S := by
    apply WR.eq
    unfold F_is_state
    apply wr_dfun rfl
    simp [W.v, vtF, state_of h]
  apply WR.eq
  unfold F_check_state
  apply wr_dfun rfl
  simp [e]
theorem is_call_ok {S : Sto} {C : Vc} (W : VtAt C S) (hn : (C.deeds.map (·.name)).Nodup) {d : Dd} (hd : d ∈ C.deeds) {a : Int} (h0 : 0 ≤ a) (h1 : a < d.ch) : F_is_call [.ref C.v, .tup [.str d.name, .int a]] S = .ok (.bl true) S := by
  have g := tbl_get (f := fun d => D.int d.ch) hn hd
  apply WR.eq
  unfold F_is_call
  apply wr_dfun rfl
  simp [W.v, vtF, W.t, isint_int, g, h0, h1]
end K13

set_option Elab.async false
set_option linter.all false
set_option maxRecDepth 100000
set_option pp.maxSteps 1500
set_option maxHeartbeats 4000000
namespace K13
open PySem PySem.Spec PyProof.Rows L2 TD
theorem app_at (S T : Sto) (k : Nat) : (S ++ T)[S.length + k]? = T[k]? := by
  rw [List.getElem?_append_right (by omega)]
  congr 1
  omega
/-- the walk of a run that begins in S -/
def wcOf (S : Sto) (io : Nat) (cv : D) (sz all : List Int) : Wc := ⟨S.length, S.length + 1, S.length + 1 + 1, io, S.length + 1 + 1 + 1, sz, all, cv⟩
theorem wcOf_ne {S : Sto} {io : Nat} {cv : D} {sz all : List Int} (h : io < S.length) : (wcOf S io cv sz all).Ne := by
  constructor <;> simp only [wcOf] <;> omega
def ansI (o : Option Int) : Int := o.getD 0
/-- what stands behind the call -/
def Rdone (S : Sto) (io : Nat) (cv : D) (sz all : List Int) (r : Option Int × Vs) (S' : Sto) : Prop :=
  S'.length = S.length + 4 ∧ (∀ i : Nat, i < S.length → S'[i]? = S[i]?) ∧ S'[S.length]? = some (.ins "Walk" (wkF (wcOf S io cv sz all) r.2 ++ [(("result" : Str), D.int (ansI r.1))])) ∧ S'[S.length + 1]? = some (.lst (r.2.cells.map D.int))
theorem init_spec {S : Sto} {C : Vc} (W : VtAt C S) (hs : CsOk C.cells) (hD : DsOk C.cells.length C.deeds) {d : Dd} (hm : d ∈ C.deeds) {a : Int} (h0 : 0 ≤ a) (h1 : a < d.ch) {st : List Int} (hst : StOk C.sz st) {io : Nat} {cv : D} {fs : List Int} (iq : io < S.length) (hq : CoAt S cv io fs) (hf : ∀ f ∈ fs, 0 ≤ f ∧ f ≤ 1) :
    WR (F_Walk___init__ [.ref S.length, .ref C.v, .tup (st.map D.int),   .tup [.str d.name, .int a], cv] (S ++ [.ins "Walk" []])) (fun r S' => r = .non ∧ Rdone S io cv C.sz fs (runL C.sz d.rows (start0 st a fs)) S') NX := by
  have g := tbl_get (f := fun d => D.tup (encL d.rows)) hD.1 hm
  obtain ⟨d1, d2, d3, d4, d5⟩ := hD.2 d hm
  have iv := ins_of W.v
  have ib := ins_of W.b
  have nv := ne_old iv
  have nb := ne_old ib
  unfold F_Walk___init__
  apply wr_dfun rfl
  simp [W.v, vtF, iv, ib, W.b, g, keysD, mergeD, putD, nv, -List.lookup_eq_none_iff]
  have ne := wcOf_ne (cv := cv) (sz := C.sz) (all := fs) iq
  have Z := CsOk.sz hs
  have V := start_ok (falls := fs) Z hst h0 (show a ≤ 9 by omega) hf
  have kp := rows_spec ne Z 14 5 (by omega) d.rows 0 (S ++ [.ins "Walk" (wkF (wcOf S io cv C.sz fs) (start0 st a fs)), .lst (st.map D.int), .dct (hd (zeroR a)), .lst []]) (start0 st a fs) d3 ⟨app_at S _ 0, app_at S _ 1, app_at S _ 2, hq.to (List.getElem?_append_left iq), app_at S _ 3, rfl, Nat.zero_le _⟩ V (by simp only [start0, List.length_nil]; omega)
  simp only [hd_zero, wkF, wcOf, start0] at kp
  refine TD.WR.step kp ?_
  rintro dd S3 ⟨rfl, W3, f3⟩
  have w3 : S3[S.length]? = some (.ins "Walk" (wkF (wcOf S io cv C.sz fs) (runL C.sz d.rows (start0 st a fs)).2)) := W3.w
  have c3 : S3[S.length + 1]? = some (.lst ((runL C.sz d.rows (start0 st a fs)).2.cells.map D.int)) := W3.c
  have i3 := ins_of w3
  have l3 : S3.length = S.length + 4 := by
    have := f3.1
    simpa using this
  have o3 : ∀ i : Nat, i < S.length → S3[i]? = S[i]? := fun i hi => by
    rw [f3.2 i (by simp [Wc.L]; omega), List.getElem?_append_left hi]
  have ng : ∀ (S4 : Sto) (fl : List (Str × D)), S4[S.length]? = some (.ins "Walk" fl) → clKV (S.length + 1) fl = false → ¬ gcOk (S ++ [.ins "Walk" []]) S4 := fun S4 fl h1 h2 h => by
    rcases h.2 S.length _ (by simp) h1 with z | z
    · simp at z
      rw [z] at h2
      simp at h2
    · simp [h2] at z
  have fin : ∀ (fl : List (Str × D)), fl = wkF (wcOf S io cv C.sz fs) (runL C.sz d.rows (start0 st a fs)).2 ++ [(("result" : Str), D.int (ansI (runL C.sz d.rows (start0 st a fs)).1))] → WR (gc (S ++ [.ins "Walk" []]) (.ok .non (S3.set S.length (.ins "Walk" fl)))) (fun r S' => r = .non ∧ Rdone S io cv C.sz fs (runL C.sz d.rows (start0 st a fs)) S') NX := fun fl e => by
    rw [gc_not (ng _ fl (set_self i3) (by rw [e]; simp [wkF, wcOf]))]
    refine ⟨rfl, by rw [List.length_set]; exact l3, fun i hi => ?_, ?_, ?_⟩
    · rw [set_ne (by omega)]
      exact o3 i hi
    · rw [set_self i3, e]
    · rw [set_ne (by omega)]
      exact c3
  simp only [start0] at w3 fin i3 ⊢
  cases hr : (runL C.sz d.rows ⟨st, zeroR a, fs, 0, []⟩).1 with
  | none =>
    simp [w3, i3, wkF]
    have k := fin _ rfl
    simp [wkF, hr, ansI] at k
    exact k
  | some v =>
    simp [w3, i3, wkF]
    have k := fin _ rfl
    simp [wkF, hr, ansI] at k
    exact k
end K13

set_option Elab.async false
set_option linter.all false
set_option maxRecDepth 100000
set_option pp.maxSteps 1500
set_option maxHeartbeats 4000000
namespace K13
open PySem PySem.Spec PyProof.Rows L2 TD
def told (S : Sto) (r : Option Int × Vs) : D := .tup [.int (ansI r.1), .tup (r.2.cells.map D.int), .ref (S.length + 1 + 1 + 1), .int r.2.used]
section
variable {S : Sto} {C : Vc} {d : Dd} {a : Int} {st : List Int} {io : Nat} {fs : List Int}
/-! ### the law's call -/
theorem filter_one : ∀ {l : List Dd} {d : Dd}, (l.map (·.name)).Nodup → d ∈ l → l.filter (fun e => decide (e.name = d.name)) = [d]
  | [], d, _, h => by cases h
  | e :: l, d, hn, h => by
    rw [List.map_cons, List.nodup_cons] at hn
    rcases List.mem_cons.mp h with z | z
    · subst z
      rw [List.filter_cons, if_pos (by simp)]
      congr 1
      rw [List.filter_eq_nil_iff]
      intro x hx
      simp
      exact fun q => hn.1 (by rw [← q]; exact List.mem_map.mpr ⟨x, hx, rfl⟩)
    · have : ¬ e.name = d.name := fun q => hn.1 (by rw [q]; exact List.mem_map.mpr ⟨d, z, rfl⟩)
      rw [List.filter_cons, if_neg (by simp [this])]
      exact filter_one hn.2 z
theorem lcall_spec {ci di : Nat} {cells : List (Int × Int)} {deeds : List Dd} (hc : S[ci]? = some (.lst (cells.map encC))) (hd' : S[di]? = some (.lst (deeds.map encDd))) (hs : CsOk cells) (hD : DsOk cells.length deeds) (hm : d ∈ deeds) (h0 : 0 ≤ a) (h1 : a < d.ch) (hst : StOk (cells.map (·.1)) st) (hq : S[io]? = some (.lst (fs.map D.int))) (hf : ∀ f ∈ fs, 0 ≤ f ∧ f ≤ 1) :
    WR (F_law_call [.ref ci, .ref di, .tup (st.map D.int), .tup [.str d.name, .int a], .ref io] S) (fun r S' => (∃ x, r = .tup [.int (ansI (runL (cells.map (·.1)) d.rows (start0 st a fs)).1), .tup ((runL (cells.map (·.1)) d.rows (start0 st a fs)).2.cells.map D.int), .ref x, .int ((fs.length : Int) - ((runL (cells.map (·.1)) d.rows (start0 st a fs)).2.falls.length : Int))]) ∧ ∃ T, S' = S ++ T) NX := by
  unfold F_law_call
  apply wr_dfun rfl
  have ic := ins_of hc
  have id := ins_of hd'
  simp [hc, ic, id]
  refine wr_lcL (fun ds acc S' => ∃ cs cs' : List (Int × Int), cells = cs' ++ cs ∧ ds = cs.map encC ∧ acc = (cs'.map (·.1)).map D.int ∧ S' = S ++ [.lst acc]) ?_ ?_ ?_ _ _ _ ⟨cells, [], rfl, rfl, rfl, rfl⟩
  · rintro ds acc S' ⟨cs, cs', h1, h2, h3, rfl⟩
    simp [hc, ic]
  · rintro e ds acc S' ⟨cs, cs', h1, h2, h3, rfl⟩
    cases cs with
    | nil => simp at h2
    | cons c cs =>
      obtain ⟨rfl, rfl⟩ := (show e = encC c ∧ ds = cs.map encC by simpa using h2)
      have hl : acc.length < 1000000 := by
        rw [h3]
        have := congrArg List.length h1
        simp at this ⊢
        have := hs.2.1
        omega
      simp [wipeD, encC, hl]
      exact ⟨cs, cs' ++ [c], by simp [h1], rfl, by simp [h3]⟩
  · rintro acc S' ⟨cs, cs', h1, h2, h3, rfl⟩
    have hcs : cs = [] := by
      cases cs with
      | nil => rfl
      | cons c cs => simp at h2
    subst hcs
    have hacc : acc = (cells.map (·.1)).map D.int := by rw [h3, h1, List.append_nil]
    subst hacc
    simp [hd', id]
    have e1 : List.length (S ++ [DO.lst ((cells.map (·.1)).map D.int)]) = S.length + 1 := by simp
    refine wr_lcL (fun ds acc S' => ∃ es es' : List Dd, deeds = es' ++ es ∧ ds = es.map encDd ∧ acc = (es'.filter (fun e => decide (e.name = d.name))).map (fun e => D.tup (encL e.rows)) ∧ S' = S ++ [.lst ((cells.map (·.1)).map D.int), .lst acc]) ?_ ?_ ?_ _ _ _ ⟨deeds, [], rfl, rfl, rfl, by simp⟩
    · rintro ds acc S' ⟨es, es', q1, q2, q3, rfl⟩
      refine ⟨?_, ?_⟩
      · simp [hd', id]
      · exact app_at S _ 1
    · rintro e ds acc S' ⟨es, es', q1, q2, q3, rfl⟩
      cases es with
      | nil => simp at q2
      | cons e' es =>
        obtain ⟨rfl, rfl⟩ := (show e = encDd e' ∧ ds = es.map encDd by simpa using q2)
        have hl : acc.length < 1000000 := by
          rw [q3]
          have z0 := congrArg List.length (filter_one hD.1 hm)
          have z1 := congrArg List.length (congrArg (List.filter (fun e => decide (e.name = d.name))) q1)
          simp only [List.filter_append, List.length_append] at z1
          simp only [List.length_map]
          simp only [List.length_cons, List.length_nil] at z0
          omega
        by_cases hn : e'.name = d.name
        · simp [wipeD, encDd, hl, hn]
          exact ⟨es, es' ++ [e'], by simp [q1], rfl, by simp [List.filter_append, hn, q3]⟩
        · simp [wipeD, encDd, hl, hn]
          exact ⟨es, es' ++ [e'], by simp [q1], rfl, by simp [List.filter_append, hn, q3]⟩
    · rintro acc S' ⟨es, es', q1, q2, q3, rfl⟩
      have hes : es = [] := by
        cases es with
        | nil => rfl
        | cons c es => simp at q2
      subst hes
      have hacc : acc = [.tup (encL d.rows)] := by
        rw [List.append_nil] at q1
        rw [q3, ← q1, filter_one hD.1 hm]
        rfl
      subst hacc
      have e2 : (S ++ [DO.lst ((cells.map (·.1)).map D.int), .lst [.tup (encL d.rows)]])[S.length + 1]? = some (.lst [.tup (encL d.rows)]) := app_at S _ 1
      have iq := ins_of hq
      rw [g_ixR, e2]
      simp [keysD, mergeD, putD, iq, hq, -List.map_map]
      obtain ⟨d1, d2, d3, d4, d5⟩ := hD.2 d hm
      have Z := CsOk.sz hs
      have V := start_ok (falls := fs) Z hst h0 (show a ≤ 9 by omega) hf
      have kp := ldo_spec (C := ⟨S.length + 2 + 1, S.length + 2, S.length + 2 + 1 + 1, S.length + 2 + 1 + 1 + 1, cells.map (·.1), S.length⟩) (by constructor <;> simp only <;> omega) Z 6 5 (by omega) d.rows 0 (S ++ [.lst ((cells.map (·.1)).map D.int), .lst [.tup (encL d.rows)], .dct (hd (zeroR a)), .lst (st.map D.int), .lst (fs.map D.int), .lst []]) (start0 st a fs) d3 ⟨app_at S _ 0, app_at S _ 3, app_at S _ 2, app_at S _ 4, app_at S _ 5⟩ V (by simp only [start0, List.length_nil]; omega)
      simp only [hd_zero] at kp
      refine TD.WR.step kp ?_
      rintro dd S3 ⟨rfl, W3, f3⟩
      have c3 : S3[S.length + 2 + 1]? = some (.lst ((runL (cells.map (·.1)) d.rows (start0 st a fs)).2.cells.map D.int)) := W3.c
      have fl3 : S3[S.length + 2 + 1 + 1]? = some (.lst ((runL (cells.map (·.1)) d.rows (start0 st a fs)).2.falls.map D.int)) := W3.f
      have l3 : S3.length = S.length + 6 := by
        have := f3.1
        simpa using this
      have o3 : ∀ i : Nat, i < S.length → S3[i]? = S[i]? := fun i hi => by
        rw [f3.2 i (by simp [Lc.L]; omega), List.getElem?_append_left hi]
      have q3 : S3[io]? = some (.lst (fs.map D.int)) := by rw [o3 io iq, hq]
      cases hr : (runL (cells.map (·.1)) d.rows (start0 st a fs)).1 with
      | none =>
        simp [c3, fl3, q3, -List.map_map]
        rw [gc_open (by simp; omega)]
        exact ⟨⟨S.length + 2 + 1 + 1 + 1, by simp [ansI]⟩, S3.drop S.length, ext_app (by omega) o3⟩
      | some v =>
        simp [c3, fl3, q3, -List.map_map]
        rw [gc_open (by simp; omega)]
        exact ⟨⟨S.length + 2 + 1 + 1 + 1, by simp [ansI]⟩, S3.drop S.length, ext_app (by omega) o3⟩
end
end K13

set_option Elab.async false
set_option linter.all false
set_option maxRecDepth 100000
set_option pp.maxSteps 1500
set_option maxHeartbeats 4000000
namespace K13
open PySem PySem.Spec PyProof.Rows L2 TD
/-- the places from j on -/
def rest (j n : Nat) : List D := rgD (j : Int) (n - j)
theorem rest_cons {j n : Nat} (h : j < n) : rest j n = .int j :: rest (j + 1) n := by
  unfold rest
  have e : n - j = (n - (j + 1)) + 1 := by omega
  rw [e, rgD]
  congr 2
end K13

set_option Elab.async false
set_option linter.all false
set_option maxRecDepth 100000
set_option pp.maxSteps 1500
set_option maxHeartbeats 4000000
namespace K13
open PySem PySem.Spec PyProof.Rows L2 TD
theorem isexpr_eq {S : Sto} : ∀ (e : Ex) (n k : Nat), e.Ok → e.dep < n → e.dep ≤ k → F_is_expression n [encE e, .int k] S = .ok (.bl true) S
  | .num i, n + 1, k, h, _, _ => by
    obtain ⟨h0, h1⟩ := (show 0 ≤ i ∧ i ≤ 9 from h)
    apply WR.eq
    unfold F_is_expression
    apply wr_dfun rfl
    simp [encE, isint_int, h0, h1]
  | .reg r, n + 1, k, _, _, _ => by
    apply WR.eq
    unfold F_is_expression
    apply wr_dfun rfl
    cases r <;> simp [encE, Rg.s, c_REGISTERS]
  | .op o l r, n + 1, k, h, hd, hk => by
    simp only [Ex.dep] at hd hk
    obtain ⟨k', rfl⟩ : ∃ k', k = k' + 1 := ⟨k - 1, by omega⟩
    have e1 := isexpr_eq (S := S) l n k' h.1 (by omega) (by omega)
    have e2 := isexpr_eq (S := S) r n k' h.2 (by omega) (by omega)
    have hz : ¬ ((k' : Int) + 1 = 0) := by omega
    have hk : (k' : Int) + 1 - 1 = k' := by omega
    apply WR.eq
    unfold F_is_expression
    apply wr_dfun rfl
    cases o <;> simp [encE, Sg.s, c_SIGNS, hz, hk, e1, e2]
def BdAt (S : Sto) (bo m rc cc : Nat) : Prop := S[bo]? = some (.ins "Body" [("many_cells", .int m), ("row_count", .int rc), ("coin_count", .int cc)])
theorem part_R {HF : DFn} {S : Sto} {bo : Nat} {r : Rg} (h : r ≠ .x) (dep l : Int) : F_Body_good_part HF [.ref bo, .str (Str.ofString "R"), .str (Str.ofString r.s), .int dep, .int l] S = .ok (.bl true) S := by
  apply WR.eq
  unfold F_Body_good_part
  apply wr_dfun rfl
  cases r <;> first | exact absurd rfl h | simp [Rg.s, c_KEEPERS]
theorem part_C {HF : DFn} {S : Sto} {bo m rc cc c : Nat} (hb : BdAt S bo m rc cc) (h : c < m) (dep l : Int) : F_Body_good_part HF [.ref bo, .str (Str.ofString "C"), .int c, .int dep, .int l] S = .ok (.bl true) S := by
  have hb : S[bo]? = _ := hb
  apply WR.eq
  unfold F_Body_good_part
  apply wr_dfun rfl
  simp [isint_int, hb, h]
theorem part_E {HF : DFn} {S : Sto} {bo : Nat} {e : Ex} (h : e.G) (dep l : Int) : F_Body_good_part HF [.ref bo, .str (Str.ofString "E"), encE e, .int dep, .int l] S = .ok (.bl true) S := by
  have e1 := isexpr_eq (S := S) e 8 6 h.1 (by have := h.2; omega) h.2
  apply WR.eq
  unfold F_Body_good_part
  apply wr_dfun rfl
  simp [c_DEEPEST_EXPRESSION]
  simp at e1
  simp [e1]
/-- what the inner rows answer -/
def BOk (bo m : Nat) (HF : DFn) (d : Nat) : Prop := ∀ (rows : List Rw) (l dep rc cc : Nat) (S : Sto), GL m d l rows → l ≤ 2 → BdAt S bo m rc cc → dep + d ≤ 12 → rc + cntL rows ≤ 2000 → cc + cnsL rows ≤ 4 →
  WR (HF [.ref bo, .tup (encL rows), .int dep, .int l] S) (fun r S' => r = .bl true ∧ BdAt S' bo m (rc + cntL rows) (cc + cnsL rows) ∧ TD.Fr S S' [bo]) NX
theorem part_B {HF : DFn} {S : Sto} {bo m rc cc d l dep : Nat} {b : List Rw} (hF : BOk bo m HF d) (g : GL m d l b) (hl : l ≤ 2) (hb : BdAt S bo m rc cc) (hd : dep + 1 + d ≤ 12) (h1 : rc + cntL b ≤ 2000) (h2 : cc + cnsL b ≤ 4) :
    WR (F_Body_good_part HF [.ref bo, .str (Str.ofString "B"), .tup (encL b), .int dep, .int l] S) (fun r S' => r = .bl true ∧ BdAt S' bo m (rc + cntL b) (cc + cnsL b) ∧ TD.Fr S S' [bo]) NX := by
  have k := hF b l (dep + 1) rc cc S g hl hb (by omega) h1 h2
  have hb : S[bo]? = _ := hb
  unfold F_Body_good_part
  apply wr_dfun rfl
  simp [hb, -List.lookup_eq_none_iff]
  simp at k
  refine TD.WR.step k ?_
  rintro dd S2 ⟨rfl, h3, h4⟩
  rw [gc_len h4.1]
  exact ⟨rfl, h3, h4⟩
theorem grow_spec {bo m d l dep rc cc : Nat} {HF : DFn} (hF : ∀ d', d = d' + 1 → BOk bo m HF d') {r : Rw} (g : r.G m d l) (hl : l ≤ 2) {S : Sto} (hb : BdAt S bo m rc cc) (hd : dep + d ≤ 12) (h1 : rc + r.cnt ≤ 2001) (h2 : cc + r.cns ≤ 4) :
    WR (F_Body_good_row HF [.ref bo, encR r, .int dep, .int l] S) (fun x S' => x = .bl true ∧ BdAt S' bo m (rc + (r.cnt - 1)) (cc + r.cns) ∧ TD.Fr S S' [bo]) NX := by
  have hb' : S[bo]? = _ := hb
  have hi := ins_of hb'
  have hl2 : ¬ (2 < (l : Int)) := by omega
  have hl3 : (l : Int) ≤ 2 := by omega
  unfold F_Body_good_row
  apply wr_dfun rfl
  cases r with
  | read r c =>
    obtain ⟨g1, g2⟩ := (show r ≠ .x ∧ c < m by simpa [Rw.G] using g)
    simp [encR, t_FORMS, hl2, hl3, hb', bTup, bCons, bNil, part_R g1, part_C hb g2, Rw.cnt, Rw.cns, -List.lookup_eq_none_iff]
    exact ⟨hb, Fr.rfl'⟩
  | set c e =>
    obtain ⟨g1, g2⟩ := (show c < m ∧ e.G by simpa [Rw.G] using g)
    simp [encR, t_FORMS, hl2, hl3, hb', bTup, bCons, bNil, part_C hb g1, part_E g2, Rw.cnt, Rw.cns, -List.lookup_eq_none_iff]
    exact ⟨hb, Fr.rfl'⟩
  | swap r c e f =>
    obtain ⟨g0, g1, g2, g3⟩ := (show r ≠ .x ∧ c < m ∧ e.G ∧ f.G by simpa [Rw.G] using g)
    simp [encR, t_FORMS, hl2, hl3, hb', bTup, bCons, bNil, part_R g0, part_C hb g1, part_E g2, part_E g3, Rw.cnt, Rw.cns, -List.lookup_eq_none_iff]
    exact ⟨hb, Fr.rfl'⟩
  | keep r e =>
    obtain ⟨g1, g2⟩ := (show r ≠ .x ∧ e.G by simpa [Rw.G] using g)
    simp [encR, t_FORMS, hl2, hl3, hb', bTup, bCons, bNil, part_R g1, part_E g2, Rw.cnt, Rw.cns, -List.lookup_eq_none_iff]
    exact ⟨hb, Fr.rfl'⟩
  | ans e =>
    have g1 : e.G := by simpa [Rw.G] using g
    simp [encR, t_FORMS, hl2, hl3, hb', bTup, bCons, bNil, part_E g1, Rw.cnt, Rw.cns, -List.lookup_eq_none_iff]
    exact ⟨hb, Fr.rfl'⟩
  | coin r =>
    obtain ⟨g1, g2⟩ := (show r ≠ .x ∧ l = 0 by simpa [Rw.G] using g)
    subst g2
    simp only [Rw.cns] at h2
    have hc : (cc : Int) + 1 ≤ 4 := by omega
    have hc2 : ¬ (4 < (cc : Int) + 1) := by omega
    simp [encR, t_FORMS, hb', hi, hc, hc2, bTup, bCons, bNil, part_R g1, c_MOST_COINS, Rw.cnt, Rw.cns, -List.lookup_eq_none_iff]
    exact ⟨by unfold BdAt; rw [set_self hi]; simp, Fr.rfl'.set (by simp) _⟩
  | ite e a b =>
    obtain ⟨g1, g2, g3, g4⟩ := (show e.G ∧ 0 < d ∧ GL m (d - 1) l a ∧ GL m (d - 1) l b by simpa [Rw.G] using g)
    simp only [Rw.cnt, Rw.cns] at h1 h2 ⊢
    have ka := part_B (dep := dep) (hF (d - 1) (by omega)) g3 hl hb (by omega) (by omega) (by omega)
    simp [encR, t_FORMS, hl2, hl3, hb', bTup, bCons, bNil, part_E g1, -List.lookup_eq_none_iff]
    refine TD.WR.step ka ?_
    rintro dd S2 ⟨rfl, h3, h4⟩
    have kb := part_B (dep := dep) (hF (d - 1) (by omega)) g4 hl h3 (by omega) (by omega) (by omega)
    have h3' : S2[bo]? = _ := h3
    simp [h3', -List.lookup_eq_none_iff]
    refine TD.WR.step kb ?_
    rintro dd S3 ⟨rfl, h5, h6⟩
    simp
    rw [gc_len (h6.1.trans h4.1)]
    exact ⟨rfl, by rw [show rc + (1 + cntL a + cntL b - 1) = rc + cntL a + cntL b by omega, ← Nat.add_assoc]; exact h5, h4.trans h6⟩
  | times e b =>
    obtain ⟨g1, g2, g3, g4⟩ := (show e.G ∧ 0 < d ∧ l < 2 ∧ GL m (d - 1) (l + 1) b by simpa [Rw.G] using g)
    simp only [Rw.cnt, Rw.cns] at h1 h2 ⊢
    have hl4 : ¬ (2 < (l : Int) + 1) := by omega
    have hl5 : (l : Int) + 1 ≤ 2 := by omega
    have kb := part_B (dep := dep) (hF (d - 1) (by omega)) g4 (by omega) hb (by omega) (by omega) (by omega)
    simp [encR, t_FORMS, hl4, hl5, hb', bTup, bCons, bNil, part_E g1, -List.lookup_eq_none_iff]
    simp at kb
    refine TD.WR.step kb ?_
    rintro dd S2 ⟨rfl, h3, h4⟩
    simp
    rw [gc_len h4.1]
    exact ⟨rfl, h3, h4⟩
theorem grows_spec {bo m : Nat} : ∀ (n d : Nat), d < n → BOk bo m (F_Body_good_rows n) d
  | 0, d, h => absurd h (Nat.not_lt_zero _)
  | n + 1, d, h => fun rows l dep rc cc S g hl hb hd h1 h2 => by
    have hF : ∀ d', d = d' + 1 → BOk bo m (F_Body_good_rows n) d' := fun d' e => grows_spec n d' (by omega)
    have hd' : ¬ (12 < (dep : Int)) := by omega
    have hd2 : (dep : Int) ≤ 12 := by omega
    unfold F_Body_good_rows
    apply wr_dfun rfl
    simp [c_DEEPEST_ROW, c_MOST_ROWS, hd', hd2]
    refine ws_forL (fun ds ρ S' => ∃ rs x rc' cc', ds = encL rs ∧ ρ = [some (.ref bo), some (.tup (encL rows)), some (.int dep), some (.int l), x] ∧ GL m d l rs ∧ BdAt S' bo m rc' cc' ∧ rc' + cntL rs = rc + cntL rows ∧ cc' + cnsL rs = cc + cnsL rows ∧ TD.Fr S S' [bo]) ?_ ?_ ?_ _ _ _ ⟨rows, none, rc, cc, rfl, rfl, g, hb, rfl, rfl, Fr.rfl'⟩
    · exact fun _ _ _ _ => trivial
    · rintro e ds ρ S' ⟨rs, x, rc', cc', he, rfl, g', b', e1, e2, f'⟩
      cases rs with
      | nil => simp [encL] at he
      | cons r rs =>
        obtain ⟨rfl, rfl⟩ := (show e = encR r ∧ ds = encL rs by simpa [encL] using he)
        obtain ⟨g1, g2⟩ := (show r.G m d l ∧ GL m d l rs by simpa [GL] using g')
        simp only [cntL, cnsL] at e1 e2
        have hp : 1 ≤ r.cnt := by cases r <;> simp only [Rw.cnt] <;> omega
        have b3 : S'[bo]? = _ := b'
        have hi := ins_of b3
        have b4 : BdAt (S'.set bo (.ins "Body" [("many_cells", .int m), ("row_count", .int ((rc' : Int) + 1)), ("coin_count", .int cc')])) bo m (rc' + 1) cc' := by
          unfold BdAt
          rw [set_self hi]
          simp
        have hr1 : ¬ (2000 < (rc' : Int) + 1) := by omega
        have hr2 : (rc' : Int) + 1 ≤ 2000 := by omega
        have k := grow_spec (dep := dep) hF g1 hl b4 hd (by omega) (by omega)
        simp [b3, hi, hr1, hr2, -List.lookup_eq_none_iff]
        refine TD.WR.step k ?_
        rintro dd S2 ⟨rfl, h3, h4⟩
        exact ⟨rs, rfl, g2, _, _, h3, by omega, by omega, (f'.set (by simp) _).trans h4⟩
    · rintro ρ S' ⟨rs, x, rc', cc', he, rfl, g', b', e1, e2, f'⟩
      cases rs with
      | cons r rs => simp [encL] at he
      | nil =>
        simp only [cntL, cnsL, Nat.add_zero] at e1 e2
        simp
        rw [gc_len f'.1]
        exact ⟨rfl, by rw [← e1, ← e2]; exact b', f'⟩
end K13

set_option Elab.async false
set_option linter.all false
set_option maxRecDepth 100000
set_option pp.maxSteps 1500
set_option maxHeartbeats 4000000
namespace K13
open PySem PySem.Spec PyProof.Rows L2 TD
def NmOk (z : Str) : Prop := 1 ≤ z.length ∧ z.length ≤ 8 ∧ ∀ c ∈ z.cps.toList, c ∈ (Str.ofString "abcdefghijklmnopqrstuvwxyz").cps.toList
theorem isname_eq {S : Sto} {z : Str} (h : NmOk z) : F_is_name [.str z] S = .ok (.bl true) S := by
  obtain ⟨h1, h8, hc⟩ := h
  have h1' : (1 : Int) ≤ (z.length : Int) := by omega
  have h8' : (z.length : Int) ≤ 8 := by omega
  have hm : z.length ≤ 1000000 := by omega
  apply WR.eq
  unfold F_is_name
  apply wr_dfun rfl
  simp [h1', h8', hm, c_LETTERS]
  refine ws_forL (fun ds ρ S' => ∃ cs x, ds = cs.map (fun c => D.str ⟨#[c]⟩) ∧ (∀ c ∈ cs, c ∈ (Str.ofString "abcdefghijklmnopqrstuvwxyz").cps.toList) ∧ ρ = [some (.str z), x] ∧ S' = S) ?_ ?_ ?_ _ _ _ ⟨z.cps.toList, none, rfl, hc, rfl, rfl⟩
  · exact fun _ _ _ _ => trivial
  · rintro e ds ρ S' ⟨cs, x, he, hcs, rfl, rfl⟩
    cases cs with
    | nil => simp at he
    | cons c cs =>
      obtain ⟨rfl, rfl⟩ := (show e = D.str ⟨#[c]⟩ ∧ ds = cs.map (fun c => D.str ⟨#[c]⟩) by simpa using he)
      have hcm := hcs c (List.mem_cons_self ..)
      simp only [Array.mem_toList_iff] at hcm
      simp [hcm]
      exact ⟨cs, rfl, fun c hc => by have := hcs c (List.mem_cons_of_mem _ hc); simpa using this⟩
  · rintro ρ S' ⟨cs, x, he, hcs, rfl, rfl⟩
    simp
theorem gcells_eq {S : Sto} {p : Nat} {cells : List (Int × Int)} (hp : S[p]? = some (.lst (cells.map encC))) (h : CsOk cells) : F_good_cells [.ref p] S = .ok (.bl true) S := by
  obtain ⟨h1, h6, hc⟩ := h
  have h1' : (1 : Int) ≤ (cells.length : Int) := by omega
  have h6' : (cells.length : Int) ≤ 6 := by omega
  apply WR.eq
  unfold F_good_cells
  apply wr_dfun rfl
  simp [hp, h1', h6']
  refine ws_forL (fun ds ρ S' => ∃ cs x, ds = cs.map encC ∧ (∀ c ∈ cs, 1 ≤ c.1 ∧ c.1 ≤ 9 ∧ 0 ≤ c.2 ∧ c.2 < c.1) ∧ ρ = [some (.ref p), x] ∧ S' = S) ?_ ?_ ?_ _ _ _ ⟨cells, none, rfl, hc, rfl, rfl⟩
  · rintro ds ρ S' ⟨cs, x, _, _, _, rfl⟩
    exact hp
  · rintro e ds ρ S' ⟨cs, x, he, hcs, rfl, rfl⟩
    cases cs with
    | nil => simp at he
    | cons c cs =>
      obtain ⟨rfl, rfl⟩ := (show e = encC c ∧ ds = cs.map encC by simpa using he)
      obtain ⟨k1, k2, k3, k4⟩ := hcs c (List.mem_cons_self ..)
      simp [encC, isint_int, k1, k2, k3, k4]
      exact ⟨cs, rfl, fun a b hab => hcs (a, b) (List.mem_cons_of_mem _ hab)⟩
  · rintro ρ S' ⟨cs, x, he, hcs, rfl, rfl⟩
    simp
theorem gheads_eq {S : Sto} {p m : Nat} {deeds : List Dd} (hp : S[p]? = some (.lst (deeds.map encDd))) (h1 : 1 ≤ deeds.length) (h8 : deeds.length ≤ 8) (hD : DsOk m deeds) (hN : ∀ d ∈ deeds, NmOk d.name) : F_good_heads [.ref p, .int 3] S = .ok (.bl true) S := by
  have h1' : (1 : Int) ≤ (deeds.length : Int) := by omega
  have h6' : (deeds.length : Int) ≤ 8 := by omega
  have ip := ins_of hp
  apply WR.eq
  unfold F_good_heads
  apply wr_dfun rfl
  simp [hp, h1', h6', ip]
  refine ws_forL (fun ds ρ S' => ∃ es es' x, ds = es.map encDd ∧ deeds = es' ++ es ∧ ρ = [some (.ref p), some (.int 3), some (.ref S.length), x] ∧ S' = S ++ [.lst (es'.map fun d => D.str d.name)]) ?_ ?_ ?_ _ _ _ ⟨deeds, [], none, rfl, rfl, rfl, rfl⟩
  · rintro ds ρ S' ⟨es, es', x, _, _, _, rfl⟩
    simp [ip, hp]
  · rintro e ds ρ S' ⟨es, es', x, he, hes, rfl, rfl⟩
    cases es with
    | nil => simp at he
    | cons c es =>
      obtain ⟨rfl, rfl⟩ := (show e = encDd c ∧ ds = es.map encDd by simpa using he)
      have hm : c ∈ deeds := by rw [hes]; simp
      obtain ⟨d1, d2, d3, d4, d5⟩ := hD.2 c hm
      have hl : es'.length < 1000000 := by
        have := congrArg List.length hes
        simp at this
        omega
      have hn : ∀ d ∈ es', ¬ d.name = c.name := fun d hd e => by
        have nd := hD.1
        rw [hes, List.map_append, List.nodup_append] at nd
        exact nd.2.2 _ (List.mem_map.mpr ⟨d, hd, rfl⟩) _ (List.mem_map.mpr ⟨c, List.mem_cons_self .., rfl⟩) e
      have hany : (es'.any fun d => d.name == c.name) = false := by
        rw [List.any_eq_false]
        intro d hd
        simp [hn d hd]
      simp [encDd, isname_eq (hN c hm), isint_int, d1, d2, hl, List.any_map, Function.comp_def, hany]
      rw [if_neg (by
        rintro ⟨x, hx, e⟩
        simp only [List.mem_map] at hx
        obtain ⟨d', h', rfl⟩ := hx
        simp at e
        exact hn d' h' e)]
      exact ⟨es, rfl, es' ++ [c], by simp [hes], by simp⟩
  · rintro ρ S' ⟨es, es', x, he, hes, rfl, rfl⟩
    simp
    rw [gc_app Upd.rfl' rfl]
    exact ⟨rfl, rfl⟩
theorem bodyinit {S : Sto} {m : Nat} : F_Body___init__ [.ref S.length, .int m] (S ++ [.ins "Body" []]) = .ok .non (S ++ [.ins "Body" [("many_cells", .int m), ("row_count", .int 0), ("coin_count", .int 0)]]) := by
  apply WR.eq
  unfold F_Body___init__
  apply wr_dfun rfl
  simp
theorem gdeeds_eq {S : Sto} {p m : Nat} {deeds : List Dd} (hp : S[p]? = some (.lst (deeds.map encDd))) (h1 : 1 ≤ deeds.length) (h8 : deeds.length ≤ 8) (hD : DsOk m deeds) (hN : ∀ d ∈ deeds, NmOk d.name) : F_good_deeds [.ref p, .int m] S = .ok (.bl true) S := by
  have ip := ins_of hp
  apply WR.eq
  unfold F_good_deeds
  apply wr_dfun rfl
  simp [gheads_eq hp h1 h8 hD hN, hp]
  refine ws_forL (fun ds ρ S' => ∃ es x y T, ds = es.map encDd ∧ (∀ d ∈ es, d ∈ deeds) ∧ ρ = [some (.ref p), some (.int m), x, y] ∧ S' = S ++ T) ?_ ?_ ?_ _ _ _ ⟨deeds, none, none, [], rfl, fun _ h => h, rfl, by simp⟩
  · rintro ds ρ S' ⟨es, x, y, T, _, _, _, rfl⟩
    simp [ip, hp]
  · rintro e ds ρ S' ⟨es, x, y, T, he, hes, rfl, rfl⟩
    cases es with
    | nil => simp at he
    | cons c es =>
      obtain ⟨rfl, rfl⟩ := (show e = encDd c ∧ ds = es.map encDd by simpa using he)
      have hm : c ∈ deeds := hes c (by simp)
      obtain ⟨d1, d2, d3, d4, d5⟩ := hD.2 c hm
      have b1 : BdAt ((S ++ T) ++ [.ins "Body" [("many_cells", .int m), ("row_count", .int 0), ("coin_count", .int 0)]]) (S ++ T).length m 0 0 := app_at (S ++ T) _ 0
      have hc := cntL_le c.rows
      have k := grows_spec 14 5 (by omega) c.rows 0 1 0 0 _ d3 (by omega) b1 (by omega) (by omega) (by omega)
      have hb := bodyinit (S := S ++ T) (m := m)
      have hb1 : ((S ++ T) ++ [.ins "Body" [("many_cells", .int m), ("row_count", .int 0), ("coin_count", .int 0)]])[(S ++ T).length]? = some (.ins "Body" [("many_cells", .int m), ("row_count", .int 0), ("coin_count", .int 0)]) := app_at (S ++ T) _ 0
      simp only [bName_eq]
      refine ⟨_, rfl, ?_⟩
      simp only [w_sSeq, w_sSet, w_dMake, w_dCons, w_dV, w_dNil, List.set_cons_succ, List.set_cons_zero, List.getElem?_cons_succ, List.getElem?_cons_zero, varP_some, hb, wr_ok, true_and, w_sIf, w_dNot, w_dTst, w_dMeth, optP_ins, hb1, insP_ins, w_dOp, w_dC, encDd, g_ixT, atI_2, optP_some, lookup_str]
      refine ⟨by simp, TD.WR.step k ?_⟩
      rintro dd S2 ⟨rfl, h3, h4⟩
      simp
      refine ⟨es, rfl, fun d hd => hes d (List.mem_cons_of_mem _ hd), S2.drop S.length, ext_app ?_ fun i hi => ?_⟩
      · have := h4.1
        simp at this
        omega
      · rw [h4.2 i (by simp; omega)]
        rw [List.append_assoc, List.getElem?_append_left hi]
  · rintro ρ S' ⟨es, x, y, T, he, hes, rfl, rfl⟩
    simp
    rw [gc_app Upd.rfl' rfl]
    exact ⟨rfl, rfl⟩
theorem hascoin {m : Nat} : ∀ (n d l : Nat) (rows : List Rw) (S : Sto), d < n → GL m d l rows → F_has_coin n [.tup (encL rows)] S = .ok (.bl (hcL rows)) S
  | 0, d, l, rows, S, h, g => absurd h (Nat.not_lt_zero _)
  | n + 1, d, l, rows, S, h, g => by
    apply WR.eq
    unfold F_has_coin
    apply wr_dfun rfl
    simp
    refine ws_forL (fun ds ρ S' => ∃ rs x, ds = encL rs ∧ GL m d l rs ∧ hcL rows = hcL rs ∧ ρ = [some (.tup (encL rows)), x] ∧ S' = S) ?_ ?_ ?_ _ _ _ ⟨rows, none, rfl, g, rfl, rfl, rfl⟩
    · exact fun _ _ _ _ => trivial
    · rintro e ds ρ S' ⟨rs, x, he, g', hh, rfl, rfl⟩
      cases rs with
      | nil => simp [encL] at he
      | cons r rs =>
        obtain ⟨rfl, rfl⟩ := (show e = encR r ∧ ds = encL rs by simpa [encL] using he)
        obtain ⟨g1, g2⟩ := (show r.G m d l ∧ GL m d l rs by simpa [GL] using g')
        cases r with
        | ite e a b =>
          obtain ⟨q1, q2, q3, q4⟩ := (show e.G ∧ 0 < d ∧ GL m (d - 1) l a ∧ GL m (d - 1) l b by simpa [Rw.G] using g1)
          have e1 := hascoin n (d - 1) l a S' (by omega) q3
          have e2 := hascoin n (d - 1) l b S' (by omega) q4
          cases h1 : hcL a <;> cases h2 : hcL b <;> simp [hcL, Rw.hc, h1, h2] at hh <;> simp [encR, e1, e2, h1, h2, hh]
          exact ⟨rs, rfl, g2, rfl⟩
        | times e b =>
          obtain ⟨q1, q2, q3, q4⟩ := (show e.G ∧ 0 < d ∧ l < 2 ∧ GL m (d - 1) (l + 1) b by simpa [Rw.G] using g1)
          have e1 := hascoin n (d - 1) (l + 1) b S' (by omega) q4
          cases h1 : hcL b <;> simp [hcL, Rw.hc, h1] at hh <;> simp [encR, e1, h1, hh]
          exact ⟨rs, rfl, g2, rfl⟩
        | coin r =>
          simp [hcL, Rw.hc] at hh
          simp [encR, hh]
        | _ =>
          simp [hcL, Rw.hc] at hh
          simp [encR, hh]
          exact ⟨rs, rfl, g2, rfl⟩
    · rintro ρ S' ⟨rs, x, he, g', hh, rfl, rfl⟩
      cases rs with
      | cons r rs => simp [encL] at he
      | nil => simp [hh, hcL]
end K13

set_option Elab.async false
set_option linter.all false
set_option maxRecDepth 100000
set_option pp.maxSteps 1500
set_option maxHeartbeats 4000000
namespace K13
open PySem PySem.Spec PyProof.Rows L2 TD
theorem bls_ok : ∀ (bs : List Bool), blsOf (bs.map D.bl) = some bs
  | [] => rfl
  | b :: bs => by simp [blsOf, blOf, bls_ok bs]
theorem g_anyR {Q : D → Sto → Prop} {X : Exc → Sto → Prop} {S : Sto} {n : Nat} : WR (gAny S (.ref n)) Q X ↔ LstP S[n]? (fun xs => OptP (blsOf xs) fun bs => Q (.bl (bs.any id)) S) := by
  simp only [gAny, TD.listOf]
  cases h : S[n]? with
  | none => exact Iff.rfl
  | some o => cases o with
    | lst xs =>
      simp only [lstP_lst]
      cases blsOf xs <;> exact Iff.rfl
    | _ => exact Iff.rfl
theorem vinit {S : Sto} {p q : Nat} {cells : List (Int × Int)} {deeds : List Dd} (hp : S[p]? = some (.lst (cells.map encC))) (hq : S[q]? = some (.lst (deeds.map encDd))) (hc : CsOk cells) (h1 : 1 ≤ deeds.length) (h8 : deeds.length ≤ 8) (hD : DsOk cells.length deeds) (hN : ∀ d ∈ deeds, NmOk d.name) :
    WR (F_Vault___init__ [.ref S.length, .ref p, .ref q] (S ++ [.ins "Vault" []])) (fun r S' => r = .non ∧ ∃ C : Vc, C.v = S.length ∧ C.cells = cells ∧ C.deeds = deeds ∧ S.length < C.ict ∧ S.length < C.ibt ∧ VtAt C S' ∧ S.length ≤ S'.length ∧ ∀ i : Nat, i < S.length → S'[i]? = S[i]?) NX := by
  have ip := ins_of hp
  have iq := ins_of hq
  have np := ne_old ip
  have nq := ne_old iq
  have hp0 : (S ++ [.ins "Vault" []])[p]? = some (.lst (cells.map encC)) := by simp [ip, hp]
  have hq0 : (S ++ [.ins "Vault" []])[q]? = some (.lst (deeds.map encDd)) := by simp [iq, hq]
  have hl1 : cells.length < 1000000 := by have := hc.2.1; omega
  have hl2 : deeds.length < 1000000 := by omega
  unfold F_Vault___init__
  apply wr_dfun rfl
  simp [gcells_eq hp0 hc, gdeeds_eq hq0 h1 h8 hD hN, ip, iq, hp, hq, np, nq, -List.lookup_eq_none_iff]
  refine wr_lcMap' (S ++ [.ins "Vault" [("cell_row", .tup (cells.map encC)), ("deed_row", .tup (deeds.map encDd))]]) (fun c => D.int c.1) (by simp) (by simp) hl1 (fun T => by simp [ip, hp]) (fun c _ T => ⟨_, rfl, by simp [wipeD, encC]⟩) ?_
  simp [ip, iq, hp, hq, np, nq, -List.lookup_eq_none_iff]
  refine wr_lcMap' (S ++ [.ins "Vault" [("cell_row", .tup (cells.map encC)), ("deed_row", .tup (deeds.map encDd)), ("size_row", .tup (cells.map fun c => D.int c.1))], .lst (cells.map fun c => D.int c.1)]) (fun c => D.int c.2) (by simp) (by simp) hl1 (fun T => by simp [ip, hp]) (fun c _ T => ⟨_, rfl, by simp [wipeD, encC]⟩) ?_
  simp [ip, iq, hp, hq, np, nq, -List.lookup_eq_none_iff]
  refine wr_dcMap' (S ++ [.ins "Vault" [("cell_row", .tup (cells.map encC)), ("deed_row", .tup (deeds.map encDd)), ("size_row", .tup (cells.map fun c => D.int c.1)), ("begin", .tup (cells.map fun c => D.int c.2))], .lst (cells.map fun c => D.int c.1), .lst (cells.map fun c => D.int c.2)]) (fun d => D.int d.ch) (by simp) (by simp) hl2 hD.1 (fun T => by simp [iq, hq]) (fun c _ T => ⟨_, rfl, by simp [wipeD, encDd], by simp [wipeD, encDd]⟩) ?_
  simp [ip, iq, hp, hq, np, nq, -List.lookup_eq_none_iff]
  refine wr_dcMap' (S ++ [.ins "Vault" [("cell_row", .tup (cells.map encC)), ("deed_row", .tup (deeds.map encDd)), ("size_row", .tup (cells.map fun c => D.int c.1)), ("begin", .tup (cells.map fun c => D.int c.2)), ("choice_table", .ref (S.length + 3))], .lst (cells.map fun c => D.int c.1), .lst (cells.map fun c => D.int c.2), .dct (deeds.map fun d => (.inr d.name, D.int d.ch))]) (fun d => D.tup (encL d.rows)) (by simp) (by simp) hl2 hD.1 (fun T => by simp [iq, hq]) (fun c _ T => ⟨_, rfl, by simp [wipeD, encDd], by simp [wipeD, encDd]⟩) ?_
  simp [ip, iq, hp, hq, np, nq, -List.lookup_eq_none_iff]
  refine wr_lcMap' (S ++ [.ins "Vault" [("cell_row", .tup (cells.map encC)), ("deed_row", .tup (deeds.map encDd)), ("size_row", .tup (cells.map fun c => D.int c.1)), ("begin", .tup (cells.map fun c => D.int c.2)), ("choice_table", .ref (S.length + 3)), ("body_table", .ref (S.length + 4))], .lst (cells.map fun c => D.int c.1), .lst (cells.map fun c => D.int c.2), .dct (deeds.map fun d => (.inr d.name, D.int d.ch)), .dct (deeds.map fun d => (.inr d.name, D.tup (encL d.rows)))]) (fun d => D.bl (hcL d.rows)) (by simp) (by simp) hl2 (fun T => by simp [iq, hq]) (fun c hc T => ⟨_, rfl, by simp [wipeD, encDd, hascoin 14 5 0 c.rows _ (by omega) (hD.2 c hc).2.2.1]⟩) ?_
  simp [ip, iq, hp, hq, np, nq, -List.lookup_eq_none_iff]
  rw [g_anyR, app_at S _ 5]
  simp only [List.getElem?_cons_succ, List.getElem?_cons_zero, lstP_lst]
  rw [show deeds.map (fun d => D.bl (hcL d.rows)) = (deeds.map fun d => hcL d.rows).map D.bl by rw [List.map_map]; rfl, bls_ok]
  simp [-List.any_map]
  rw [gc_not]
  · refine ⟨rfl, ⟨S.length, S.length + 3, S.length + 4, cells, deeds, (deeds.map fun d => hcL d.rows).any id⟩, rfl, rfl, rfl, by simp, by simp, ⟨?_, ?_, ?_⟩, by simp, fun i hi => List.getElem?_append_left hi⟩
    · show (S ++ _)[S.length]? = _
      rw [List.getElem?_append_right (Nat.le_refl _), Nat.sub_self]
      simp [vtF, Vc.sz, List.map_map, Function.comp_def]
    · exact app_at S _ 3
    · exact app_at S _ 4
  · intro h
    have h1 : (S ++ [DO.ins (Str.ofString "Vault") [(Str.ofString "cell_row", D.tup (List.map encC cells))]])[S.length]? = some (DO.ins (Str.ofString "Vault") [(Str.ofString "cell_row", D.tup (List.map encC cells))]) := app_at S _ 0
    have z := h.2 S.length _ (by simp) (app_at S _ 0)
    rcases z with z | z
    · have y : (S ++ [DO.ins (Str.ofString "Vault") []])[S.length]? = some (DO.ins (Str.ofString "Vault") []) := app_at S _ 0
      rw [y] at z
      cases z
    · simp at z
end K13

set_option Elab.async false
set_option linter.all false
set_option maxRecDepth 100000
set_option pp.maxSteps 1500
set_option maxHeartbeats 4000000
namespace K13
open PySem PySem.Spec PyProof.Rows L2 TD
theorem gc_fresh {S S' : Sto} (h : S'.length = S.length + 1) : gc S (.ok (.ref S.length) S') = .ok (.ref S.length) S' := by
  have e1 : clD S.length (.ref S.length) = false := by simp
  have hm : S.length < S'.length := by omega
  have e2 : S'[S.length]? = some S'[S.length] := List.getElem?_eq_getElem hm
  simp only [gc, e1, e2]
  split
  · simp only [Bool.false_eq_true, if_false]
    split
    · congr 1
      have e3 : S' = S'.take S.length ++ S'.drop S.length := (List.take_append_drop _ _).symm
      conv => rhs; rw [e3]
      congr 1
      rw [List.drop_eq_getElem_cons hm, List.drop_eq_nil_of_le (by omega)]
    · rfl
  · rfl
theorem gc_take {S S' : Sto} {d : D} (hl : S.length ≤ S'.length) (hk : ∀ (i : Nat) (o : DO), i < S.length → S'[i]? = some o → S[i]? = some o ∨ clO S.length o = true) (hd : clD S.length d = true) : gc S (.ok d S') = .ok d (S'.take S.length) := by
  simp only [gc]
  rw [if_pos ⟨hl, hk⟩, if_pos hd]
theorem ix_at {s : String} {l : List Nat} (h : (Str.ofString s).cps.toList = l) {k : Int} (h0 : 0 ≤ k) (h1 : k < l.length) : ∃ c, atI (Str.ofString s).cps.toList k = some c ∧ c ∈ l := by
  rw [atI_nn _ h0, h]
  have hk : k.toNat < l.length := by omega
  exact ⟨l[k.toNat], List.getElem?_eq_getElem hk, List.getElem_mem hk⟩
theorem ix_keep {k : Int} (h0 : 0 ≤ k) (h1 : k < 4) : ∃ c, atI (Str.ofString "abcd").cps.toList k = some c ∧ ∃ r : Rg, r ≠ .x ∧ (⟨#[c]⟩ : Str) = Str.ofString r.s := by
  obtain ⟨c, e, hc⟩ := ix_at (s := "abcd") (l := [97, 98, 99, 100]) (by decide) h0 h1
  refine ⟨c, e, ?_⟩
  simp only [List.mem_cons, List.mem_nil_iff, or_false] at hc
  rcases hc with rfl | rfl | rfl | rfl
  · exact ⟨.a, by decide, one_str "a" _ (by decide)⟩
  · exact ⟨.b, by decide, one_str "b" _ (by decide)⟩
  · exact ⟨.c, by decide, one_str "c" _ (by decide)⟩
  · exact ⟨.d, by decide, one_str "d" _ (by decide)⟩
theorem ix_reg {k : Int} (h0 : 0 ≤ k) (h1 : k < 5) : ∃ c, atI (Str.ofString "abcdx").cps.toList k = some c ∧ ∃ r : Rg, (⟨#[c]⟩ : Str) = Str.ofString r.s := by
  obtain ⟨c, e, hc⟩ := ix_at (s := "abcdx") (l := [97, 98, 99, 100, 120]) (by decide) h0 h1
  refine ⟨c, e, ?_⟩
  simp only [List.mem_cons, List.mem_nil_iff, or_false] at hc
  rcases hc with rfl | rfl | rfl | rfl | rfl
  · exact ⟨.a, one_str "a" _ (by decide)⟩
  · exact ⟨.b, one_str "b" _ (by decide)⟩
  · exact ⟨.c, one_str "c" _ (by decide)⟩
  · exact ⟨.d, one_str "d" _ (by decide)⟩
  · exact ⟨.x, one_str "x" _ (by decide)⟩
theorem ix_sig {k : Int} (h0 : 0 ≤ k) (h1 : k < 5) : ∃ c, atI (Str.ofString "+-*=<").cps.toList k = some c ∧ ∃ r : Sg, (⟨#[c]⟩ : Str) = Str.ofString r.s := by
  obtain ⟨c, e, hc⟩ := ix_at (s := "+-*=<") (l := [43, 45, 42, 61, 60]) (by decide) h0 h1
  refine ⟨c, e, ?_⟩
  simp only [List.mem_cons, List.mem_nil_iff, or_false] at hc
  rcases hc with rfl | rfl | rfl | rfl | rfl
  · exact ⟨.add, one_str "+" _ (by decide)⟩
  · exact ⟨.sub, one_str "-" _ (by decide)⟩
  · exact ⟨.mul, one_str "*" _ (by decide)⟩
  · exact ⟨.eq, one_str "=" _ (by decide)⟩
  · exact ⟨.lt, one_str "<" _ (by decide)⟩
theorem l_abcd : (Str.ofString "abcd").length ≤ 1000000 := by decide
theorem l_abcdx : (Str.ofString "abcdx").length ≤ 1000000 := by decide
theorem l_sig : (Str.ofString "+-*=<").length ≤ 1000000 := by decide
theorem l_let : (Str.ofString "abcdefghijklmnopqrstuvwxyz").length ≤ 1000000 := by decide
theorem Pl.len {S S' : Sto} {p : Nat} (h : TD.Fr S S' [p]) : S'.length = S.length := h.1
/-- a fresh pool -/
def PlO (o : DO) : Prop := ∃ a b c : Int, o = .lst [.int a, .int b, .int c] ∧ 0 ≤ a ∧ 0 ≤ b ∧ b < 1000000000000
theorem PlO.mk {a b c : Int} (ha : 0 ≤ a) (hb : 0 ≤ b) (hb2 : b < 1000000000000) : PlO (.lst [.int a, .int b, .int c]) := ⟨a, b, c, rfl, ha, hb, hb2⟩
theorem pool_spec {S : Sto} {ns : List Int} {k : Int} (h0 : 0 ≤ k) (h1 : k ≤ 100) : WR (F_law_pool [.fls (ns.map D.int), .int k] S) (fun d S' => d = .ref S.length ∧ ∃ o, PlO o ∧ S' = S ++ [o]) NX := by
  unfold F_law_pool
  apply wr_dfun rfl
  have mk : TD.MulOk 1009 k := mulOkL (by omega) (by omega)
  by_cases hl : ns.length = 0
  · simp [hl, mk]
    exact PlO.mk (by omega) (by omega) (by omega)
  · have hl' : ¬ ((ns.length : Int) = 0) := by omega
    have hl2 : ¬ ns = [] := fun e => hl (by rw [e]; rfl)
    have hp : (0 : Int) < ns.length := by omega
    have a0 := Int.emod_nonneg k (show (ns.length : Int) ≠ 0 by omega)
    have a1 := Int.emod_lt_of_pos k hp
    have e1 : atI (ns.map D.int) (k % (ns.length : Int)) = some (.int (ns.getD (k % (ns.length : Int)).toNat 0)) := by
      rw [atI_nn _ a0]
      exact map_at (by omega)
    generalize ns.getD (k % (ns.length : Int)).toNat 0 = v at e1
    simp [hl', hl2, hp, e1, mk]
    have b0 := Int.emod_nonneg (if v < 0 then -v else v) (show (2147483629 : Int) ≠ 0 by omega)
    have b1 := Int.emod_lt_of_pos (if v < 0 then -v else v) (show (0 : Int) < 2147483629 by omega)
    have c0 : 0 ≤ (if v < 0 then (1 : Int) else 0) ∧ (if v < 0 then (1 : Int) else 0) ≤ 1 := by split <;> omega
    have d0 : 0 ≤ (if v < 0 then -v else v) := by split <;> omega
    have hl0 : 0 < ns.length := by omega
    by_cases hv : v < 0
    · simp only [hv, if_true] at b0 b1 ⊢
      repeat' (first | split | refine ⟨hl0, ?_⟩ | exact PlO.mk (by omega) (by omega) (by omega))
    · simp only [hv, if_false] at b0 b1 ⊢
      repeat' (first | split | refine ⟨hl0, ?_⟩ | exact PlO.mk (by omega) (by omega) (by omega))
theorem e_spec : ∀ (n k : Nat) (S : Sto) (p : Nat), k < n → Pl S p → WR (F_law_e n [.ref p, .int k] S) (fun d S' => ∃ e : Ex, d = encE e ∧ e.Ok ∧ e.dep ≤ k ∧ Pl S' p ∧ TD.Fr S S' [p]) NX
  | 0, k, S, p, h, _ => absurd h (Nat.not_lt_zero _)
  | n + 1, k, S, p, h, hp => by
    unfold F_law_e
    apply wr_dfun rfl
    simp
    refine TD.WR.step (draw hp (m := 4) (by omega) (by omega)) ?_
    rintro _ S1 ⟨i, rfl, i0, i1, p1, f1⟩
    have num : WR (F_law_draw [.ref p, .int 10] S1) (fun d S' => WR (gc S (.ok d S')) (fun d S' => ∃ e : Ex, d = encE e ∧ e.Ok ∧ e.dep ≤ k ∧ Pl S' p ∧ TD.Fr S S' [p]) NX) (fun x S1 => WR (gc S (.exc x S1)) (fun d S' => ∃ e : Ex, d = encE e ∧ e.Ok ∧ e.dep ≤ k ∧ Pl S' p ∧ TD.Fr S S' [p]) NX) := by
      refine TD.WR.step (draw p1 (m := 10) (by omega) (by omega)) ?_
      rintro _ S2 ⟨j, rfl, j0, j1, p2, f2⟩
      rw [gc_len (f2.1.trans f1.1)]
      exact ⟨.num j, rfl, ⟨j0, by omega⟩, Nat.zero_le _, p2, f1.trans f2⟩
    by_cases c1 : i = 0 ∨ (i = 3 ∧ k = 0)
    · rcases c1 with rfl | ⟨rfl, rfl⟩
      · simpa using num
      · simpa using num
    · have hi0 : ¬ i = 0 := fun e => c1 (.inl e)
      by_cases c2 : i < 3
      · have hi3 : ¬ i = 3 := by omega
        simp [hi0, hi3, c2]
        refine TD.WR.step (draw p1 (m := 5) (by omega) (by omega)) ?_
        rintro _ S2 ⟨j, rfl, j0, j1, p2, f2⟩
        obtain ⟨c, e1, r, e2⟩ := ix_reg j0 j1
        simp [e1, e2, l_abcdx]
        rw [gc_len (f2.1.trans f1.1)]
        exact ⟨.reg r, rfl, trivial, Nat.zero_le _, p2, f1.trans f2⟩
      · have hi3 : i = 3 := by omega
        subst hi3
        obtain ⟨k', rfl⟩ : ∃ k', k = k' + 1 := ⟨k - 1, by omega⟩
        have hz : ¬ ((k' : Int) + 1 = 0) := by omega
        simp [hz]
        refine TD.WR.step (draw p1 (m := 5) (by omega) (by omega)) ?_
        rintro _ S2 ⟨j, rfl, j0, j1, p2, f2⟩
        obtain ⟨c, e1, r, e2⟩ := ix_sig j0 j1
        have hk3 : ((k' : Nat) : Int) + 1 - 1 = (k' : Nat) := by omega
        simp [e1, e2, l_sig, hk3]
        refine TD.WR.step (e_spec n k' S2 p (by omega) p2) ?_
        rintro _ S3 ⟨x, rfl, x1, x2, p3, f3⟩
        refine TD.WR.step (e_spec n k' S3 p (by omega) p3) ?_
        rintro _ S4 ⟨y, rfl, y1, y2, p4, f4⟩
        rw [gc_len (f4.1.trans (f3.1.trans (f2.1.trans f1.1)))]
        exact ⟨.op r x y, rfl, ⟨x1, y1⟩, by simp only [Ex.dep]; omega, p4, f1.trans (f2.trans (f3.trans f4))⟩
end K13

set_option Elab.async false
set_option linter.all false
set_option maxRecDepth 100000
set_option pp.maxSteps 1500
set_option maxHeartbeats 8000000
namespace K13
open PySem PySem.Spec PyProof.Rows L2 TD
/-- the run with these falls -/
def Rf (sz : List Int) (rows : List Rw) (st : List Int) (a : Int) (f : List Int) : Option Int × Vs := runL sz rows (start0 st a f)
def lk (sz : List Int) (rows : List Rw) (st : List Int) (a : Int) (f : List Int) : Bool := decide ((Rf sz rows st a f).1 = some (-1))
/-- an outcome -/
def oc (sz : List Int) (rows : List Rw) (st : List Int) (a : Int) (f : List Int) : D := .tup [.tup (f.map D.int), .int (ansI (Rf sz rows st a f).1), .tup ((Rf sz rows st a f).2.cells.map D.int)]
theorem cl_oc (n : Nat) (sz : List Int) (rows : List Rw) (st : List Int) (a : Int) : ∀ fs : List (List Int), clDs n (fs.map (oc sz rows st a)) = true
  | [] => rfl
  | f :: fs => by simp [oc, cl_oc n sz rows st a fs]
theorem pop_last {α : Type} : ∀ {l : List α}, l ≠ [] → ∃ s x, l = s ++ [x]
  | [], h => absurd rfl h
  | [x], _ => ⟨[], x, rfl⟩
  | x :: y :: l, _ => by
    obtain ⟨s, z, e⟩ := pop_last (l := y :: l) (by simp)
    exact ⟨x :: s, z, by rw [e]; rfl⟩
theorem g_pop {Q : D → Sto → Prop} {X : Exc → Sto → Prop} {S : Sto} {n : Nat} {s : List D} {x : D} (h : S[n]? = some (.lst (s ++ [x]))) : WR (mPop S (.ref n) []) Q X ↔ Q x (S.set n (.lst s)) := by
  simp [mPop, h]
theorem add_lst {S : Sto} {n m : Nat} {a b : List D} (hn : S[n]? = some (.lst a)) (hm : S[m]? = some (.lst b)) (hl : a.length + b.length ≤ 1000000) : gAdd S (.ref n) (.ref m) = .ok (.ref S.length) (S ++ [.lst (a ++ b)]) := by
  simp only [gAdd, hn, hm]
  rw [if_pos hl]
theorem len_cost : ∀ l : List (List Int), l.length ≤ cost l
  | [] => Nat.le_refl _
  | f :: l => by
    have := ct_pos (4 - f.length)
    have := len_cost l
    simp only [List.length_cons, cost]
    omega
theorem ansI_lack {o : Option Int} : ansI o = -1 ↔ o = some (-1) := by
  cases o with
  | none => simp [ansI]
  | some v => simp [ansI]
/-- a new thing is what comes out -/
theorem gc_mine {S S' : Sto} {o : DO} (hl : S.length < S'.length) (h : ∀ i : Nat, i < S.length → S'[i]? = S[i]?) (ho : S'[S.length]? = some o) (cl : clO S.length o = true) : gc S (.ok (.ref S.length) S') = .ok (.ref S.length) (S ++ [o]) := by
  have e := ext_app (by omega) h
  rw [e] at ho ⊢
  exact gc_new Upd.rfl' (Nat.le_refl _) ho cl
section
variable {S : Sto} {C : Vc} {d : Dd} {a : Int} {st : List Int}
theorem no_lack4 (hs : CsOk C.cells) (hD : DOk C.cells.length d) (h0 : 0 ≤ a) (h1 : a < d.ch) (hst : StOk C.sz st) {f : List Int} (hf : ∀ x ∈ f, 0 ≤ x ∧ x ≤ 1) (h4 : f.length = 4) : lk C.sz d.rows st a f = false := by
  obtain ⟨d1, d2, d3, d4, d5⟩ := hD
  have Z := CsOk.sz hs
  have V := start_ok (falls := f) Z hst h0 (show a ≤ 9 by omega) hf
  have := (runL_fit Z d.rows 5 0 (start0 st a f) d3 V (by show _ ≤ f.length; omega)).1
  unfold lk Rf Vc.sz
  exact decide_eq_false this
theorem outsof_spec (W : VtAt C S) (hs : CsOk C.cells) (hD : DsOk C.cells.length C.deeds) (hm : d ∈ C.deeds) (h0 : 0 ≤ a) (h1 : a < d.ch) (hst : StOk C.sz st) :
    F_outcomes_of [.ref C.v, .tup (st.map D.int), .tup [.str d.name, .int a]] S = .ok (.ref S.length) (S ++ [.lst ((lv (lk C.sz d.rows st a) 4 []).map (oc C.sz d.rows st a))]) := by
  have iv := ins_of W.v
  have iv' : C.v < S.length := iv
  have hl := fun (f : List Int) (hf : ∀ x ∈ f, 0 ≤ x ∧ x ≤ 1) (h4 : f.length = 4) => no_lack4 hs (hD.2 d hm) h0 h1 hst hf h4
  generalize hq : lk C.sz d.rows st a = q at hl ⊢
  have q : WR (F_outcomes_of [.ref C.v, .tup (st.map D.int), .tup [.str d.name, .int a]] S) (fun r S' => r = .ref S.length ∧ S' = S ++ [.lst ((lv q 4 []).map (oc C.sz d.rows st a))]) NX := by
    unfold F_outcomes_of
    apply wr_dfun rfl
    simp
    have hall := lv_all (q := q) (fun f h z => hl f z.2.1 h) 4 [] rfl Nd.nil
    refine ws_whileL (fun n ρ S' => ∃ (done stk : List (List Int)) (x y : Option D), ρ = [some (.ref C.v), some (.tup (st.map D.int)), some (.tup [.str d.name, .int a]), some (.ref S.length), some (.ref (S.length + 1)), x, y] ∧ cost stk + 1 ≤ n ∧ cost stk ≤ 31 ∧ done ++ pend q stk = lv q 4 [] ∧ (∀ f ∈ stk, Nd q f) ∧ S.length + 2 ≤ S'.length ∧ (∀ i : Nat, i < S.length → S'[i]? = S[i]?) ∧ S'[S.length]? = some (.lst (done.map (oc C.sz d.rows st a))) ∧ S'[S.length + 1]? = some (.lst (stk.map fun f => .tup (f.map D.int)))) ?_ ?_ _ _ _ ⟨[], [[]], none, none, rfl, by decide, by decide, by simp [pend], fun f hf => by simp at hf; rw [hf]; exact Nd.nil, by simp, fun i hi => List.getElem?_append_left hi, app_at S _ 0, app_at S _ 1⟩
    · rintro n ρ S' ⟨done, stk, x, y, rfl, c1, c2, hp, hn, hl', ho, e0, e1⟩
      by_cases hs0 : stk = []
      · subst hs0
        simp [e1]
        simp [pend] at hp
        rw [gc_mine (by omega) ho e0 (cl_oc _ _ _ _ _ _), hp]
        exact ⟨rfl, rfl⟩
      · obtain ⟨s, f, rfl⟩ := pop_last hs0
        have e1' : S'[S.length + 1]? = some (.lst ((s.map fun f => D.tup (f.map D.int)) ++ [.tup (f.map D.int)])) := by simpa using e1
        simp [e1, g_pop e1']
        have a0 : (S'.set (S.length + 1) (.lst (s.map fun f => D.tup (f.map D.int))))[S.length]? = some (.lst (done.map (oc C.sz d.rows st a))) := by rw [set_ne (by omega)]; exact e0
        have a1 : (S'.set (S.length + 1) (.lst (s.map fun f => D.tup (f.map D.int))))[S.length + 1]? = some (.lst (s.map fun f => D.tup (f.map D.int))) := set_at e1
        have ao : ∀ i : Nat, i < S.length → (S'.set (S.length + 1) (.lst (s.map fun f => D.tup (f.map D.int))))[i]? = S[i]? := fun i hi => by rw [set_ne (by omega)]; exact ho i hi
        have al : (S'.set (S.length + 1) (.lst (s.map fun f => D.tup (f.map D.int)))).length = S'.length := List.length_set ..
        rw [← al] at hl' ⊢
        generalize S'.set (S.length + 1) (.lst (s.map fun f => D.tup (f.map D.int))) = S1 at a0 a1 ao hl' ⊢
        clear al e0 e1 e1' ho
        have W1 : VtAt C S1 := ⟨by rw [ao _ (get_lt W.v)]; exact W.v, by rw [ao _ (get_lt W.t)]; exact W.t, by rw [ao _ (get_lt W.b)]; exact W.b⟩
        have nf : Nd q f := hn f (by simp)
        refine TD.WR.step (init_spec W1 hs hD hm h0 h1 hst (io := C.v) (by omega) (.inl rfl) nf.2.1) ?_
        rintro _ S3 ⟨rfl, l3, o3, w3, c3⟩
        have b0 : S3[S.length]? = some (.lst (done.map (oc C.sz d.rows st a))) := by rw [o3 _ (by omega)]; exact a0
        have b1 : S3[S.length + 1]? = some (.lst (s.map fun f => D.tup (f.map D.int))) := by rw [o3 _ (by omega)]; exact a1
        have bo : ∀ i : Nat, i < S.length → S3[i]? = S[i]? := fun i hi => by rw [o3 _ (by omega)]; exact ao i hi
        have hf4 : f.length ≤ 4 := nf.1
        have hsl := len_cost (s ++ [f])
        simp at hsl
        have hdl : done.length ≤ 16 := by
          have := hall.2.2
          rw [← hp, List.length_append] at this
          omega
        have hqf : ansI (runL C.sz d.rows (start0 st a f)).1 = -1 ↔ q f = true := by
          rw [ansI_lack, ← hq]
          unfold lk Rf
          exact decide_eq_true_iff.symm
        have j0 := ins_of b0
        have j1 := ins_of b1
        have hn3 : ¬ S.length + 1 = S.length := by omega
        have hn4 : ¬ S.length = S.length + 1 := by omega
        cases hv : q f with
        | true =>
          have h4 : f.length < 4 := by
            rcases Nat.lt_or_ge f.length 4 with z | z
            · exact z
            · rw [hl f nf.2.1 (by omega)] at hv
              cases hv
          have hans := hqf.mpr hv
          simp [w3, wkF, hans, b1, j1]
          have cl := cost_lack (s := s) h4
          refine ⟨by omega, by omega, by omega, by omega, done, s ++ [f ++ [1], f ++ [0]], by omega, by omega, by rw [← pend_lack hv h4]; exact hp, fun g hg => ?_, by omega, fun i hi => by rw [set_ne (by omega)]; exact bo i hi, b0, by simp⟩
          rcases List.mem_append.mp hg with z | z
          · exact hn g (by simp [z])
          · simp only [List.mem_cons, List.mem_nil_iff, or_false] at z
            rcases z with rfl | rfl
            · exact nf.snoc hv h4 (by decide) (by decide)
            · exact nf.snoc hv h4 (by decide) (by decide)
        | false =>
          have hans : ¬ ansI (runL C.sz d.rows (start0 st a f)).1 = -1 := fun z => by
            rw [hqf.mp z] at hv
            cases hv
          simp [w3, c3, wkF, wcOf, hans, b0, j0, -List.map_append]
          have cd := cost_done (s := s) (f := f)
          refine ⟨by omega, done ++ [f], s, by omega, by omega, by rw [← hp, pend_done hv]; simp, fun g hg => hn g (by simp [hg]), by omega, fun i hi => by rw [set_ne (by omega)]; exact bo i hi, by simp [oc, Rf], b1⟩
    · rintro ρ S' ⟨done, stk, x, y, rfl, c1, _⟩
      omega
  cases e : F_outcomes_of [.ref C.v, .tup (st.map D.int), .tup [.str d.name, .int a]] S with
  | ok r S' =>
    rw [e] at q
    obtain ⟨rfl, rfl⟩ := q
    rfl
  | exc x S' => rw [e] at q; exact q.elim
  | bad => rw [e] at q; exact q.elim
def SE (S S' : Sto) (s : List (Nat × List Int)) : Prop := ∀ f ∈ s, S'[f.1]? = some (.lst (f.2.map D.int)) ∧ f.1 ≠ S.length ∧ f.1 ≠ S.length + 2
theorem SE.app {S S' : Sto} {s : List (Nat × List Int)} (h : SE S S' s) (T : Sto) : SE S (S' ++ T) s := fun f hf => ⟨by rw [List.getElem?_append_left (get_lt (h f hf).1)]; exact (h f hf).1, (h f hf).2⟩
theorem SE.set {S S' : Sto} {s : List (Nat × List Int)} (h : SE S S' s) {p : Nat} (hp : p = S.length ∨ p = S.length + 2) (o : DO) : SE S (S'.set p o) s := fun f hf => ⟨by
  rw [set_ne (by have := (h f hf).2; rcases hp with rfl | rfl <;> omega)]
  exact (h f hf).1, (h f hf).2⟩
theorem SE.snoc {S S' : Sto} {s : List (Nat × List Int)} (h : SE S S' s) {r : Nat} {f : List Int} (hr : S'[r]? = some (.lst (f.map D.int))) (h1 : r ≠ S.length) (h2 : r ≠ S.length + 2) : SE S S' (s ++ [(r, f)]) := fun g hg => by
  rcases List.mem_append.mp hg with z | z
  · exact h g z
  · simp only [List.mem_singleton] at z
    subst z
    exact ⟨hr, h1, h2⟩
theorem louts_spec {ci di : Nat} {cells : List (Int × Int)} {deeds : List Dd} (hc : S[ci]? = some (.lst (cells.map encC))) (hd' : S[di]? = some (.lst (deeds.map encDd))) (hs : CsOk cells) (hD : DsOk cells.length deeds) (hm : d ∈ deeds) (h0 : 0 ≤ a) (h1 : a < d.ch) (hst : StOk (cells.map (·.1)) st) :
    WR (F_law_outs [.ref ci, .ref di, .tup (st.map D.int), .tup [.str d.name, .int a]] S) (fun r S' => r = .ref S.length ∧ S' = S ++ [.lst ((lv (lk (cells.map (·.1)) d.rows st a) 4 []).map (oc (cells.map (·.1)) d.rows st a))]) NX := by
  have hl := fun (f : List Int) (hf : ∀ x ∈ f, 0 ≤ x ∧ x ≤ 1) (h4 : f.length = 4) => no_lack4 (C := ⟨0, 0, 0, cells, deeds, true⟩) hs (hD.2 d hm) h0 h1 hst hf h4
  simp only [Vc.sz] at hl
  have ic := get_lt hc
  have id := get_lt hd'
  generalize hq : lk (cells.map (·.1)) d.rows st a = q at hl ⊢
  have hall := lv_all (q := q) (fun f h z => hl f z.2.1 h) 4 [] rfl Nd.nil
  unfold F_law_outs
  apply wr_dfun rfl
  simp
  refine ⟨⟨by decide, by decide⟩, ?_⟩
  refine ws_forL (fun ds ρ S' => ∃ (done : List (List Int)) (stk : List (Nat × List Int)) (x y z : Option D), ρ = [some (.ref ci), some (.ref di), some (.tup (st.map D.int)), some (.tup [.str d.name, .int a]), some (.ref S.length), some (.ref (S.length + 2)), x, y, z] ∧ cost (stk.map (·.2)) ≤ ds.length ∧ cost (stk.map (·.2)) ≤ 31 ∧ done ++ pend q (stk.map (·.2)) = lv q 4 [] ∧ (∀ f ∈ stk, Nd q f.2) ∧ SE S S' stk ∧ S.length + 3 ≤ S'.length ∧ (∀ i : Nat, i < S.length → S'[i]? = S[i]?) ∧ S'[S.length]? = some (.lst (done.map (oc (cells.map (·.1)) d.rows st a))) ∧ S'[S.length + 2]? = some (.lst (stk.map fun f => .ref f.1))) ?_ ?_ ?_ _ _ _ ⟨[], [(S.length + 1, [])], none, none, none, rfl, by simp [cost, ct, rgD_len], by simp [cost, ct], by simp [pend], fun f hf => by simp at hf; rw [hf]; exact Nd.nil, fun f hf => by simp at hf; rw [hf]; exact ⟨app_at S _ 1, by simp, by simp⟩, by simp, fun i hi => List.getElem?_append_left hi, app_at S _ 0, app_at S _ 2⟩
  · exact fun _ _ _ _ => trivial
  · rintro e ds ρ S' ⟨done, stk, x, y, z, rfl, c1, c2, hp, hn, hse, hl', ho, e0, e1⟩
    by_cases hs0 : stk = []
    · subst hs0
      simp [e1]
      exact ⟨done, [], by simp [cost], by simp [cost], hp, by simp, fun f hf => by simp at hf, hl', ho, e0, rfl⟩
    · obtain ⟨s, ⟨fr, f⟩, rfl⟩ := pop_last hs0
      have e1' : S'[S.length + 2]? = some (.lst ((s.map fun f => D.ref f.1) ++ [.ref fr])) := by simpa using e1
      simp [e1, g_pop e1']
      have a0 : (S'.set (S.length + 2) (.lst (s.map fun f => D.ref f.1)))[S.length]? = some (.lst (done.map (oc (cells.map (·.1)) d.rows st a))) := by rw [set_ne (by omega)]; exact e0
      have a1 : (S'.set (S.length + 2) (.lst (s.map fun f => D.ref f.1)))[S.length + 2]? = some (.lst (s.map fun f => D.ref f.1)) := set_at e1
      have ao : ∀ i : Nat, i < S.length → (S'.set (S.length + 2) (.lst (s.map fun f => D.ref f.1)))[i]? = S[i]? := fun i hi => by rw [set_ne (by omega)]; exact ho i hi
      have al : (S'.set (S.length + 2) (.lst (s.map fun f => D.ref f.1))).length = S'.length := List.length_set ..
      have ae := hse.set (.inr rfl) (.lst (s.map fun f => D.ref f.1))
      rw [← al] at hl'
      generalize S'.set (S.length + 2) (.lst (s.map fun f => D.ref f.1)) = S1 at a0 a1 ao hl' ae ⊢
      clear al e0 e1 e1' ho hse
      have nf : Nd q f := hn (fr, f) (by simp)
      have af : S1[fr]? = some (.lst (f.map D.int)) ∧ fr ≠ S.length ∧ fr ≠ S.length + 2 := ae (fr, f) (by simp)
      have as : SE S S1 s := fun g hg => ae g (by simp [hg])
      refine TD.WR.step (lcall_spec (by rw [ao _ ic]; exact hc) (by rw [ao _ id]; exact hd') hs hD hm h0 h1 hst af.1 nf.2.1) ?_
      rintro _ S2 ⟨⟨x, rfl⟩, T, rfl⟩
      have b0 : (S1 ++ T)[S.length]? = some (.lst (done.map (oc (cells.map (·.1)) d.rows st a))) := by rw [List.getElem?_append_left (by omega)]; exact a0
      have b1 : (S1 ++ T)[S.length + 2]? = some (.lst (s.map fun f => D.ref f.1)) := by rw [List.getElem?_append_left (by omega)]; exact a1
      have bo : ∀ i : Nat, i < S.length → (S1 ++ T)[i]? = S[i]? := fun i hi => by rw [List.getElem?_append_left (by omega)]; exact ao i hi
      have bf : (S1 ++ T)[fr]? = some (.lst (f.map D.int)) := by rw [List.getElem?_append_left (get_lt af.1)]; exact af.1
      have bs := as.app T
      have bl : S.length + 3 ≤ (S1 ++ T).length := by rw [List.length_append]; omega
      generalize S1 ++ T = S2 at b0 b1 bo bf bs bl ⊢
      have hf4 : f.length ≤ 4 := nf.1
      have hsl := len_cost ((s ++ [(fr, f)]).map (·.2))
      simp only [List.map_append, List.map_cons, List.map_nil] at hsl c1 c2 hp
      simp at hsl
      have hdl : done.length ≤ 16 := by
        have := hall.2.2
        rw [← hp, List.length_append] at this
        omega
      have hqf : ansI (runL (cells.map (·.1)) d.rows (start0 st a f)).1 = -1 ↔ q f = true := by
        rw [ansI_lack, ← hq]
        unfold lk Rf
        exact decide_eq_true_iff.symm
      cases hv : q f with
      | true =>
        have h4 : f.length < 4 := by
          rcases Nat.lt_or_ge f.length 4 with z | z
          · exact z
          · rw [hl f nf.2.1 (by omega)] at hv
            cases hv
        have hans := hqf.mpr hv
        have ff : fr < S2.length := get_lt bf
        have g1 := add_lst (S := S2 ++ [.lst [.int 1]]) (n := fr) (m := S2.length) (by rw [List.getElem?_append_left ff]; exact bf) (app_at S2 _ 0) (by simp; omega)
        have i1 := ins_of b1
        simp [hans, b1, g1, i1]
        have hU : (S2.set (S.length + 2) (.lst (s.map (fun f => D.ref f.1) ++ [.ref (S2.length + 1)]))).length = S2.length := List.length_set ..
        have u0 : (S2.set (S.length + 2) (.lst (s.map (fun f => D.ref f.1) ++ [.ref (S2.length + 1)])) ++ [DO.lst [.int 1], .lst (f.map D.int ++ [.int 1]), .lst [.int 0]])[S.length]? = some (.lst (done.map (oc (cells.map (·.1)) d.rows st a))) := by
          rw [List.getElem?_append_left (by omega), set_ne (by omega)]
          exact b0
        have u1 : (S2.set (S.length + 2) (.lst (s.map (fun f => D.ref f.1) ++ [.ref (S2.length + 1)])) ++ [DO.lst [.int 1], .lst (f.map D.int ++ [.int 1]), .lst [.int 0]])[S.length + 2]? = some (.lst (s.map (fun f => D.ref f.1) ++ [.ref (S2.length + 1)])) := by
          rw [List.getElem?_append_left (by omega)]
          exact set_at b1
        have uo : ∀ i : Nat, i < S.length → (S2.set (S.length + 2) (.lst (s.map (fun f => D.ref f.1) ++ [.ref (S2.length + 1)])) ++ [DO.lst [.int 1], .lst (f.map D.int ++ [.int 1]), .lst [.int 0]])[i]? = S[i]? := fun i hi => by
          rw [List.getElem?_append_left (by omega), set_ne (by omega)]
          exact bo i hi
        have us : SE S (S2.set (S.length + 2) (.lst (s.map (fun f => D.ref f.1) ++ [.ref (S2.length + 1)])) ++ [DO.lst [.int 1], .lst (f.map D.int ++ [.int 1]), .lst [.int 0]]) s := (bs.set (.inr rfl) _).app _
        have uf : (S2.set (S.length + 2) (.lst (s.map (fun f => D.ref f.1) ++ [.ref (S2.length + 1)])) ++ [DO.lst [.int 1], .lst (f.map D.int ++ [.int 1]), .lst [.int 0]])[fr]? = some (.lst (f.map D.int)) := by
          rw [List.getElem?_append_left (by omega), set_ne (by have := af.2; omega)]
          exact bf
        have up : (S2.set (S.length + 2) (.lst (s.map (fun f => D.ref f.1) ++ [.ref (S2.length + 1)])) ++ [DO.lst [.int 1], .lst (f.map D.int ++ [.int 1]), .lst [.int 0]])[S2.length + 1]? = some (.lst ((f ++ [1]).map D.int)) := by
          have := app_at (S2.set (S.length + 2) (.lst (s.map (fun f => D.ref f.1) ++ [.ref (S2.length + 1)]))) [DO.lst [.int 1], .lst (f.map D.int ++ [.int 1]), .lst [.int 0]] 1
          rw [hU] at this
          rw [this, List.map_append]
          rfl
        have uq : (S2.set (S.length + 2) (.lst (s.map (fun f => D.ref f.1) ++ [.ref (S2.length + 1)])) ++ [DO.lst [.int 1], .lst (f.map D.int ++ [.int 1]), .lst [.int 0]])[S2.length + 2]? = some (.lst [.int 0]) := by
          have := app_at (S2.set (S.length + 2) (.lst (s.map (fun f => D.ref f.1) ++ [.ref (S2.length + 1)]))) [DO.lst [.int 1], .lst (f.map D.int ++ [.int 1]), .lst [.int 0]] 2
          rw [hU] at this
          exact this
        have ul : (S2.set (S.length + 2) (.lst (s.map (fun f => D.ref f.1) ++ [.ref (S2.length + 1)])) ++ [DO.lst [.int 1], .lst (f.map D.int ++ [.int 1]), .lst [.int 0]]).length = S2.length + 3 := by
          rw [List.length_append, hU]
          rfl
        refine ⟨by omega, ?_⟩
        generalize S2.set (S.length + 2) (.lst (s.map (fun f => D.ref f.1) ++ [.ref (S2.length + 1)])) ++ [DO.lst [.int 1], .lst (f.map D.int ++ [.int 1]), .lst [.int 0]] = U at u0 u1 uo us uf up uq ul ⊢
        rw [add_lst uf uq (by simp; omega)]
        simp only [wr_ok]
        have v0 : (U ++ [DO.lst (f.map D.int ++ [.int 0])])[S.length]? = some (.lst (done.map (oc (cells.map (·.1)) d.rows st a))) := by rw [List.getElem?_append_left (by omega)]; exact u0
        have v1 : (U ++ [DO.lst (f.map D.int ++ [.int 0])])[S.length + 2]? = some (.lst (s.map (fun f => D.ref f.1) ++ [.ref (S2.length + 1)])) := by rw [List.getElem?_append_left (by omega)]; exact u1
        have vo : ∀ i : Nat, i < S.length → (U ++ [DO.lst (f.map D.int ++ [.int 0])])[i]? = S[i]? := fun i hi => by rw [List.getElem?_append_left (by omega)]; exact uo i hi
        have vs : SE S (U ++ [DO.lst (f.map D.int ++ [.int 0])]) s := us.app _
        have vp : (U ++ [DO.lst (f.map D.int ++ [.int 0])])[S2.length + 1]? = some (.lst ((f ++ [1]).map D.int)) := by rw [List.getElem?_append_left (by omega)]; exact up
        have vr : (U ++ [DO.lst (f.map D.int ++ [.int 0])])[U.length]? = some (.lst ((f ++ [0]).map D.int)) := by
          rw [List.map_append]
          exact app_at U _ 0
        have vl : S.length + 3 ≤ (U ++ [DO.lst (f.map D.int ++ [.int 0])]).length := by rw [List.length_append]; omega
        generalize U ++ [DO.lst (f.map D.int ++ [.int 0])] = V at v0 v1 vo vs vp vr vl ⊢
        rw [v1]
        simp only [lstP_lst]
        have cl := cost_lack (s := s.map (·.2)) h4
        simp only [List.length_cons] at c1
        refine ⟨by simp; omega, done, s ++ [(S2.length + 1, f ++ [1]), (U.length, f ++ [0])], by simp only [List.map_append, List.map_cons, List.map_nil]; omega, by simp only [List.map_append, List.map_cons, List.map_nil]; omega, by simp only [List.map_append, List.map_cons, List.map_nil]; rw [← pend_lack hv h4]; exact hp, fun a b hg => ?_, ?_, vl, fun i hi => by rw [set_ne (by omega)]; exact vo i hi, v0, by rw [set_at v1]; simp⟩
        · rcases List.mem_append.mp hg with z | z
          · exact hn (a, b) (by simp [z])
          · simp only [List.mem_cons, List.mem_nil_iff, or_false, Prod.mk.injEq] at z
            rcases z with ⟨_, rfl⟩ | ⟨_, rfl⟩
            · exact nf.snoc hv h4 (by decide) (by decide)
            · exact nf.snoc hv h4 (by decide) (by decide)
        · have w1 : ∀ (o : DO) (i : Nat), i ≠ S.length + 2 → (V.set (S.length + 2) o)[i]? = V[i]? := fun o i hi => set_ne (fun e => hi e.symm)
          have := ((vs.set (.inr rfl) (.lst (s.map (fun f => D.ref f.1) ++ [.ref (S2.length + 1)] ++ [.ref U.length]))).snoc (r := S2.length + 1) (f := f ++ [1]) (by rw [w1 _ _ (by omega)]; exact vp) (by omega) (by omega)).snoc (r := U.length) (f := f ++ [0]) (by rw [w1 _ _ (by omega)]; exact vr) (by omega) (by omega)
          simpa only [List.append_assoc, List.cons_append, List.nil_append] using this
      | false =>
        have hans : ¬ ansI (runL (cells.map (·.1)) d.rows (start0 st a f)).1 = -1 := fun z => by
          rw [hqf.mp z] at hv
          cases hv
        have j0 := ins_of b0
        simp [hans, b0, bf, j0, -List.map_append]
        have cd := cost_done (s := s.map (·.2)) (f := f)
        refine ⟨by omega, done ++ [f], s, ?_, by omega, by rw [← hp, pend_done hv]; simp, fun a b hg => hn (a, b) (by simp [hg]), bs.set (.inl rfl) _, by omega, fun i hi => by rw [set_ne (by omega)]; exact bo i hi, by simp [oc, Rf], b1⟩
        simp at c1
        omega
  · rintro ρ S' ⟨done, stk, x, y, z, rfl, c1, c2, hp, hn, hse, hl', ho, e0, e1⟩
    have c0 : stk = [] := by
      have := len_cost (stk.map (·.2))
      simp at this c1
      exact List.length_eq_zero_iff.mp (by omega)
    subst c0
    simp [pend] at hp
    simp
    rw [gc_mine (by omega) ho e0 (cl_oc _ _ _ _ _ _), hp]
    exact ⟨rfl, rfl⟩
end
end K13

set_option Elab.async false
set_option linter.all false
set_option maxRecDepth 100000
set_option pp.maxSteps 1500
set_option maxHeartbeats 4000000
namespace K13
open PySem PySem.Spec PyProof.Rows L2 TD
/-- S with k more, changed at L alone -/
def Gw (S S' : Sto) (L : List Nat) (k : Nat) : Prop := S'.length = S.length + k ∧ ∀ i : Nat, i < S.length → i ∉ L → S'[i]? = S[i]?
theorem Gw.fr {S S1 S2 : Sto} {L M : List Nat} {k : Nat} (h : Gw S S1 L k) (f : TD.Fr S1 S2 M) (hs : ∀ i ∈ M, i ∈ L ∨ S.length ≤ i) : Gw S S2 L k := ⟨f.1.trans h.1, fun i hi hL => by
  have hm : i ∉ M := fun z => by
    rcases hs i z with y | y
    · exact hL y
    · omega
  rw [f.2 i hm]
  exact h.2 i hi hL⟩
theorem Gw.set {S S1 : Sto} {L : List Nat} {k : Nat} (h : Gw S S1 L k) {q : Nat} (hq : q ∈ L ∨ S.length ≤ q) (o : DO) : Gw S (S1.set q o) L k := ⟨by rw [List.length_set]; exact h.1, fun i hi hL => by
  have : q ≠ i := fun e => by
    rcases hq with y | y
    · exact hL (e ▸ y)
    · omega
  rw [set_ne this]
  exact h.2 i hi hL⟩
theorem Gw.app {S : Sto} {L : List Nat} (T : Sto) : Gw S (S ++ T) L T.length := ⟨List.length_append, fun i hi _ => List.getElem?_append_left hi⟩
theorem Pl.frame {S S' : Sto} {p : Nat} (h : Pl S p) (e : S'[p]? = S[p]?) : Pl S' p := by
  unfold Pl at *
  rw [e]
  exact h
theorem Pl.ins {S : Sto} {p : Nat} (h : Pl S p) : InS S p := by
  obtain ⟨a, b, c, h, _⟩ := h
  exact ins_of h
theorem cells_spec {S : Sto} {p : Nat} (hp : Pl S p) : WR (F_law_cells [.ref p] S) (fun d S' => d = .ref S.length ∧ ∃ cells, CsOk cells ∧ cells.length ≤ 3 ∧ S'[S.length]? = some (.lst (cells.map encC)) ∧ Pl S' p ∧ Gw S S' [p] 1) NX := by
  have ip := hp.ins
  have hne := ne_old ip
  unfold F_law_cells
  apply wr_dfun rfl
  simp
  refine TD.WR.step (draw hp (m := 3) (by omega) (by omega)) ?_
  rintro _ S1 ⟨m, rfl, m0, m3, p1, f1⟩
  have hr : rngOk (1 + m) := ⟨by omega, by omega⟩
  have l1 : S1.length = S.length := f1.1
  simp [hr]
  refine ws_forL (fun ds ρ S' => ∃ (cs : List (Int × Int)) (x y : Option D), ρ = [some (.ref p), some (.int (1 + m)), some (.ref S.length), x, y] ∧ cs.length + ds.length = (1 + m).toNat ∧ (∀ c ∈ cs, 1 ≤ c.1 ∧ c.1 ≤ 9 ∧ 0 ≤ c.2 ∧ c.2 < c.1) ∧ S'[S.length]? = some (.lst (cs.map encC)) ∧ Pl S' p ∧ Gw S S' [p] 1) ?_ ?_ ?_ _ _ _ ⟨[], none, none, by rw [l1], by simp [rgD_len], by simp, ?_, ?_, ?_⟩
  · exact fun _ _ _ _ => trivial
  · rintro e ds ρ S' ⟨cs, x, y, rfl, hl, hc, g1, g2, g3⟩
    have mk : TD.MulOk 2 (if 1 + m = 3 then 1 else 0) := mulOkL (by omega) (by omega)
    have q0 : 0 < 4 - 2 * (if 1 + m = 3 then (1 : Int) else 0) ∧ 4 - 2 * (if 1 + m = 3 then (1 : Int) else 0) ≤ 4 := by split <;> omega
    simp [mk]
    refine TD.WR.step (draw g2 (m := 4 - 2 * (if 1 + m = 3 then (1 : Int) else 0)) q0.1 (by omega)) ?_
    rintro _ S2 ⟨k, rfl, k0, k1, p2, f2⟩
    have e2 : S2[S.length]? = some (.lst (cs.map encC)) := by rw [f2.2 _ (by simp; exact fun e => hne e.symm)]; exact g1
    simp [e2]
    refine TD.WR.step (draw p2 (m := 2 + k) (by omega) (by omega)) ?_
    rintro _ S3 ⟨j, rfl, j0, j1, p3, f3⟩
    have e3 : S3[S.length]? = some (.lst (cs.map encC)) := by rw [f3.2 _ (by simp; exact fun e => hne e.symm)]; exact e2
    have i3 := ins_of e3
    rw [List.length_cons] at hl
    have hl2 : cs.length < 1000000 := by omega
    simp [e3, hl2]
    refine ⟨cs ++ [(2 + k, j)], by simp; omega, ?_, ?_, ?_, ?_⟩
    · intro a b hab
      rcases List.mem_append.mp hab with z | z
      · exact hc (a, b) z
      · simp at z
        obtain ⟨rfl, rfl⟩ := z
        omega
    · rw [set_self i3]
      simp [encC]
    · exact p3.frame (set_ne (fun e => hne e.symm))
    · exact ((g3.fr f2 (by simp)).fr f3 (by simp)).set (.inr (Nat.le_refl _)) _
  · rintro ρ S' ⟨cs, x, y, rfl, hl, hc, g1, g2, g3⟩
    simp
    rw [gc_fresh g3.1]
    simp at hl
    exact ⟨rfl, cs, ⟨by omega, by omega, hc⟩, by omega, g1, g2, g3⟩
  · rw [← l1]
    simp
  · exact p1.frame (by rw [List.getElem?_append_left]; have := p1.ins; exact this)
  · have := Gw.app (S := S1) (L := [p]) [.lst []]
    exact ⟨by rw [this.1, l1]; rfl, fun i hi hL => by rw [this.2 i (by omega) hL]; exact f1.2 i hL⟩
end K13

set_option Elab.async false
set_option linter.all false
set_option maxRecDepth 100000
set_option pp.maxSteps 1500
set_option maxHeartbeats 8000000
namespace K13
open PySem PySem.Spec PyProof.Rows L2 TD
def Mw : Nat → Nat
  | 0 => 1
  | 1 => 19
  | _ => 343
def Ww : Nat → Nat
  | 0 => 2
  | 1 => 38
  | _ => 1029
def Nw : Nat → Nat
  | 0 => 2
  | 1 => 2
  | _ => 3
theorem nmw (k : Nat) : Nw k * Mw k = Ww k := by
  match k with
  | 0 => rfl
  | 1 => rfl
  | k + 2 => rfl
theorem mw_succ {k : Nat} (h : k ≤ 1) : Mw (k + 1) = 1 + 9 * Ww k := by
  match k, h with
  | 0, _ => rfl
  | 1, _ => rfl
theorem mw_pos (k : Nat) : 1 ≤ Mw k := by
  match k with
  | 0 => decide
  | 1 => decide
  | k + 2 => simp [Mw]
theorem ww_le (k : Nat) : Ww k ≤ 1029 := by
  match k with
  | 0 => decide
  | 1 => decide
  | k + 2 => simp [Ww]
def RI (S : Sto) (p b m k l bud need : Nat) (S' : Sto) : Prop := ∃ (acc : List Rw) (bud' : Nat), GL m k l acc ∧ wkL acc + need * Mw k ≤ Ww k ∧ cnsL acc + bud' = bud ∧ S'[S.length]? = some (.lst (encL acc)) ∧ S'[b]? = some (.lst [.int bud']) ∧ Pl S' p ∧ Gw S S' [p, b] 1
theorem push {S S5 : Sto} {p b m k l bud need bud' : Nat} {acc : List Rw} {r : Rw} (hp : p < S.length) (hb : b < S.length) (g : GL m k l acc) (hw : wkL acc + (need + 1) * Mw k ≤ Ww k) (hr : r.G m k l) (hrw : r.wk ≤ Mw k) (hcn : cnsL acc + r.cns + bud' = bud) (e5 : S5[S.length]? = some (.lst (encL acc))) (b5 : S5[b]? = some (.lst [.int bud'])) (p5 : Pl S5 p) (g5 : Gw S S5 [p, b] 1) :
    RI S p b m k l bud need (S5.set S.length (.lst (encL acc ++ [encR r]))) := by
  refine ⟨acc ++ [r], bud', GL_app g ⟨hr, trivial⟩, ?_, ?_, ?_, ?_, ?_, ?_⟩
  · rw [wkL_app]
    simp only [wkL, Nat.add_zero]
    rw [Nat.add_mul] at hw
    omega
  · rw [cnsL_app]
    simp only [cnsL, Nat.add_zero]
    omega
  · rw [set_at e5, encL_app]
    simp [encL]
  · rw [set_ne (by omega)]
    exact b5
  · exact p5.frame (set_ne (by omega))
  · exact g5.set (.inr (Nat.le_refl _)) _
theorem pl_cl (m : Nat) : ∀ (n : Nat) (d : D), pl n d → clD m d = true
  | n + 1, .int _, _ => rfl
  | n + 1, .str _, _ => rfl
  | n + 1, .bl _, _ => rfl
  | n + 1, .non, _ => rfl
  | n + 1, .tup xs, h => by
    have k : ∀ ys : List D, (∀ y ∈ ys, pl n y) → clDs m ys = true := fun ys => by
      induction ys with
      | nil => intro _; rfl
      | cons y ys ih =>
        intro hy
        rw [clDs_cons, pl_cl m n y (hy y (by simp)), ih (fun z hz => hy z (by simp [hz]))]
        rfl
    exact k xs h.2
theorem cl_rows {mm m d l : Nat} {rs : List Rw} (g : GL m d l rs) (h : wkL rs ≤ 100000) : clD mm (.tup (encL rs)) = true := by
  have := len_wk rs
  exact pl_cl mm (6 + 2 * d + 2 + 1) _ (pl_T (by rw [encL_len]; omega) (pl_L rs d l (6 + 2 * d) g h (Nat.le_refl _)))
theorem mrows : ∀ (n k l : Nat) (S : Sto) (p b m bud : Nat), k < n → k ≤ 2 → k + l ≤ 2 → 1 ≤ m → m ≤ 6 → p ≠ b → Pl S p → S[b]? = some (.lst [.int bud]) →
    WR (F_law_rows n [.ref p, .int m, .int k, .int l, .ref b] S) (fun d S' => ∃ (rows : List Rw) (bud' : Nat), d = .tup (encL rows) ∧ GL m k l rows ∧ wkL rows ≤ Ww k ∧ cnsL rows + bud' = bud ∧ S'[b]? = some (.lst [.int bud']) ∧ Pl S' p ∧ TD.Fr S S' [p, b]) NX
  | 0, k, l, S, p, b, m, bud, h, _, _, _, _, _, _, _ => absurd h (Nat.not_lt_zero _)
  | n + 1, k, l, S, p, b, m, bud, h, hk, hkl, hm1, hm6, hpb, hp, hb => by
    have ip := hp.ins
    have ib := ins_of hb
    have ip' : p < S.length := ip
    have ib' : b < S.length := ib
    have np : ¬ S.length = p := by omega
    have nb : ¬ S.length = b := by omega
    have np' : ¬ p = S.length := by omega
    have nb' : ¬ b = S.length := by omega
    unfold F_law_rows
    apply wr_dfun rfl
    simp
    have hp0 : Pl (S ++ [.lst []]) p := hp.frame (by simp [ip])
    refine TD.WR.step (draw hp0 (m := 3) (by omega) (by omega)) ?_
    rintro _ S1 ⟨i, rfl, i0, i3, p1, f1⟩
    have hi : 0 ≤ (if (k : Int) = 2 then (1 : Int) else 0) ∧ (if (k : Int) = 2 then (1 : Int) else 0) ≤ 1 := by split <;> omega
    have hr : rngOk ((if (k : Int) = 2 then (1 : Int) else 0) + i) := ⟨by omega, by omega⟩
    simp [hr]
    refine ws_forL (fun ds ρ S' => ∃ (x6 x7 x8 x9 x10 x11 x12 : Option D), ρ = [some (.ref p), some (.int m), some (.int k), some (.int l), some (.ref b), some (.ref S.length), x6, x7, x8, x9, x10, x11, x12] ∧ RI S p b m k l bud ds.length S') ?_ ?_ ?_ _ _ _ ⟨none, none, none, none, none, none, none, rfl, [], bud, trivial, ?_, by simp [cnsL], ?_, ?_, p1, ?_⟩
    · exact fun _ _ _ _ => trivial
    · rintro e ds ρ S' ⟨x6, x7, x8, x9, x10, x11, x12, rfl, acc, bud', g0, w0, c0, e0, b0, p0, q0⟩
      rw [List.length_cons] at w0
      simp
      refine TD.WR.step (draw p0 (m := 10) (by omega) (by omega)) ?_
      rintro _ S2 ⟨kd, rfl, kd0, kd1, p2, f2⟩
      refine TD.WR.step (draw p2 (m := m) (by omega) (by omega)) ?_
      rintro _ S3 ⟨c, rfl, ce0, ce1, p3, f3⟩
      refine TD.WR.step (draw p3 (m := 4) (by omega) (by omega)) ?_
      rintro _ S4 ⟨j, rfl, j0, j1, p4, f4⟩
      obtain ⟨ch, ec, rg, rx, er⟩ := ix_keep j0 j1
      simp [ec, er, l_abcd]
      refine TD.WR.step (e_spec 6 2 S4 p (by omega) p4) ?_
      rintro _ S5 ⟨ex, rfl, ex1, ex2, p5, f5⟩
      have f05 : TD.Fr S' S5 [p] := f2.trans (f3.trans (f4.trans f5))
      have q5 : Gw S S5 [p, b] 1 := q0.fr f05 (by simp)
      have e5 : S5[S.length]? = some (.lst (encL acc)) := by rw [f05.2 _ (by simp [np])]; exact e0
      have b5 : S5[b]? = some (.lst [.int bud']) := by rw [f05.2 _ (by simp; exact fun e => hpb e.symm)]; exact b0
      have i5 := ins_of e5
      have j5 := ins_of b5
      have eG : ex.G := ⟨ex1, by omega⟩
      obtain ⟨cn, rfl⟩ : ∃ cn : Nat, c = cn := ⟨c.toNat, by omega⟩
      have hcn : cn < m := by omega
      have hmw := mw_pos k
      have hal : acc.length < 1000000 := by
        have := len_wk acc
        have := ww_le k
        omega
      have hel : (encL acc).length < 1000000 := by rw [encL_len]; exact hal
      by_cases k1 : kd < 2
      · simp [k1, e5, hel]
        have z := push (r := .read rg cn) ip' ib' g0 w0 (by simp only [Rw.G]; exact ⟨rx, hcn⟩) (by simp only [Rw.wk]; omega) (by simp only [Rw.cns]; exact c0) e5 b5 p5 q5
        simpa only [encR] using z
      · by_cases k2 : kd < 4
        · simp [k1, k2, e5, hel]
          have z := push (r := .set cn ex) ip' ib' g0 w0 (by simp only [Rw.G]; exact ⟨hcn, eG⟩) (by simp only [Rw.wk]; omega) (by simp only [Rw.cns]; exact c0) e5 b5 p5 q5
          simpa only [encR] using z
        · by_cases k3 : kd = 4
          · subst k3
            simp [e5]
            refine TD.WR.step (e_spec 6 1 S5 p (by omega) p5) ?_
            rintro _ S6 ⟨ey, rfl, ey1, ey2, p6, f6⟩
            have q6 : Gw S S6 [p, b] 1 := q5.fr f6 (by simp)
            have e6 : S6[S.length]? = some (.lst (encL acc)) := by rw [f6.2 _ (by simp [np])]; exact e5
            have b6 : S6[b]? = some (.lst [.int bud']) := by rw [f6.2 _ (by simp; exact fun e => hpb e.symm)]; exact b5
            simp [e6, hel]
            have z := push (r := .swap rg cn ex ey) ip' ib' g0 w0 (by simp only [Rw.G]; exact ⟨rx, hcn, eG, ey1, by omega⟩) (by simp only [Rw.wk]; omega) (by simp only [Rw.cns]; exact c0) e6 b6 p6 q6
            simpa only [encR] using z
          · by_cases k4 : kd = 5
            · subst k4
              simp [e5, hel]
              have z := push (r := .ans ex) ip' ib' g0 w0 (by simp only [Rw.G]; exact eG) (by simp only [Rw.wk]; omega) (by simp only [Rw.cns]; exact c0) e5 b5 p5 q5
              simpa only [encR] using z
            · have keep : RI S p b m k l bud ds.length (S5.set S.length (.lst (encL acc ++ [encR (.keep rg ex)]))) := push (r := .keep rg ex) ip' ib' g0 w0 (by simp only [Rw.G]; exact ⟨rx, eG⟩) (by simp only [Rw.wk]; omega) (by simp only [Rw.cns]; exact c0) e5 b5 p5 q5
              simp only [encR] at keep
              by_cases k5 : kd = 6 ∧ 0 < k
              · obtain ⟨rfl, kp⟩ := k5
                obtain ⟨k', rfl⟩ : ∃ k', k = k' + 1 := ⟨k - 1, by omega⟩
                have hk3 : ((k' : Nat) : Int) + 1 - 1 = (k' : Nat) := by omega
                have hk0 : (0 : Int) < (k' : Int) + 1 := by omega
                simp [hk3, hk0]
                refine TD.WR.step (mrows n k' l S5 p b m bud' (by omega) (by omega) (by omega) hm1 hm6 hpb p5 b5) ?_
                rintro _ S6 ⟨ra, bu, rfl, ga, wa, ca, b6, p6, f6⟩
                have q6 : Gw S S6 [p, b] 1 := q5.fr f6 (fun i hi => .inl hi)
                have e6 : S6[S.length]? = some (.lst (encL acc)) := by rw [f6.2 _ (by simp [np, nb])]; exact e5
                simp [e6, hk3]
                refine TD.WR.step (mrows n k' l S6 p b m bu (by omega) (by omega) (by omega) hm1 hm6 hpb p6 b6) ?_
                rintro _ S7 ⟨rb, bv, rfl, gb, wb, cb, b7, p7, f7⟩
                have q7 : Gw S S7 [p, b] 1 := q6.fr f7 (fun i hi => .inl hi)
                have e7 : S7[S.length]? = some (.lst (encL acc)) := by rw [f7.2 _ (by simp [np, nb])]; exact e6
                simp [e7, hel]
                have mm := mw_succ (k := k') (by omega)
                have z := push (bud := bud) (need := ds.length) (bud' := bv) (r := .ite ex ra rb) ip' ib' g0 w0 (by simp only [Rw.G]; exact ⟨eG, by omega, ga, gb⟩) (by simp only [Rw.wk]; omega) (by simp only [Rw.cns]; omega) e7 b7 p7 q7
                simpa only [encR] using z
              · by_cases k6 : kd = 7 ∧ 0 < k
                · obtain ⟨rfl, kp⟩ := k6
                  obtain ⟨k', rfl⟩ : ∃ k', k = k' + 1 := ⟨k - 1, by omega⟩
                  have hk3 : ((k' : Nat) : Int) + 1 - 1 = (k' : Nat) := by omega
                  have hk0 : (0 : Int) < (k' : Int) + 1 := by omega
                  have mm := mw_succ (k := k') (by omega)
                  have hl1 : ((l + 1 : Nat) : Int) = (l : Int) + 1 := by omega
                  simp [hk3, hk0]
                  refine TD.WR.step (draw p5 (m := 5) (by omega) (by omega)) ?_
                  rintro _ S6 ⟨t, rfl, t0, t1, p6, f6⟩
                  have q6 : Gw S S6 [p, b] 1 := q5.fr f6 (by simp)
                  have e6 : S6[S.length]? = some (.lst (encL acc)) := by rw [f6.2 _ (by simp [np])]; exact e5
                  have b6 : S6[b]? = some (.lst [.int bud']) := by rw [f6.2 _ (by simp; exact fun e => hpb e.symm)]; exact b5
                  have kk := mrows n k' (l + 1) S6 p b m bud' (by omega) (by omega) (by omega) hm1 hm6 hpb p6 b6
                  rw [hl1] at kk
                  by_cases t4 : t = 4
                  · subst t4
                    simp [e6, hk3]
                    refine TD.WR.step kk ?_
                    rintro _ S7 ⟨rb, bv, rfl, gb, wb, cb, b7, p7, f7⟩
                    have q7 : Gw S S7 [p, b] 1 := q6.fr f7 (fun i hi => .inl hi)
                    have e7 : S7[S.length]? = some (.lst (encL acc)) := by rw [f7.2 _ (by simp [np, nb])]; exact e6
                    simp [e7, hel]
                    have z := push (bud := bud) (need := ds.length) (bud' := bv) (r := .times (.reg .x) rb) ip' ib' g0 w0 (by simp only [Rw.G]; exact ⟨⟨trivial, Nat.zero_le _⟩, by omega, by omega, gb⟩) (by simp only [Rw.wk]; omega) (by simp only [Rw.cns]; omega) e7 b7 p7 q7
                    simpa only [encR, encE, Rg.s] using z
                  · simp [t4, e6, hk3]
                    refine TD.WR.step kk ?_
                    rintro _ S7 ⟨rb, bv, rfl, gb, wb, cb, b7, p7, f7⟩
                    have q7 : Gw S S7 [p, b] 1 := q6.fr f7 (fun i hi => .inl hi)
                    have e7 : S7[S.length]? = some (.lst (encL acc)) := by rw [f7.2 _ (by simp [np, nb])]; exact e6
                    simp [e7, hel]
                    have z := push (bud := bud) (need := ds.length) (bud' := bv) (r := .times (.num t) rb) ip' ib' g0 w0 (by simp only [Rw.G]; exact ⟨⟨⟨t0, by omega⟩, Nat.zero_le _⟩, by omega, by omega, gb⟩) (by simp only [Rw.wk]; omega) (by simp only [Rw.cns]; omega) e7 b7 p7 q7
                    simpa only [encR, encE, Rg.s] using z
                · by_cases k7 : kd = 8 ∧ l = 0 ∧ 0 < bud'
                  · obtain ⟨rfl, rfl, kb⟩ := k7
                    obtain ⟨bu, rfl⟩ : ∃ bu, bud' = bu + 1 := ⟨bud' - 1, by omega⟩
                    have hb3 : ((bu : Nat) : Int) + 1 - 1 = (bu : Nat) := by omega
                    have hb0 : (0 : Int) < (bu : Int) + 1 := by omega
                    have b5' := b5
                    simp at b5'
                    simp [b5', hb3, hb0, j5, e5, nb', hel]
                    have z := push (bud := bud) (need := ds.length) (S5 := S5.set b (.lst [.int bu])) (bud' := bu) (r := .coin rg) ip' ib' g0 w0 (by simp only [Rw.G]; exact ⟨rx, trivial⟩) (by simp only [Rw.wk]; omega) (by simp only [Rw.cns]; omega) (by rw [set_ne (by omega)]; exact e5) (set_at b5) (p5.frame (set_ne (fun e => hpb e.symm))) (q5.set (.inl (by simp)) _)
                    simpa only [encR] using z
                  · have c6 : ¬ (kd = 6 ∧ (0 : Int) < (k : Int)) := fun z => k5 ⟨z.1, by omega⟩
                    have c7 : ¬ (kd = 7 ∧ (0 : Int) < (k : Int)) := fun z => k6 ⟨z.1, by omega⟩
                    by_cases d6 : kd = 6
                    · subst d6
                      have kz : k = 0 := by
                        rcases Nat.eq_zero_or_pos k with z | z
                        · exact z
                        · exact absurd ⟨rfl, z⟩ k5
                      subst kz
                      simp [e5, hel]
                      simpa using keep
                    · by_cases d7 : kd = 7
                      · subst d7
                        have kz : k = 0 := by
                          rcases Nat.eq_zero_or_pos k with z | z
                          · exact z
                          · exact absurd ⟨rfl, z⟩ k6
                        subst kz
                        simp [e5, hel]
                        simpa using keep
                      · by_cases d8 : kd = 8
                        · subst d8
                          by_cases lz : l = 0
                          · subst lz
                            have bz : bud' = 0 := by
                              rcases Nat.eq_zero_or_pos bud' with z | z
                              · exact z
                              · exact absurd ⟨rfl, rfl, z⟩ k7
                            subst bz
                            simp at b5
                            simp [b5, e5, hel]
                            simpa using keep
                          · have lz' : ¬ ((l : Int) = 0) := by omega
                            simp [lz, lz', e5, hel]
                            simpa using keep
                        · simp [k1, k2, k3, k4, d6, d7, d8, e5, hel]
                          simpa using keep
    · rintro ρ S' ⟨x6, x7, x8, x9, x10, x11, x12, rfl, acc, bud', g0, w0, c0, e0, b0, p0, q0⟩
      simp [e0]
      have ww := ww_le k
      simp only [List.length_nil, Nat.zero_mul, Nat.add_zero] at w0
      have hle : S.length ≤ S'.length := by have := q0.1; omega
      rw [gc_take hle (fun i o hi ho => by
        by_cases hip : i = p
        · subst hip
          obtain ⟨a1, a2, a3, a4, _⟩ := p0
          rw [a4] at ho
          cases ho
          exact .inr rfl
        · by_cases hib : i = b
          · subst hib
            rw [b0] at ho
            cases ho
            exact .inr rfl
          · rw [q0.2 i hi (by simp [hip, hib])] at ho
            exact .inl ho) (cl_rows g0 (by omega))]
      have tk : ∀ i : Nat, i < S.length → (S'.take S.length)[i]? = S'[i]? := fun i hi => by
        rw [List.getElem?_take, if_pos hi]
      refine ⟨acc, rfl, g0, w0, bud', c0, by rw [tk b ib']; exact b0, p0.frame (tk p ip'), by rw [List.length_take]; omega, fun i hi => ?_⟩
      rcases Nat.lt_or_ge i S.length with z | z
      · rw [tk i z]
        exact q0.2 i z hi
      · rw [List.getElem?_eq_none (by rw [List.length_take]; omega), List.getElem?_eq_none z]
    · simp only [wkL, rgD_len, Nat.zero_add]
      rw [← nmw k]
      refine Nat.mul_le_mul_right _ ?_
      match k, hk with
      | 0, _ => simp [Nw]; omega
      | 1, _ => simp [Nw]; omega
      | 2, _ => simp [Nw]; omega
    · rw [f1.2 _ (by simp [np])]
      simp [encL]
    · rw [f1.2 _ (by simp; exact fun e => hpb e.symm)]
      simp [ib, hb]
    · have := Gw.app (S := S) (L := [p, b]) [.lst []]
      exact this.fr f1 (by simp)
end K13

set_option Elab.async false
set_option linter.all false
set_option maxRecDepth 100000
set_option pp.maxSteps 1500
set_option maxHeartbeats 8000000
namespace K13
open PySem PySem.Spec PyProof.Rows L2 TD
mutual
theorem G_up {m : Nat} : ∀ (r : Rw) (d d' l : Nat), d ≤ d' → r.G m d l → r.G m d' l
  | .read _ _, d, d', l, h, g => by simpa [Rw.G] using g
  | .set _ _, d, d', l, h, g => by simpa [Rw.G] using g
  | .swap _ _ _ _, d, d', l, h, g => by simpa [Rw.G] using g
  | .keep _ _, d, d', l, h, g => by simpa [Rw.G] using g
  | .coin _, d, d', l, h, g => by simpa [Rw.G] using g
  | .ans _, d, d', l, h, g => by simpa [Rw.G] using g
  | .ite e a b, d, d', l, h, g => by
    obtain ⟨g1, g2, g3, g4⟩ := (show e.G ∧ 0 < d ∧ GL m (d - 1) l a ∧ GL m (d - 1) l b by simpa [Rw.G] using g)
    simp only [Rw.G]
    exact ⟨g1, by omega, GL_up a (d - 1) (d' - 1) l (by omega) g3, GL_up b (d - 1) (d' - 1) l (by omega) g4⟩
  | .times e b, d, d', l, h, g => by
    obtain ⟨g1, g2, g3, g4⟩ := (show e.G ∧ 0 < d ∧ l < 2 ∧ GL m (d - 1) (l + 1) b by simpa [Rw.G] using g)
    simp only [Rw.G]
    exact ⟨g1, by omega, g3, GL_up b (d - 1) (d' - 1) (l + 1) (by omega) g4⟩
theorem GL_up {m : Nat} : ∀ (rs : List Rw) (d d' l : Nat), d ≤ d' → GL m d l rs → GL m d' l rs
  | [], d, d', l, h, g => trivial
  | r :: rs, d, d', l, h, g => by
    obtain ⟨g1, g2⟩ := (show r.G m d l ∧ GL m d l rs by simpa [GL] using g)
    exact ⟨G_up r d d' l h g1, GL_up rs d d' l h g2⟩
end
def BQ (S : Sto) (p m : Nat) : D → Sto → Prop := fun d S' => ∃ rows : List Rw, d = .tup (encL rows) ∧ GL m 5 0 rows ∧ wkL rows ≤ 2000 ∧ cnsL rows ≤ 4 ∧ Pl S' p ∧ TD.Fr S S' [p]
theorem bfin {S S4 : Sto} {p m : Nat} (rows : List Rw) (g : GL m 5 0 rows) (w : wkL rows ≤ 2000) (c : cnsL rows ≤ 4) (hp : Pl S4 p) (f : TD.Fr S S4 [p]) : WR (gc S (.ok (.tup (encL rows)) S4)) (BQ S p m) NX := by
  rw [gc_len f.1]
  exact ⟨rows, rfl, g, w, c, hp, f⟩
theorem body_spec {S : Sto} {p m cn : Nat} (hp : Pl S p) (hm1 : 1 ≤ m) (hm6 : m ≤ 6) (hc : cn ≤ 4) : WR (F_law_body [.ref p, .int m, .int cn] S) (BQ S p m) NX := by
  unfold F_law_body
  apply wr_dfun rfl
  simp
  refine TD.WR.step (draw hp (m := 12) (by omega) (by omega)) ?_
  rintro _ S1 ⟨kd, rfl, kd0, kd1, p1, f1⟩
  refine TD.WR.step (draw p1 (m := m) (by omega) (by omega)) ?_
  rintro _ S2 ⟨c, rfl, ce0, ce1, p2, f2⟩
  refine TD.WR.step (draw p2 (m := m) (by omega) (by omega)) ?_
  rintro _ S3 ⟨d, rfl, de0, de1, p3, f3⟩
  refine TD.WR.step (e_spec 6 1 S3 p (by omega) p3) ?_
  rintro _ S4 ⟨e, rfl, e1, e2, p4, f4⟩
  obtain ⟨c, rfl⟩ : ∃ cn : Nat, c = cn := ⟨c.toNat, by omega⟩
  obtain ⟨d, rfl⟩ : ∃ cn : Nat, d = cn := ⟨d.toNat, by omega⟩
  have hcm : c < m := by omega
  have hdm : d < m := by omega
  have f : TD.Fr S S4 [p] := f1.trans (f2.trans (f3.trans f4))
  have eG : e.G := ⟨e1, by omega⟩
  have rG : ∀ r : Rg, (Ex.reg r).G := fun r => ⟨trivial, Nat.zero_le _⟩
  have nG : ∀ i : Int, 0 ≤ i → i ≤ 9 → (Ex.num i).G := fun i h0 h9 => ⟨⟨h0, h9⟩, Nat.zero_le _⟩
  have oG : ∀ (o : Sg) (a b : Ex), a.Ok → b.Ok → a.dep ≤ 4 → b.dep ≤ 4 → (Ex.op o a b).G := fun o a b h1 h2 h3 h4 => ⟨⟨h1, h2⟩, by simp only [Ex.dep]; omega⟩
  by_cases k0 : kd = 0
  · subst k0
    have z := bfin (S := S) [.set c (.reg .x)] (⟨⟨hcm, rG .x⟩, trivial⟩) (by simp [wkL, Rw.wk]) (by simp [cnsL, Rw.cns]) p4 f
    simpa [encL, encR, encE, Rg.s, Sg.s] using z
  by_cases k1 : kd = 1
  · subst k1
    have z := bfin (S := S) [.read .a c, .ans (.reg .a)] (⟨⟨by decide, hcm⟩, rG .a, trivial⟩) (by simp [wkL, Rw.wk]) (by simp [cnsL, Rw.cns]) p4 f
    simpa [encL, encR, encE, Rg.s, Sg.s] using z
  by_cases k2 : kd = 2
  · subst k2
    have z := bfin (S := S) [.read .a c, .set c (.op .add (.reg .a) e), .ans (.reg .a)] (⟨⟨by decide, hcm⟩, ⟨hcm, oG _ _ _ trivial e1 (Nat.zero_le _) (by omega)⟩, rG .a, trivial⟩) (by simp [wkL, Rw.wk]) (by simp [cnsL, Rw.cns]) p4 f
    simpa [encL, encR, encE, Rg.s, Sg.s] using z
  by_cases k3 : kd = 3
  · subst k3
    have z := bfin (S := S) [.read .a c, .set d (.reg .a), .set c (.reg .x)] (⟨⟨by decide, hcm⟩, ⟨hdm, rG .a⟩, ⟨hcm, rG .x⟩, trivial⟩) (by simp [wkL, Rw.wk]) (by simp [cnsL, Rw.cns]) p4 f
    simpa [encL, encR, encE, Rg.s, Sg.s] using z
  by_cases k4 : kd = 4
  · subst k4
    have z := bfin (S := S) [.set c e] (⟨⟨hcm, eG⟩, trivial⟩) (by simp [wkL, Rw.wk]) (by simp [cnsL, Rw.cns]) p4 f
    simpa [encL, encR, encE, Rg.s, Sg.s] using z
  by_cases k5 : kd = 5
  · subst k5
    have z := bfin (S := S) [.swap .b c e (.reg .x), .ans (.reg .b)] (⟨⟨by decide, hcm, eG, rG .x⟩, rG .b, trivial⟩) (by simp [wkL, Rw.wk]) (by simp [cnsL, Rw.cns]) p4 f
    simpa [encL, encR, encE, Rg.s, Sg.s] using z
  by_cases k6 : kd = 6
  · subst k6
    have z := bfin (S := S) [.read .a c, .read .b d, .ite (.op .eq (.reg .a) (.reg .b)) [.ans e] [.set c (.reg .b)]] (⟨⟨by decide, hcm⟩, ⟨by decide, hdm⟩, ⟨oG _ _ _ trivial trivial (Nat.zero_le _) (Nat.zero_le _), by decide, ⟨eG, trivial⟩, ⟨⟨hcm, rG .b⟩, trivial⟩⟩, trivial⟩) (by simp [wkL, Rw.wk]) (by simp [cnsL, Rw.cns]) p4 f
    simpa [encL, encR, encE, Rg.s, Sg.s] using z
  by_cases k7 : kd = 7
  · subst k7
    have z := bfin (S := S) [.read .a c, .read .b d, .set c (.reg .b), .set d (.reg .a)] (⟨⟨by decide, hcm⟩, ⟨by decide, hdm⟩, ⟨hcm, rG .b⟩, ⟨hdm, rG .a⟩, trivial⟩) (by simp [wkL, Rw.wk]) (by simp [cnsL, Rw.cns]) p4 f
    simpa [encL, encR, encE, Rg.s, Sg.s] using z
  have rows : WR (F_law_rows 5 [.ref p, .int m, .int 2, .int 0, .ref S4.length] (S4 ++ [.lst [.int cn]])) (fun d S' => WR (gc S (.ok d S')) (BQ S p m) NX) NX := by
    have ip := p4.ins
    have ip' : p < S4.length := ip
    have kk := mrows 5 2 0 (S4 ++ [.lst [.int cn]]) p S4.length m cn (by omega) (by omega) (by omega) hm1 hm6 (by omega) (p4.frame (by simp [ip])) (by simp)
    have z2 : ((2 : Nat) : Int) = 2 := rfl
    have z0 : ((0 : Nat) : Int) = 0 := rfl
    rw [z2, z0] at kk
    refine TD.WR.step kk ?_
    rintro _ S5 ⟨rs, bu, rfl, g, w, c0, b5, p5, f5⟩
    have hl5 : S5.length = S.length + 1 := by
      have h1 := f5.1
      rw [List.length_append] at h1
      have h2 := f.1
      simp only [List.length_cons, List.length_nil] at h1
      omega
    have ww := ww_le 2
    have old : ∀ i : Nat, i < S.length → i ≠ p → S5[i]? = S[i]? := fun i hi hne => by
      have hS4 : S4.length = S.length := f.1
      rw [f5.2 i (by simp [hne]; omega), List.getElem?_append_left (by omega)]
      exact f.2 i (by simp [hne])
    rw [gc_take (by omega) (fun i o hi ho => by
      by_cases hip : i = p
      · subst hip
        obtain ⟨a1, a2, a3, a4, _⟩ := p5
        rw [a4] at ho
        cases ho
        exact .inr rfl
      · rw [old i hi hip] at ho
        exact .inl ho) (cl_rows g (by omega))]
    have tk : ∀ i : Nat, i < S.length → (S5.take S.length)[i]? = S5[i]? := fun i hi => by
      rw [List.getElem?_take, if_pos hi]
    have hS4 : S4.length = S.length := f.1
    refine ⟨rs, rfl, GL_up rs 2 5 0 (by omega) g, by omega, by omega, p5.frame (tk p (by omega)), by rw [List.length_take]; omega, fun i hi => ?_⟩
    rcases Nat.lt_or_ge i S.length with z | z
    · rw [tk i z]
      exact old i z (by simpa using hi)
    · rw [List.getElem?_eq_none (by rw [List.length_take]; omega), List.getElem?_eq_none z]
  by_cases k8 : kd = 8 ∧ 0 < cn
  · obtain ⟨rfl, h0⟩ := k8
    have h0' : (0 : Int) < (cn : Int) := by omega
    have z := bfin (S := S) [.read .a c, .ite (.reg .a) [.ans (.num 0)] [], .coin .b, .set c (.op .add (.reg .b) (.num 1)), .ans (.num 1)] (⟨⟨by decide, hcm⟩, ⟨rG .a, by decide, ⟨nG 0 (by decide) (by decide), trivial⟩, trivial⟩, ⟨by decide, rfl⟩, ⟨hcm, oG _ _ _ trivial ⟨by decide, by decide⟩ (Nat.zero_le _) (Nat.zero_le _)⟩, nG 1 (by decide) (by decide), trivial⟩) (by simp [wkL, Rw.wk]) (by simp [cnsL, Rw.cns]) p4 f
    simpa [encL, encR, encE, Rg.s, Sg.s, h0, h0'] using z
  by_cases k9 : kd = 9 ∧ 0 < cn
  · obtain ⟨rfl, h0⟩ := k9
    have h0' : (0 : Int) < (cn : Int) := by omega
    have z := bfin (S := S) [.coin .b, .set c (.op .add (.reg .b) (.reg .x))] (⟨⟨by decide, rfl⟩, ⟨hcm, oG _ _ _ trivial trivial (Nat.zero_le _) (Nat.zero_le _)⟩, trivial⟩) (by simp [wkL, Rw.wk]) (by simp [cnsL, Rw.cns]) p4 f
    simpa [encL, encR, encE, Rg.s, Sg.s, h0, h0'] using z
  have done : WR (F_law_rows 5 [.ref p, .int m, .int 2, .int 0, .ref S4.length] (S4 ++ [.lst [.int cn]])) (fun d S' => WR (gc S (.ok d S')) (BQ S p m) NX) (fun x S' => WR (gc S (.exc x S')) (BQ S p m) NX) := rows.step fun _ _ h => h
  by_cases d8 : kd = 8
  · subst d8
    have cz : cn = 0 := by
      rcases Nat.eq_zero_or_pos cn with z | z
      · exact z
      · exact absurd ⟨rfl, z⟩ k8
    subst cz
    simpa using done
  by_cases d9 : kd = 9
  · subst d9
    have cz : cn = 0 := by
      rcases Nat.eq_zero_or_pos cn with z | z
      · exact z
      · exact absurd ⟨rfl, z⟩ k9
    subst cz
    simpa using done
  simpa [k0, k1, k2, k3, k4, k5, k6, k7, d8, d9] using done
end K13

set_option Elab.async false
set_option linter.all false
set_option maxRecDepth 100000
set_option pp.maxSteps 1500
set_option maxHeartbeats 8000000
namespace K13
open PySem PySem.Spec PyProof.Rows L2 TD
abbrev letters : Str := Str.ofString "abcdefghijklmnopqrstuvwxyz"
theorem let_list : letters.cps.toList = (List.range 26).map (97 + ·) := by decide
theorem ix_let {k : Int} (h0 : 0 ≤ k) (h1 : k < 26) : atI letters.cps.toList k = some (97 + k.toNat) := by
  rw [atI_nn _ h0, let_list]
  have hk : k.toNat < 26 := by omega
  simp [List.getElem?_map, List.getElem?_range hk]
theorem let_mem {k : Nat} (h : k < 26) : 97 + k ∈ letters.cps.toList := by
  rw [let_list]
  exact List.mem_map.mpr ⟨k, List.mem_range.mpr h, rfl⟩
/-- the name of the i-th deed: its last letter tells i -/
def Lk (i : Nat) (z : Str) : Prop := ∃ (pre : List Nat) (c : Nat), z.cps.toList = pre ++ [c] ∧ 97 ≤ c ∧ (c - 97) % 4 = (3 * i + 1) % 4
theorem lk_ne {i j : Nat} {x y : Str} (hx : Lk i x) (hy : Lk j y) (hi : i < 4) (hj : j < 4) (e : x = y) : i = j := by
  obtain ⟨p, c, h1, h2, h3⟩ := hx
  obtain ⟨q, d, k1, k2, k3⟩ := hy
  rw [e, k1] at h1
  have := (List.append_inj' h1 rfl).2
  simp at this
  subst this
  omega
/-- one or two letters, joined -/
theorem join2 : ∀ (ys : List Str), ys.length ≤ 2 → (∀ y ∈ ys, ∃ k, k < 26 ∧ y = ⟨#[97 + k]⟩) → (∀ c ∈ (Txt.join (Str.ofString "") ys).cps.toList, c ∈ letters.cps.toList) ∧ (Txt.join (Str.ofString "") ys).length ≤ 2
  | [], _, _ => by
    have e : Txt.join (Str.ofString "") [] = Str.ofString "" := rfl
    rw [e]
    exact ⟨by decide, by decide⟩
  | [a], _, h => by
    obtain ⟨k, hk, rfl⟩ := h a (by simp)
    have e : Txt.join (Str.ofString "") [(⟨#[97 + k]⟩ : Str)] = ⟨#[97 + k]⟩ := rfl
    rw [e]
    refine ⟨fun c hc => ?_, by simp [Str.length]⟩
    simp at hc
    subst hc
    exact let_mem hk
  | [a, b], _, h => by
    obtain ⟨k, hk, rfl⟩ := h a (by simp)
    obtain ⟨j, hj, rfl⟩ := h b (by simp)
    have e : Txt.join (Str.ofString "") [(⟨#[97 + k]⟩ : Str), ⟨#[97 + j]⟩] = (⟨#[97 + k]⟩ : Str) ++ Str.ofString "" ++ ⟨#[97 + j]⟩ := rfl
    have e2 : (⟨#[97 + k]⟩ : Str) ++ Str.ofString "" ++ ⟨#[97 + j]⟩ = ⟨#[97 + k, 97 + j]⟩ := by
      show (⟨(#[97 + k] ++ (Str.ofString "").cps) ++ #[97 + j]⟩ : Str) = _
      have : (Str.ofString "").cps = #[] := by decide
      rw [this]
      simp
    rw [e, e2]
    refine ⟨fun c hc => ?_, by simp [Str.length]⟩
    simp at hc
    rcases hc with rfl | rfl
    · exact let_mem hk
    · exact let_mem hj
  | _ :: _ :: _ :: _, h, _ => by simp at h
theorem name_spec {pre : Str} {i : Nat} {k : Nat} (hp : (∀ c ∈ pre.cps.toList, c ∈ letters.cps.toList) ∧ pre.length ≤ 2) (hk : k < 26) (hi : k % 4 = (3 * i + 1) % 4) : NmOk (pre ++ (⟨#[97 + k]⟩ : Str)) ∧ Lk i (pre ++ (⟨#[97 + k]⟩ : Str)) := by
  have e : (pre ++ (⟨#[97 + k]⟩ : Str)).cps.toList = pre.cps.toList ++ [97 + k] := by
    show (pre.cps ++ #[97 + k]).toList = _
    simp
  have el : (pre ++ (⟨#[97 + k]⟩ : Str)).length = pre.length + 1 := by
    show (pre.cps ++ #[97 + k]).size = pre.cps.size + 1
    simp
  refine ⟨⟨by omega, by rw [el]; omega, fun c hc => ?_⟩, pre.cps.toList, 97 + k, e, by omega, by omega⟩
  rw [e] at hc
  rcases List.mem_append.mp hc with z | z
  · exact hp.1 c z
  · simp at z
    subst z
    exact let_mem hk
end K13

set_option Elab.async false
set_option linter.all false
set_option maxRecDepth 100000
set_option pp.maxSteps 1500
set_option maxHeartbeats 8000000
namespace K13
open PySem PySem.Spec PyProof.Rows L2 TD
/-- the name's first letters -/
theorem pre_spec {S : Sto} {p : Nat} {ρ : TD.Env} (h3 : ρ[3]? = some (some (.str letters))) (h0 : ρ[0]? = some (some (.ref p))) (hl : 8 < ρ.length) (hp : Pl S p) :
    WR (dLc (iRg1 (dCons (dCB (fun S ds => F_law_draw ds S) (dCons (dV 0) (dCons (dC (.int 3)) dNil))) dNil)) (bName 8) tTrue (dOp gSub2 (dV 3) (dCB (fun S ds => F_law_draw ds S) (dCons (dV 0) (dCons (dC (.int 26)) dNil)))) [8] ρ S)
      (fun d S' => d = .ref S.length ∧ ∃ ys : List Str, S'[S.length]? = some (.lst (ys.map D.str)) ∧ ys.length ≤ 2 ∧ (∀ y ∈ ys, ∃ k, k < 26 ∧ y = ⟨#[97 + k]⟩) ∧ Pl S' p ∧ Gw S S' [p] 1) NX := by
  have ip := hp.ins
  have ip' : p < S.length := ip
  have np := ne_old ip
  simp [h0]
  refine TD.WR.step (draw hp (m := 3) (by omega) (by omega)) ?_
  rintro _ S1 ⟨i, rfl, i0, i3, p1, f1⟩
  have l1 : S1.length = S.length := f1.1
  have hr : rngOk i := ⟨by omega, by omega⟩
  have w3 : ∀ d : D, ((wipeD ρ [8]).set 8 (some d))[3]? = some (some (.str letters)) := fun d => by
    simp only [wipeD]
    rw [List.getElem?_set_ne (by decide), List.getElem?_set_ne (by decide)]
    exact h3
  have w0 : ∀ d : D, ((wipeD ρ [8]).set 8 (some d))[0]? = some (some (.ref p)) := fun d => by
    simp only [wipeD]
    rw [List.getElem?_set_ne (by decide), List.getElem?_set_ne (by decide)]
    exact h0
  simp [hr]
  refine wr_lcL (fun ds acc S' => ∃ ys : List Str, acc = ys.map D.str ∧ ys.length + ds.length ≤ 2 ∧ (∀ y ∈ ys, ∃ k, k < 26 ∧ y = ⟨#[97 + k]⟩) ∧ S'[S.length]? = some (.lst acc) ∧ Pl S' p ∧ Gw S S' [p] 1) ?_ ?_ ?_ _ _ _ ⟨[], rfl, by simp [rgD_len]; omega, by simp, ?_, ?_, ?_⟩
  · rintro ds acc S' ⟨ys, _, _, _, h, _⟩
    exact ⟨trivial, by rw [l1]; exact h⟩
  · rintro d ds acc S' ⟨ys, rfl, hl2, hy, e0, pl, gw⟩
    rw [List.length_cons] at hl2
    refine ⟨_, rfl, ?_⟩
    simp [w3 d, w0 d]
    refine TD.WR.step (draw pl (m := 26) (by omega) (by omega)) ?_
    rintro _ S2 ⟨j, rfl, j0, j1, p2, f2⟩
    have e2 : S2[S.length]? = some (.lst (ys.map D.str)) := by rw [f2.2 _ (by simp; omega)]; exact e0
    have hl3 : ys.length < 1000000 := by omega
    simp [l_let, ix_let j0 j1, l1, e2, hl3]
    refine ⟨ys ++ [⟨#[97 + j.toNat]⟩], by simp, by simp; omega, ?_, set_at e2, p2.frame (set_ne (by omega)), (gw.fr f2 (by simp)).set (.inr (Nat.le_refl _)) _⟩
    intro y hy'
    rcases List.mem_append.mp hy' with z | z
    · exact hy y z
    · simp at z
      exact ⟨j.toNat, by omega, z⟩
  · rintro acc S' ⟨ys, rfl, hl2, hy, e0, pl, gw⟩
    exact ⟨by rw [l1], ys, e0, by simpa using hl2, hy, pl, gw⟩
  · rw [← l1]
    simp
  · exact p1.frame (by rw [List.getElem?_append_left]; have := p1.ins; exact this)
  · have := Gw.app (S := S1) (L := [p]) [.lst []]
    exact ⟨by rw [this.1, l1]; rfl, fun i hi hL => by rw [this.2 i (by omega) hL]; exact f1.2 i hL⟩
end K13

set_option Elab.async false
set_option linter.all false
set_option maxRecDepth 100000
set_option pp.maxSteps 1500
set_option maxHeartbeats 8000000
namespace K13
open PySem PySem.Spec PyProof.Rows L2 TD
theorem strs_ok : ∀ ys : List Str, strsOf (ys.map D.str) = some ys
  | [] => rfl
  | y :: ys => by simp [strsOf, strs_ok ys]
theorem sum_len : ∀ {ys : List Str}, (∀ y ∈ ys, ∃ k, k < 26 ∧ y = ⟨#[97 + k]⟩) → (ys.map (·.length)).sum = ys.length
  | [], _ => rfl
  | y :: ys, h => by
    obtain ⟨k, _, rfl⟩ := h y (by simp)
    have ih := sum_len (ys := ys) (fun z hz => h z (List.mem_cons_of_mem _ hz))
    have e : (⟨#[97 + k]⟩ : Str).length = 1 := rfl
    rw [List.map_cons, List.sum_cons, ih, e, List.length_cons]
    omega
theorem deeds_spec {S : Sto} {p m cn : Nat} (hp : Pl S p) (hm1 : 1 ≤ m) (hm6 : m ≤ 6) (hc : cn ≤ 4) : WR (F_law_deeds [.ref p, .int m, .int cn] S) (fun d S' => d = .ref S.length ∧ ∃ deeds : List Dd, 1 ≤ deeds.length ∧ deeds.length ≤ 4 ∧ DsOk m deeds ∧ (∀ d ∈ deeds, NmOk d.name ∧ d.ch ≤ 3) ∧ S'[S.length]? = some (.lst (deeds.map encDd)) ∧ Pl S' p ∧ Gw S S' [p] 1) NX := by
  have ip := hp.ins
  have ip' : p < S.length := ip
  have np := ne_old ip
  unfold F_law_deeds
  apply wr_dfun rfl
  simp [-w_dLc]
  have hp0 : Pl (S ++ [.lst []]) p := hp.frame (by simp [ip])
  refine TD.WR.step (draw hp0 (m := 4) (by omega) (by omega)) ?_
  rintro _ S1 ⟨t, rfl, t0, t4, p1, f1⟩
  have hr : rngOk (1 + t) := ⟨by omega, by omega⟩
  simp [hr, -w_dLc]
  refine ws_forL (fun ds ρ S' => ∃ (deeds : List Dd) (x5 x6 x7 x8 : Option D), ρ = [some (.ref p), some (.int m), some (.int cn), some (.str letters), some (.ref S.length), x5, x6, x7, x8] ∧ ds = rgD (deeds.length : Int) ((1 + t).toNat - deeds.length) ∧ deeds.length ≤ (1 + t).toNat ∧ (∀ i : Nat, ∀ d : Dd, deeds[i]? = some d → Lk i d.name) ∧ (∀ d ∈ deeds, DOk m d ∧ NmOk d.name ∧ d.ch ≤ 3) ∧ S'[S.length]? = some (.lst (deeds.map encDd)) ∧ Pl S' p ∧ S.length + 1 ≤ S'.length ∧ ∀ i : Nat, i < S.length → i ≠ p → S'[i]? = S[i]?) ?_ ?_ ?_ _ _ _ ⟨[], none, none, none, none, rfl, rfl, by simp, by simp, by simp, ?_, p1, ?_, ?_⟩
  · exact fun _ _ _ _ => trivial
  · rintro e ds ρ S' ⟨deeds, x5, x6, x7, x8, rfl, he, hlt, hk, hd, e0, pl, len, old⟩
    rcases Nat.lt_or_ge deeds.length (1 + t).toNat with z | z
    · have e1 : (1 + t).toNat - deeds.length = ((1 + t).toNat - (deeds.length + 1)) + 1 := by omega
      rw [e1, rgD] at he
      cases he
      simp [-w_dLc]
      refine TD.WR.step (pre_spec rfl rfl (by simp) pl) ?_
      rintro _ S2 ⟨rfl, ys, ey, yl, yy, p2, g2⟩
      have es : (Str.ofString "").length = 0 := by decide
      have jn := join2 ys yl yy
      rw [m_join ey (strs_ok ys) (by rw [sum_len yy, es]; omega)]
      have old2 : ∀ i : Nat, i < S.length → i ≠ p → S2[i]? = S[i]? := fun i hi hne => by
        rw [g2.2 i (by omega) (by simp [hne])]
        exact old i hi hne
      have e2 : S2[S.length]? = some (.lst (deeds.map encDd)) := by
        rw [g2.2 _ (by omega) (by simp; omega)]
        exact e0
      have mk1 : ∀ j : Int, TD.MulOk 4 j := fun j => mulOkL (by omega) (by omega)
      have mk2 : ∀ j : Int, TD.MulOk 3 j := fun j => mulOkL (by omega) (by omega)
      simp [mk1, mk2]
      refine TD.WR.step (draw p2 (m := 6) (by omega) (by omega)) ?_
      rintro _ S3 ⟨j, rfl, j0, j1, p3, f3⟩
      have a0 := Int.emod_nonneg (3 * (deeds.length : Int) + 1) (show (4 : Int) ≠ 0 by omega)
      have a1 := Int.emod_lt_of_pos (3 * (deeds.length : Int) + 1) (show (0 : Int) < 4 by omega)
      have k0 : 0 ≤ 4 * j + (3 * (deeds.length : Int) + 1) % 4 := by omega
      have k1 : 4 * j + (3 * (deeds.length : Int) + 1) % 4 < 26 := by omega
      have nm := name_spec (pre := Txt.join (Str.ofString "") ys) (i := deeds.length) (k := (4 * j + (3 * (deeds.length : Int) + 1) % 4).toNat) jn (by omega) (by omega)
      have l1 : (⟨#[97 + (4 * j + (3 * (deeds.length : Int) + 1) % 4).toNat]⟩ : Str).length = 1 := rfl
      have l2 : (Txt.join (Str.ofString "") ys).length + 1 ≤ 1000000 := by have := jn.2; omega
      simp [ix_let k0 k1, l_let, l1, l2, mk1]
      refine TD.WR.step (draw p3 (m := 3) (by omega) (by omega)) ?_
      rintro _ S4 ⟨ch, rfl, c0, c3, p4, f4⟩
      have f34 : TD.Fr S2 S4 [p] := f3.trans f4
      have e4 : S4[S.length]? = some (.lst (deeds.map encDd)) := by rw [f34.2 _ (by simp; omega)]; exact e2
      simp [e4]
      refine TD.WR.step (body_spec p4 hm1 hm6 hc) ?_
      rintro _ S5 ⟨rows, rfl, b1, b2, b3, p5, f5⟩
      have f25 : TD.Fr S2 S5 [p] := f34.trans f5
      have e5 : S5[S.length]? = some (.lst (deeds.map encDd)) := by rw [f25.2 _ (by simp; omega)]; exact e2
      have hl9 : deeds.length < 1000000 := by omega
      have old5 : ∀ i : Nat, i < S.length → i ≠ p → S5[i]? = S[i]? := fun i hi hne => by
        rw [f25.2 i (by simp [hne])]
        exact old2 i hi hne
      simp [e5, hl9]
      refine ⟨deeds ++ [⟨Txt.join (Str.ofString "") ys ++ ⟨#[97 + (4 * j + (3 * (deeds.length : Int) + 1) % 4).toNat]⟩, 1 + ch, rows⟩], ?_, ?_, ?_, ?_, ?_, ?_, ?_, ?_⟩
      · simp
      · simp
        omega
      · intro i d hi
        rw [List.getElem?_append] at hi
        split at hi
        · exact hk i d hi
        · rename_i hge
          rw [List.getElem?_singleton] at hi
          split at hi
          · cases hi
            have : i = deeds.length := by omega
            subst this
            exact nm.2
          · cases hi
      · intro d hdm
        rcases List.mem_append.mp hdm with z | z
        · exact hd d z
        · simp at z
          subst z
          exact ⟨⟨by show 1 ≤ 1 + ch; omega, by show 1 + ch ≤ 9; omega, b1, b2, b3⟩, nm.1, by show 1 + ch ≤ 3; omega⟩
      · rw [set_at e5]
        simp [encDd]
      · exact p5.frame (set_ne (by omega))
      · have := f25.1
        have := g2.1
        omega
      · intro i hi hne
        rw [set_ne (by omega)]
        exact old5 i hi hne
    · rw [Nat.sub_eq_zero_of_le z] at he
      simp [rgD] at he
  · rintro ρ S' ⟨deeds, x5, x6, x7, x8, rfl, he, hlt, hk, hd, e0, pl, len, old⟩
    have hz : (1 + t).toNat - deeds.length = 0 := by
      rcases Nat.lt_or_ge deeds.length (1 + t).toNat with z | z
      · have e1 : (1 + t).toNat - deeds.length = ((1 + t).toNat - (deeds.length + 1)) + 1 := by omega
        rw [e1, rgD] at he
        cases he
      · omega
    have hlen : deeds.length = (1 + t).toNat := by omega
    have nd : (deeds.map (·.name)).Nodup := by
      rw [List.nodup_iff_pairwise_ne, List.pairwise_iff_getElem]
      intro i j hi hj hij e
      simp only [List.length_map] at hi hj
      simp only [List.getElem_map] at e
      have := lk_ne (hk i deeds[i] (List.getElem?_eq_getElem hi)) (hk j deeds[j] (List.getElem?_eq_getElem hj)) (by omega) (by omega) e
      omega
    have cl : clO S.length (.lst (deeds.map encDd)) = true := by
      have k : ∀ l : List Dd, (∀ d ∈ l, d ∈ deeds) → clDs S.length (l.map encDd) = true := fun l => by
        induction l with
        | nil => intro _; rfl
        | cons d l ih =>
          intro h
          rw [List.map_cons, clDs_cons, pl_cl S.length 20 _ (pl_D (hd d (h d (by simp))).1), ih (fun z hz => h z (by simp [hz]))]
          rfl
      exact k deeds fun _ h => h
    have go : gcOk S S' := ⟨by omega, fun i o hi ho => by
      by_cases hip : i = p
      · subst hip
        obtain ⟨a1, a2, a3, a4, _⟩ := pl
        rw [a4] at ho
        cases ho
        exact .inr rfl
      · rw [old i hi hip] at ho
        exact .inl ho⟩
    have hg : gc S (.ok (.ref S.length) S') = .ok (.ref S.length) (S'.take S.length ++ [.lst (deeds.map encDd)]) := by
      have e1 : clD S.length (.ref S.length) = false := by simp
      simp only [gc, e1, e0, if_pos go, cl, if_true, Bool.false_eq_true, if_false]
    have tk : ∀ i : Nat, i < S.length → (S'.take S.length ++ [DO.lst (deeds.map encDd)])[i]? = S'[i]? := fun i hi => by
      rw [List.getElem?_append_left (by rw [List.length_take]; omega), List.getElem?_take, if_pos hi]
    simp
    rw [hg]
    refine ⟨rfl, deeds, by omega, by omega, ⟨nd, fun d h => (hd d h).1⟩, fun d h => (hd d h).2, ?_, pl.frame (tk p ip'), by rw [List.length_append, List.length_take]; simp; omega, fun i hi hne => ?_⟩
    · have e3 : (S'.take S.length).length = S.length := by rw [List.length_take]; omega
      rw [List.getElem?_append_right (by omega), e3, Nat.sub_self]
      rfl
    · rw [tk i hi]
      exact old i hi (by simpa using hne)
  · rw [f1.2 _ (by simp; omega)]
    simp
  · rw [f1.1]
    simp
  · intro i hi hne
    rw [f1.2 _ (by simp [hne]), List.getElem?_append_left hi]
end K13

set_option Elab.async false
set_option linter.all false
set_option maxRecDepth 100000
set_option pp.maxSteps 1500
set_option maxHeartbeats 8000000
namespace K13
open PySem PySem.Spec PyProof.Rows L2 TD
mutual
theorem G_flat {m d l : Nat} : ∀ r : Rw, r.G m 0 2 → r.G m d l
  | .read _ _, g => by simpa [Rw.G] using g
  | .set _ _, g => by simpa [Rw.G] using g
  | .swap _ _ _ _, g => by simpa [Rw.G] using g
  | .keep _ _, g => by simpa [Rw.G] using g
  | .ans _, g => by simpa [Rw.G] using g
  | .coin _, g => by simp [Rw.G] at g
  | .ite e a b, g => by simp [Rw.G] at g
  | .times e b, g => by simp [Rw.G] at g
theorem GL_flat {m d l : Nat} : ∀ rs : List Rw, GL m 0 2 rs → GL m d l rs
  | [], g => trivial
  | r :: rs, g => by
    obtain ⟨g1, g2⟩ := (show r.G m 0 2 ∧ GL m 0 2 rs by simpa [GL] using g)
    exact ⟨G_flat r g1, GL_flat rs g2⟩
end
/-- the old part of a store has changed at L alone -/
structure Ol (S S' : Sto) (L : List Nat) : Prop where
  len : S.length ≤ S'.length
  old : ∀ i : Nat, i < S.length → i ∉ L → S'[i]? = S[i]?
theorem Ol.rfl' {S : Sto} {L : List Nat} : Ol S S L := ⟨Nat.le_refl _, fun _ _ _ => rfl⟩
theorem Ol.fr {S S1 S2 : Sto} {L M : List Nat} (h : Ol S S1 L) (f : TD.Fr S1 S2 M) (hs : ∀ i ∈ M, i ∈ L ∨ S.length ≤ i) : Ol S S2 L := ⟨by rw [f.1]; exact h.len, fun i hi hL => by
  rw [f.2 i (fun z => by rcases hs i z with y | y; exact hL y; omega)]
  exact h.old i hi hL⟩
theorem Ol.app {S S1 : Sto} {L : List Nat} (h : Ol S S1 L) (T : Sto) : Ol S (S1 ++ T) L := ⟨by rw [List.length_append]; have := h.len; omega, fun i hi hL => by
  rw [List.getElem?_append_left (by have := h.len; omega)]
  exact h.old i hi hL⟩
theorem Ol.set {S S1 : Sto} {L : List Nat} (h : Ol S S1 L) {q : Nat} (hq : q ∈ L ∨ S.length ≤ q) (o : DO) : Ol S (S1.set q o) L := ⟨by rw [List.length_set]; exact h.len, fun i hi hL => by
  rw [set_ne (fun e => by rcases hq with y | y; exact hL (e ▸ y); omega)]
  exact h.old i hi hL⟩
theorem gtree {S S5 : Sto} {p b m k bud : Nat} {rows : List Rw} (hp : p < S.length) (hb : b < S.length) (p5 : Pl S5 p) (b5 : S5[b]? = some (.lst [.int bud])) (o : Ol S S5 [p, b]) (g : GL m k 0 rows) (hw : wkL rows ≤ 100000) :
    gc S (.ok (.tup (encL rows)) S5) = .ok (.tup (encL rows)) (S5.take S.length) ∧ (S5.take S.length)[b]? = some (.lst [.int bud]) ∧ Pl (S5.take S.length) p ∧ TD.Fr S (S5.take S.length) [p, b] := by
  have tk : ∀ i : Nat, i < S.length → (S5.take S.length)[i]? = S5[i]? := fun i hi => by
    rw [List.getElem?_take, if_pos hi]
  have hle := o.len
  refine ⟨gc_take hle (fun i o' hi ho => ?_) (cl_rows g hw), by rw [tk b hb]; exact b5, p5.frame (tk p hp), by rw [List.length_take]; omega, fun i hi => ?_⟩
  · by_cases hip : i = p
    · subst hip
      obtain ⟨a1, a2, a3, a4, _⟩ := p5
      rw [a4] at ho
      cases ho
      exact .inr rfl
    · by_cases hib : i = b
      · subst hib
        rw [b5] at ho
        cases ho
        exact .inr rfl
      · rw [o.old i hi (by simp [hip, hib])] at ho
        exact .inl ho
  · rcases Nat.lt_or_ge i S.length with z | z
    · rw [tk i z]
      exact o.old i z hi
    · rw [List.getElem?_eq_none (by rw [List.length_take]; omega), List.getElem?_eq_none z]
def TQ (S : Sto) (p b m k bud : Nat) : D → Sto → Prop := fun d S' => ∃ (rows : List Rw) (bud' : Nat), d = .tup (encL rows) ∧ GL m k 0 rows ∧ wkL rows ≤ 2 + 9 * cnsL rows ∧ cnsL rows + bud' = bud ∧ S'[b]? = some (.lst [.int bud']) ∧ Pl S' p ∧ TD.Fr S S' [p, b]
theorem mtree : ∀ (n k : Nat) (S : Sto) (p b m bud : Nat), k < n → k ≤ 4 → 1 ≤ m → m ≤ 6 → bud ≤ 100 → p ≠ b → Pl S p → S[b]? = some (.lst [.int bud]) →
    WR (F_law_coin_tree n [.ref p, .int m, .int k, .ref b] S) (TQ S p b m k bud) NX
  | 0, k, S, p, b, m, bud, h, _, _, _, _, _, _, _ => absurd h (Nat.not_lt_zero _)
  | n + 1, k, S, p, b, m, bud, h, hk, hm1, hm6, hbud, hpb, hp, hb => by
    have ip := hp.ins
    have ib := ins_of hb
    have ip' : p < S.length := ip
    have ib' : b < S.length := ib
    unfold F_law_coin_tree
    apply wr_dfun rfl
    simp
    have kk := mrows 5 0 2 (S ++ [.lst [.int 0]]) p S.length m 0 (by omega) (by omega) (by omega) hm1 hm6 (by omega) (hp.frame (by simp [ip])) (by simp)
    rw [show ((0 : Nat) : Int) = 0 from rfl, show ((2 : Nat) : Int) = 2 from rfl] at kk
    refine TD.WR.step kk ?_
    rintro _ S1 ⟨r0, bu0, rfl, g0, w0, c0, e0, p1, f1⟩
    have o1 : Ol S S1 [p, b] := (Ol.rfl'.app [.lst [.int 0]]).fr f1 (by simp)
    have c0' : cnsL r0 = 0 := by omega
    have w0' : wkL r0 ≤ 2 := w0
    have g0' : GL m k 0 r0 := GL_flat r0 g0
    have b1 : S1[b]? = some (.lst [.int bud]) := by rw [f1.2 _ (by simp; omega)]; simp [ib, hb]
    have leaf : WR (gc S (.ok (.tup (encL r0)) S1)) (TQ S p b m k bud) NX := by
      obtain ⟨q1, q2, q3, q4⟩ := gtree ip' ib' p1 b1 o1 g0' (by omega)
      rw [q1]
      exact ⟨r0, bud, rfl, g0', by omega, by omega, q2, q3, q4⟩
    by_cases k0 : k = 0
    · subst k0
      simpa using leaf
    by_cases bz : bud = 0
    · subst bz
      simp at b1
      simpa [k0, b1] using leaf
    obtain ⟨k', rfl⟩ : ∃ k', k = k' + 1 := ⟨k - 1, by omega⟩
    obtain ⟨bu, rfl⟩ : ∃ k', bud = k' + 1 := ⟨bud - 1, by omega⟩
    have hb3 : ((bu : Nat) : Int) + 1 - 1 = (bu : Nat) := by omega
    have hb0 : ¬ ((bu : Int) + 1 = 0) := by omega
    have hk3 : ((k' : Nat) : Int) + 1 - 1 = (k' : Nat) := by omega
    have j1 := ins_of b1
    have b1' := b1
    simp at b1'
    simp [b1', hb0, hb3]
    have b2 : (S1.set b (.lst [.int bu]))[b]? = some (.lst [.int bu]) := set_at b1
    have p2 : Pl (S1.set b (.lst [.int bu])) p := p1.frame (set_ne (fun e => hpb e.symm))
    have o2 : Ol S (S1.set b (.lst [.int bu])) [p, b] := o1.set (.inl (by simp)) _
    generalize S1.set b (.lst [.int bu]) = S2 at b2 p2 o2 ⊢
    refine TD.WR.step (draw p2 (m := 4) (by omega) (by omega)) ?_
    rintro _ S3 ⟨j, rfl, j0, jl, p3, f3⟩
    obtain ⟨ch, ec, rg, rx, er⟩ := ix_keep j0 jl
    have b3 : S3[b]? = some (.lst [.int bu]) := by rw [f3.2 _ (by simp; exact fun e => hpb e.symm)]; exact b2
    have o3 := o2.fr f3 (by simp)
    simp [ec, er, l_abcd]
    refine TD.WR.step (e_spec 6 1 S3 p (by omega) p3) ?_
    rintro _ S4 ⟨ex, rfl, ex1, ex2, p4, f4⟩
    have b4 : S4[b]? = some (.lst [.int bu]) := by rw [f4.2 _ (by simp; exact fun e => hpb e.symm)]; exact b3
    have o4 := o3.fr f4 (by simp)
    have l4 := o4.len
    refine TD.WR.step (draw (p4.frame (List.getElem?_append_left (by omega))) (m := 3) (by omega) (by omega)) ?_
    rintro _ S5 ⟨t, rfl, t0, t1, p5, f5⟩
    have s5 : S5[S4.length]? = some (.lst [.str (Str.ofString rg.s), .tup [.str (Str.ofString "="), .str (Str.ofString rg.s), .str (Str.ofString "x")], encE ex]) := by
      rw [f5.2 _ (by simp; omega)]
      exact app_at S4 _ 0
    have b5 : S5[b]? = some (.lst [.int bu]) := by rw [f5.2 _ (by simp; exact fun e => hpb e.symm), List.getElem?_append_left (by omega)]; exact b4
    have o5 := (o4.app [DO.lst [.str (Str.ofString rg.s), .tup [.str (Str.ofString "="), .str (Str.ofString rg.s), .str (Str.ofString "x")], encE ex]]).fr f5 (by simp)
    obtain ⟨te, et, tG⟩ : ∃ te : Ex, atI [D.str (Str.ofString rg.s), .tup [.str (Str.ofString "="), .str (Str.ofString rg.s), .str (Str.ofString "x")], encE ex] t = some (encE te) ∧ te.G := by
      have : t = 0 ∨ t = 1 ∨ t = 2 := by omega
      rcases this with rfl | rfl | rfl
      · exact ⟨.reg rg, rfl, trivial, Nat.zero_le _⟩
      · exact ⟨.op .eq (.reg rg) (.reg .x), rfl, ⟨trivial, trivial⟩, by simp [Ex.dep]⟩
      · exact ⟨ex, rfl, ex1, by omega⟩
    simp [s5, et]
    refine TD.WR.step (draw p5 (m := m) (by omega) (by omega)) ?_
    rintro _ S6 ⟨c, rfl, ce0, ce1, p6, f6⟩
    obtain ⟨c, rfl⟩ : ∃ cn : Nat, c = cn := ⟨c.toNat, by omega⟩
    have e6k := e_spec 6 0 S6 p (by omega) p6
    rw [show ((0 : Nat) : Int) = 0 from rfl] at e6k
    refine TD.WR.step e6k ?_
    rintro _ S7 ⟨ey, rfl, ey1, ey2, p7, f7⟩
    have f57 : TD.Fr S5 S7 [p] := f6.trans f7
    have b7 : S7[b]? = some (.lst [.int bu]) := by rw [f57.2 _ (by simp; exact fun e => hpb e.symm)]; exact b5
    have o7 := o5.fr f57 (by simp)
    refine TD.WR.step (mtree n k' S7 p b m bu (by omega) (by omega) hm1 hm6 (by omega) hpb p7 b7) ?_
    rintro _ S8 ⟨ra, bu1, rfl, ga, wa, ca, b8, p8, f8⟩
    have o8 := o7.fr f8 (fun i hi => .inl hi)
    refine TD.WR.step (mtree n k' S8 p b m bu1 (by omega) (by omega) hm1 hm6 (by omega) hpb p8 b8) ?_
    rintro _ S9 ⟨rb, bu2, rfl, gb, wb, cb, b9, p9, f9⟩
    have o9 := o8.fr f9 (fun i hi => .inl hi)
    have l0 := len_wk r0
    refine ⟨by rw [encL_len]; omega, ?_⟩
    refine TD.WR.step (mtree n k' S9 p b m bu2 (by omega) (by omega) hm1 hm6 (by omega) hpb p9 b9) ?_
    rintro _ S10 ⟨rc, bu3, rfl, gc', wc, cc, b10, p10, f10⟩
    have o10 := o9.fr f10 (fun i hi => .inl hi)
    have hcm : c < m := by omega
    have eqr : encL (r0 ++ ([.coin rg, .set c (.op .add (.reg rg) ey), .ite te ra rb] ++ rc)) = encL r0 ++ [D.tup [.str (Str.ofString "coin"), .str (Str.ofString rg.s)], .tup [.str (Str.ofString "set"), .int c, .tup [.str (Str.ofString "+"), .str (Str.ofString rg.s), encE ey]], .tup [.str (Str.ofString "if"), encE te, .tup (encL ra), .tup (encL rb)]] ++ encL rc := by
      rw [encL_app, encL_app, List.append_assoc]
      rfl
    have gA : GL m (k' + 1) 0 (r0 ++ ([.coin rg, .set c (.op .add (.reg rg) ey), .ite te ra rb] ++ rc)) := GL_app g0' (GL_app ⟨⟨rx, rfl⟩, ⟨hcm, ⟨trivial, ey1⟩, by simp only [Ex.dep]; omega⟩, ⟨tG, by omega, by simpa using ga, by simpa using gb⟩, trivial⟩ (GL_up rc k' (k' + 1) 0 (by omega) gc'))
    have cA : cnsL (r0 ++ ([.coin rg, .set c (.op .add (.reg rg) ey), .ite te ra rb] ++ rc)) = 1 + cnsL ra + cnsL rb + cnsL rc := by
      rw [cnsL_app, cnsL_app]
      simp only [cnsL, Rw.cns]
      omega
    have wA : wkL (r0 ++ ([.coin rg, .set c (.op .add (.reg rg) ey), .ite te ra rb] ++ rc)) ≤ 2 + 9 * (1 + cnsL ra + cnsL rb + cnsL rc) := by
      rw [wkL_app, wkL_app]
      simp only [wkL, Rw.wk]
      omega
    obtain ⟨q1, q2, q3, q4⟩ := gtree ip' ib' p10 b10 o10 gA (by omega)
    have lc := len_wk rc
    rw [g_addT, ← eqr, q1]
    refine ⟨by simp [encL_len]; omega, _, bu3, rfl, gA, by rw [cA]; exact wA, by rw [cA]; omega, q2, q3, q4⟩
/-- the deeds of which one is a tree of coins -/
theorem cvault_spec {S : Sto} {p ci : Nat} {cells : List (Int × Int)} (hp : Pl S p) (hc : S[ci]? = some (.lst (cells.map encC))) (hne : ci ≠ p) (hm1 : 1 ≤ cells.length) (hm6 : cells.length ≤ 6) :
    WR (F_law_coin_vault [.ref p, .ref ci] S) (fun d S' => d = .ref S.length ∧ ∃ deeds : List Dd, 1 ≤ deeds.length ∧ deeds.length ≤ 4 ∧ DsOk cells.length deeds ∧ (∀ d ∈ deeds, NmOk d.name ∧ d.ch ≤ 3) ∧ S'[S.length]? = some (.lst (deeds.map encDd)) ∧ Pl S' p ∧ Gw S S' [p] 1) NX := by
  have ip := hp.ins
  have ip' : p < S.length := ip
  have ic := ins_of hc
  have ic' : ci < S.length := ic
  unfold F_law_coin_vault
  apply wr_dfun rfl
  simp [hc]
  have kd := deeds_spec (cn := 4) hp hm1 hm6 (by omega)
  rw [show ((4 : Nat) : Int) = 4 from rfl] at kd
  refine TD.WR.step kd ?_
  rintro _ S1 ⟨rfl, deeds, d1, d4, hD, hN, e1, p1, g1⟩
  have l1 := g1.1
  simp [e1]
  refine TD.WR.step (draw p1 (m := deeds.length) (by omega) (by omega)) ?_
  rintro _ S2 ⟨j, rfl, j0, jl, p2, f2⟩
  have hc2 : S2[ci]? = some (.lst (cells.map encC)) := by
    rw [f2.2 _ (by simp [hne]), g1.2 _ ic' (by simp [hne])]
    exact hc
  simp [hc2]
  refine TD.WR.step (draw p2 (m := 4) (by omega) (by omega)) ?_
  rintro _ S3 ⟨t, rfl, t0, tl, p3, f3⟩
  obtain ⟨bu, hbu⟩ : ∃ bu : Nat, 1 + t = bu := ⟨(1 + t).toNat, by omega⟩
  have f13 : TD.Fr S1 S3 [p] := f2.trans f3
  have l3 := f13.1
  have b3 : (S3 ++ [DO.lst [.int (1 + t)]])[S3.length]? = some (.lst [.int bu]) := by
    rw [← hbu]
    exact app_at S3 _ 0
  have kt := mtree 6 4 (S3 ++ [.lst [.int (1 + t)]]) p S3.length cells.length bu (by omega) (by omega) hm1 hm6 (by omega) (by omega) (p3.frame (List.getElem?_append_left (by omega))) b3
  rw [show ((4 : Nat) : Int) = 4 from rfl] at kt
  simp
  refine TD.WR.step kt ?_
  rintro _ S4 ⟨rows, bu', rfl, gr, wr, cr, b4, p4, f4⟩
  have e4 : S4[S.length]? = some (.lst (deeds.map encDd)) := by
    rw [f4.2 _ (by simp; omega), List.getElem?_append_left (by omega), f13.2 _ (by simp; omega)]
    exact e1
  have hj : j.toNat < deeds.length := by omega
  have ej : atI (deeds.map encDd) j = some (encDd deeds[j.toNat]) := by
    rw [atI_nn _ j0, List.getElem?_map, List.getElem?_eq_getElem hj]
    rfl
  have lr := len_wk rows
  simp [e4, ej, encDd]
  refine TD.WR.step (e_spec 6 2 S4 p (by omega) p4) ?_
  rintro _ S5 ⟨ex, rfl, ex1, ex2, p5, f5⟩
  refine ⟨by rw [encL_len]; omega, ?_⟩
  have e5 : S5[S.length]? = some (.lst (deeds.map encDd)) := by
    rw [f5.2 _ (by simp; omega)]
    exact e4
  have hix : ixN deeds.length j = some j.toNat := by
    have := ixN_at hj
    rwa [Int.toNat_of_nonneg j0] at this
  simp [e5, hix]
  have eD : (deeds.map encDd).set j.toNat (.tup [.str deeds[j.toNat].name, .int deeds[j.toNat].ch, .tup (encL rows ++ [.tup [.str (Str.ofString "answer"), encE ex]])]) = (deeds.set j.toNat ⟨deeds[j.toNat].name, deeds[j.toNat].ch, rows ++ [.ans ex]⟩).map encDd := by
    rw [List.map_set]
    congr 1
    simp [encDd, encL_app, encL, encR]
  rw [eD]
  have nm : (deeds.set j.toNat ⟨deeds[j.toNat].name, deeds[j.toNat].ch, rows ++ [.ans ex]⟩).map (·.name) = deeds.map (·.name) := by
    rw [List.map_set]
    apply List.ext_getElem?
    intro i
    rw [List.getElem?_set]
    split
    · rename_i h
      subst h
      simp [hj]
    · rfl
  have hlen : (deeds.set j.toNat ⟨deeds[j.toNat].name, deeds[j.toNat].ch, rows ++ [.ans ex]⟩).length = deeds.length := by rw [List.length_set]
  have mem : ∀ d ∈ deeds.set j.toNat ⟨deeds[j.toNat].name, deeds[j.toNat].ch, rows ++ [.ans ex]⟩, DOk cells.length d ∧ NmOk d.name ∧ d.ch ≤ 3 := fun d hd => by
    rcases List.mem_or_eq_of_mem_set hd with z | z
    · exact ⟨hD.2 d z, hN d z⟩
    · subst z
      have hm : deeds[j.toNat] ∈ deeds := List.getElem_mem hj
      obtain ⟨a1, a2, _⟩ := hD.2 _ hm
      refine ⟨⟨a1, a2, GL_app (GL_up rows 4 5 0 (by omega) gr) ⟨⟨ex1, by omega⟩, trivial⟩, ?_, ?_⟩, (show NmOk deeds[j.toNat].name from (hN _ hm).1), (show deeds[j.toNat].ch ≤ 3 from (hN _ hm).2)⟩
      · rw [wkL_app]
        simp only [wkL, Rw.wk]
        omega
      · rw [cnsL_app]
        simp only [cnsL, Rw.cns]
        omega
  generalize deeds.set j.toNat ⟨deeds[j.toNat].name, deeds[j.toNat].ch, rows ++ [.ans ex]⟩ = D2 at nm hlen mem ⊢
  have cl : clO S.length (.lst (D2.map encDd)) = true := by
    have k : ∀ l : List Dd, (∀ d ∈ l, d ∈ D2) → clDs S.length (l.map encDd) = true := fun l => by
      induction l with
      | nil => intro _; rfl
      | cons d l ih =>
        intro h
        rw [List.map_cons, clDs_cons, pl_cl S.length 20 _ (pl_D (mem d (h d (by simp))).1), ih (fun z hz => h z (by simp [hz]))]
        rfl
    exact k D2 fun _ h => h
  have o5 : Ol S S5 [p] := ⟨by have := f5.1; have := f4.1; simp at *; omega, fun i hi hne => by
    rw [f5.2 i hne, f4.2 i (by simp at hne; simp [hne]; omega), List.getElem?_append_left (by omega), f13.2 i hne]
    exact g1.2 i hi hne⟩
  have oS := o5.set (q := S.length) (.inr (Nat.le_refl _)) (.lst (D2.map encDd))
  have eS : (S5.set S.length (.lst (D2.map encDd)))[S.length]? = some (.lst (D2.map encDd)) := set_at e5
  have pS : Pl (S5.set S.length (.lst (D2.map encDd))) p := p5.frame (set_ne (by omega))
  generalize S5.set S.length (.lst (D2.map encDd)) = S6 at oS eS pS ⊢
  have go : gcOk S S6 := ⟨oS.len, fun i o hi ho => by
    by_cases hip : i = p
    · subst hip
      obtain ⟨a1, a2, a3, a4, _⟩ := pS
      rw [a4] at ho
      cases ho
      exact .inr rfl
    · rw [oS.old i hi (by simp [hip])] at ho
      exact .inl ho⟩
  have hg : gc S (.ok (.ref S.length) S6) = .ok (.ref S.length) (S6.take S.length ++ [.lst (D2.map encDd)]) := by
    have e1 : clD S.length (.ref S.length) = false := by simp
    simp only [gc, e1, eS, if_pos go, cl, if_true, Bool.false_eq_true, if_false]
  have hle := oS.len
  have tk : ∀ i : Nat, i < S.length → (S6.take S.length ++ [DO.lst (D2.map encDd)])[i]? = S6[i]? := fun i hi => by
    rw [List.getElem?_append_left (by rw [List.length_take]; omega), List.getElem?_take, if_pos hi]
  rw [hg]
  refine ⟨rfl, D2, by omega, by omega, ⟨by rw [nm]; exact hD.1, fun d h => (mem d h).1⟩, fun d h => (mem d h).2, ?_, pS.frame (tk p ip'), by rw [List.length_append, List.length_take]; simp; omega, fun i hi hne => ?_⟩
  · have e3 : (S6.take S.length).length = S.length := by rw [List.length_take]; omega
    rw [List.getElem?_append_right (by omega), e3, Nat.sub_self]
    rfl
  · rw [tk i hi]
    exact oS.old i hi hne
end K13

set_option Elab.async false
set_option linter.all false
set_option maxRecDepth 100000
set_option pp.maxSteps 1500
set_option maxHeartbeats 8000000
namespace K13
open PySem PySem.Spec PyProof.Rows L2 TD
/-- a call of the deeds -/
def CallOk (deeds : List Dd) (c : D) : Prop := ∃ d ∈ deeds, ∃ a : Int, c = .tup [.str d.name, .int a] ∧ 0 ≤ a ∧ a < d.ch
theorem calls_spec {S : Sto} {q : Nat} {deeds : List Dd} (hq : S[q]? = some (.lst (deeds.map encDd))) (h1 : 1 ≤ deeds.length) (h8 : deeds.length ≤ 8) (hch : ∀ d ∈ deeds, 1 ≤ d.ch ∧ d.ch ≤ 9) :
    WR (F_law_calls [.ref q] S) (fun r S' => r = .ref S.length ∧ ∃ cs : List D, S' = S ++ [.lst cs] ∧ 1 ≤ cs.length ∧ cs.length ≤ 100 ∧ ∀ c ∈ cs, CallOk deeds c) NX := by
  have iq := ins_of hq
  unfold F_law_calls
  apply wr_dfun rfl
  simp [iq, hq]
  refine ws_forL (fun ds ρ S' => ∃ (es' es : List Dd) (x y : Option D) (cs : List D), deeds = es' ++ es ∧ ds = es.map encDd ∧ ρ = [some (.ref q), some (.ref S.length), x, y] ∧ S' = S ++ [.lst cs] ∧ es'.length ≤ cs.length ∧ cs.length ≤ 9 * es'.length ∧ ∀ c ∈ cs, CallOk deeds c) ?_ ?_ ?_ _ _ _ ⟨[], deeds, none, none, [], rfl, rfl, rfl, rfl, Nat.le_refl _, Nat.le_refl _, by simp⟩
  · rintro ds ρ S' ⟨es', es, x, y, cs, _, _, _, rfl, _⟩
    simp [iq, hq]
  · rintro e ds ρ S' ⟨es', es, x, y, cs, he, hds, rfl, rfl, l1, l2, hc⟩
    cases es with
    | nil => simp at hds
    | cons d es =>
      obtain ⟨rfl, rfl⟩ := (show e = encDd d ∧ ds = es.map encDd by simpa using hds)
      have hd : d ∈ deeds := by rw [he]; simp
      obtain ⟨c1, c9⟩ := hch d hd
      have hle : es'.length < 8 := by
        have := congrArg List.length he
        simp at this
        omega
      have hr : rngOk d.ch := ⟨by omega, by omega⟩
      simp only [bName_eq]
      refine ⟨_, rfl, ?_⟩
      simp only [w_sFor, w_iRg1, w_dCons, w_dNil, w_dOp, w_dV, w_dC, List.set_cons_succ, List.set_cons_zero, List.getElem?_cons_succ, List.getElem?_cons_zero, varP_some, encDd, g_ixT, atI_1, optP_some]
      refine ⟨d.ch, rfl, hr, ?_⟩
      refine ws_forL (fun ts ρ S2 => ∃ (y : Option D) (j : Nat) (cs2 : List D), ρ = [some (.ref q), some (.ref S.length), some (.tup [.str d.name, .int d.ch, .tup (encL d.rows)]), y] ∧ ts = rgD (j : Int) (d.ch.toNat - j) ∧ j ≤ d.ch.toNat ∧ S2 = S ++ [.lst cs2] ∧ cs2.length = cs.length + j ∧ ∀ c ∈ cs2, CallOk deeds c) ?_ ?_ ?_ _ _ _ ⟨y, 0, cs, rfl, rfl, Nat.zero_le _, rfl, rfl, hc⟩
      · exact fun _ _ _ _ => trivial
      · rintro t ts ρ S2 ⟨y, j, cs2, rfl, ht, hj, rfl, hl, hc2⟩
        rcases Nat.lt_or_ge j d.ch.toNat with z | z
        · have e1 : d.ch.toNat - j = (d.ch.toNat - (j + 1)) + 1 := by omega
          rw [e1, rgD] at ht
          cases ht
          have hl3 : cs2.length < 1000000 := by omega
          simp [hl3]
          refine ⟨j + 1, by simp, by omega, by omega, ?_⟩
          intro c hcm
          rcases hcm with z | z
          · exact hc2 c z
          · subst z
            exact ⟨d, hd, j, rfl, by omega, by omega⟩
        · rw [Nat.sub_eq_zero_of_le z] at ht
          simp [rgD] at ht
      · rintro ρ S2 ⟨y, j, cs2, rfl, ht, hj, rfl, hl, hc2⟩
        have hz : j = d.ch.toNat := by
          rcases Nat.lt_or_ge j d.ch.toNat with z | z
          · have e1 : d.ch.toNat - j = (d.ch.toNat - (j + 1)) + 1 := by omega
            rw [e1, rgD] at ht
            cases ht
          · omega
        exact ⟨es' ++ [d], es, _, y, cs2, by simp [he], rfl, rfl, rfl, by simp; omega, by simp; omega, hc2⟩
  · rintro ρ S' ⟨es', es, x, y, cs, he, hds, rfl, rfl, l1, l2, hc⟩
    have hes : es = [] := by
      cases es with
      | nil => rfl
      | cons c es => simp at hds
    subst hes
    rw [List.append_nil] at he
    subst he
    simp
    rw [gc_fresh (by simp)]
    exact ⟨rfl, cs, rfl, by omega, by omega, hc⟩
end K13

set_option Elab.async false
set_option linter.all false
set_option maxRecDepth 100000
set_option pp.maxSteps 1500
set_option maxHeartbeats 4000000
namespace K13
open PySem PySem.Spec PyProof.Rows L2 TD
structure Cl where
  d : Dd
  a : Int
def encCl (c : Cl) : D := .tup [.str c.d.name, .int c.a]
def ClOk (deeds : List Dd) (c : Cl) : Prop := c.d ∈ deeds ∧ 0 ≤ c.a ∧ c.a < c.d.ch
theorem row_fault_ok {S : Sto} {C : Vc} (W : VtAt C S) (hn : (C.deeds.map (·.name)).Nodup) {n : Nat} {cs : List Cl} (hq : S[n]? = some (.lst (cs.map encCl))) (hc : ∀ c ∈ cs, ClOk C.deeds c) : F_row_fault [.ref C.v, .ref n] S = .ok .non S := by
  apply WR.eq
  unfold F_row_fault
  apply wr_dfun rfl
  simp [hq, TD.listOf]
  refine ws_forL (fun ds ρ S' => ∃ (k : Nat) (r : List Cl) (x y : Option D), ρ = [some (.ref C.v), some (.ref n), x, y] ∧ ds = enD k (r.map encCl) ∧ (∀ c ∈ r, ClOk C.deeds c) ∧ S' = S) ?_ ?_ ?_ _ _ _ ⟨0, cs, none, none, rfl, rfl, hc, rfl⟩
  · rintro ds ρ S' ⟨k, r, x, y, rfl, rfl, _, rfl⟩
    simpa [guardOf, TD.listOf] using hq
  · rintro e ds ρ S' ⟨k, r, x, y, rfl, he, hr, rfl⟩
    cases r with
    | nil => cases he
    | cons c r =>
      simp only [List.map_cons, enD, List.cons.injEq] at he
      obtain ⟨rfl, rfl⟩ := he
      obtain ⟨c1, c2, c3⟩ := hr c (by simp)
      simp [bTup, bCons, bNil, encCl, is_call_ok W hn c1 c2 c3]
      exact ⟨k + 1, r, rfl, fun c hc => hr c (by simp [hc])⟩
  · rintro ρ S' ⟨k, r, x, y, rfl, he, hr, rfl⟩
    simp
theorem check_row_ok {S : Sto} {C : Vc} (W : VtAt C S) (hn : (C.deeds.map (·.name)).Nodup) {n : Nat} {cs : List Cl} (hq : S[n]? = some (.lst (cs.map encCl))) (hc : ∀ c ∈ cs, ClOk C.deeds c) : F_check_row [.ref C.v, .ref n] S = .ok .non S := by
  apply WR.eq
  unfold F_check_row
  apply wr_dfun rfl
  simp [row_fault_ok W hn hq hc]
theorem cd_eq {S : Sto} {w t : Nat} (h : w * t < 2 ^ 200) : F_common_divisor [.int w, .int t] S = .ok (.int (Nat.gcd w t : Nat)) S := by
  apply WR.eq
  unfold F_common_divisor
  apply wr_dfun rfl
  simp only [w_sSeq, w_sWhile]
  refine ws_whileL (fun n ρ S' => ∃ a b k : Nat, ρ = [some (.int a), some (.int b)] ∧ S' = S ∧ Nat.gcd a b = Nat.gcd w t ∧ a * b < 2 ^ k ∧ (k + 2 ≤ n ∨ (b ≤ a ∧ k + 1 ≤ n))) ?_ ?_ _ _ _ ⟨w, t, 200, rfl, rfl, rfl, h, .inl (by omega)⟩
  · rintro n ρ S' ⟨a, b, k, rfl, rfl, hg, hk, ho⟩
    by_cases hb : b = 0
    · subst hb
      simp at hg
      simp [hg]
    · have hb' : ¬ ((b : Int) = 0) := by omega
      have hb0 : 0 < b := by omega
      simp [hb, hb0]
      have g2 : Nat.gcd b (a % b) = Nat.gcd w t := by rw [Nat.gcd_comm, ← Nat.gcd_rec, Nat.gcd_comm, hg]
      have e2 : ((a : Int) % (b : Int)) = ((a % b : Nat) : Int) := by simp
      have big : b ≤ a → ∃ j, k = j + 1 := fun hba => by
        cases k with
        | zero =>
          have : 1 ≤ a * b := Nat.mul_pos (by omega) (by omega)
          omega
        | succ j => exact ⟨j, rfl⟩
      have st : b ≤ a → ∃ k', k = k' + 1 ∧ b * (a % b) < 2 ^ k' ∧ a % b ≤ b := fun hba => by
        obtain ⟨j, rfl⟩ := big hba
        obtain ⟨q1, q2⟩ := gcd_step hba (by omega) hk
        exact ⟨j, rfl, q2, q1⟩
      rcases ho with ho | ⟨ho1, ho⟩
      · rcases Nat.lt_or_ge a b with z | z
        · have e3 : a % b = a := Nat.mod_eq_of_lt z
          exact ⟨b, a % b, ⟨rfl, e2⟩, g2, k, by rw [e3, Nat.mul_comm]; exact hk, .inr ⟨by omega, by omega⟩⟩
        · obtain ⟨k', rfl, q1, q2⟩ := st z
          exact ⟨b, a % b, ⟨rfl, e2⟩, g2, k', q1, .inr ⟨q2, by omega⟩⟩
      · obtain ⟨k', rfl, q1, q2⟩ := st ho1
        exact ⟨b, a % b, ⟨rfl, e2⟩, g2, k', q1, .inr ⟨q2, by omega⟩⟩
  · rintro ρ S' ⟨a, b, k, rfl, rfl, hg, hk, ho⟩
    omega
def redD (w t : Nat) : D := .tup [.int ((w / Nat.gcd w t : Nat) : Int), .int ((t / Nat.gcd w t : Nat) : Int)]
theorem reduced_eq {S : Sto} {w t : Nat} (hw : 1 ≤ w) (hwt : w ≤ t) (ht : t < 2 ^ 60) : F_reduced [.int w, .int t] S = .ok (redD w t) S := by
  have hg : 0 < Nat.gcd w t := Nat.gcd_pos_of_pos_left _ hw
  have hgl : Nat.gcd w t ≤ w := Nat.le_of_dvd hw (Nat.gcd_dvd_left w t)
  have hm : w * t < 2 ^ 200 := by
    have : w * t < 2 ^ 60 * 2 ^ 60 := Nat.mul_lt_mul'' (by omega) ht
    omega
  apply WR.eq
  unfold F_reduced
  apply wr_dfun rfl
  have b1 : (0 : Int) < (Nat.gcd w t : Int) := by omega
  have b2 : ((Nat.gcd w t : Nat) : Int) < 18446744073709551616 := by omega
  simp [cd_eq hm, -Int.natCast_ediv, redD]
  exact ⟨⟨.inl hw, b2⟩, by simp⟩
end K13

set_option Elab.async false
set_option linter.all false
set_option maxRecDepth 100000
set_option pp.maxSteps 1500
set_option maxHeartbeats 4000000
namespace K13
open PySem PySem.Spec PyProof.Rows L2 TD
/-! the ends of a call, as weights -/
def fl (sz : List Int) (c : Cl) (st : List Int) : List (List Int) := lv (lk sz c.d.rows st c.a) 4 []
def aft (sz : List Int) (c : Cl) (st : List Int) (f : List Int) : List Int := (Rf sz c.d.rows st c.a f).2.cells
def ocs (sz : List Int) (c : Cl) (st : List Int) : List D := (fl sz c st).map (oc sz c.d.rows st c.a)
def EP (n : Nat) (sz : List Int) (c : Cl) (st : List Int) : WM := (fl sz c st).map fun f => (aft sz c st f, 2 ^ (n - f.length))
theorem EP_pos (n : Nat) (sz : List Int) (c : Cl) (st : List Int) : ∀ q ∈ EP n sz c st, 1 ≤ q.2 := fun q hq => by
  obtain ⟨f, _, rfl⟩ := List.mem_map.mp hq
  exact Nat.one_le_two_pow
theorem EP_scl {n : Nat} {sz : List Int} {c : Cl} {st : List Int} (hn : n ≤ 4) (hf : ∀ f ∈ fl sz c st, f.length ≤ n) : EP 4 sz c st = scl (2 ^ (4 - n)) (EP n sz c st) := by
  unfold EP scl
  rw [List.map_map]
  apply List.map_congr_left
  intro f h
  simp only [Function.comp, Prod.mk.injEq, true_and]
  rw [← Nat.pow_add]
  congr 1
  have := hf f h
  omega
/-- what is known of the vault -/
structure Vk (cells : List (Int × Int)) (deeds : List Dd) : Prop where
  hc : CsOk cells
  h3 : cells.length ≤ 3
  hD : DsOk cells.length deeds
  h1 : 1 ≤ deeds.length
  h8 : deeds.length ≤ 8
  hN : ∀ d ∈ deeds, NmOk d.name
def szs (cells : List (Int × Int)) : List Int := cells.map (·.1)
section
variable {cells : List (Int × Int)} {deeds : List Dd} {c : Cl} {st : List Int}
theorem Vk.Z (V : Vk cells deeds) : SzOk (szs cells) cells.length := CsOk.sz V.hc
theorem fl_all (V : Vk cells deeds) (hk : ClOk deeds c) (hst : StOk (szs cells) st) : (∀ f ∈ fl (szs cells) c st, f.length ≤ 4 ∧ (∀ x ∈ f, 0 ≤ x ∧ x ≤ 1)) ∧ wts (fl (szs cells) c st) = 16 ∧ (fl (szs cells) c st).length ≤ 16 := by
  obtain ⟨k1, k2, k3⟩ := hk
  have hall := lv_all (q := lk (szs cells) c.d.rows st c.a) (fun f h z => no_lack4 (C := ⟨0, 0, 0, cells, deeds, true⟩) V.hc (V.hD.2 _ k1) k2 k3 hst z.2.1 h) 4 [] rfl Nd.nil
  exact ⟨fun f hf => ⟨(hall.1 f hf).1.1, (hall.1 f hf).1.2.1⟩, hall.2.1, hall.2.2⟩
theorem wI_EP4 (sz : List Int) (c : Cl) (st : List Int) : ∀ l : List (List Int), wI (fun _ => 1) (l.map fun f => (aft sz c st f, 2 ^ (4 - f.length))) = wts l
  | [] => rfl
  | f :: l => by
    simp only [List.map_cons, wI, wts, wt, Nat.mul_one]
    rw [wI_EP4 sz c st l]
theorem EL_mass (V : Vk cells deeds) (hk : ClOk deeds c) (hst : StOk (szs cells) st) : wI (fun _ => 1) (EP 4 (szs cells) c st) = 16 := by
  unfold EP
  rw [wI_EP4, (fl_all V hk hst).2.1]
theorem fl_ne (V : Vk cells deeds) (hk : ClOk deeds c) (hst : StOk (szs cells) st) : fl (szs cells) c st ≠ [] := fun e => by
  have := (fl_all V hk hst).2.1
  rw [e] at this
  simp [wts] at this
theorem aft_st (V : Vk cells deeds) (hk : ClOk deeds c) (hst : StOk (szs cells) st) (f : List Int) : StOk (szs cells) (aft (szs cells) c st f) := by
  obtain ⟨k1, k2, k3⟩ := hk
  exact runL_st V.Z c.d.rows 5 0 (start0 st c.a f) (V.hD.2 _ k1).2.2.1 hst
theorem EP_st (V : Vk cells deeds) (hk : ClOk deeds c) (hst : StOk (szs cells) st) (n : Nat) : ∀ x ∈ ks (EP n (szs cells) c st), StOk (szs cells) x := fun x hx => by
  obtain ⟨q, hq, rfl⟩ := List.mem_map.mp hx
  obtain ⟨f, _, rfl⟩ := List.mem_map.mp hq
  exact aft_st V hk hst f
theorem st_small (V : Vk cells deeds) (hst : StOk (szs cells) st) : st.length = cells.length ∧ ∀ x ∈ st, 0 ≤ x ∧ x ≤ 8 := by
  have Z := V.Z
  have hl : (szs cells).length = cells.length := Z.1
  refine ⟨hst.1.trans hl, fun x hx => ?_⟩
  obtain ⟨i, hi, rfl⟩ := List.mem_iff_getElem.mp hx
  have hi' : i < (szs cells).length := by rw [← hst.1]; exact hi
  have a := hst.2 i hi'
  have b := Z.2 i (by omega)
  have e : st.getD i 0 = st[i] := by simp [List.getD_eq_getElem?_getD, List.getElem?_eq_getElem hi]
  rw [e] at a
  omega
/-- a map of states -/
structure SOk (cells : List (Int × Int)) (M : WM) : Prop where
  ok : WOk M
  st : ∀ s ∈ ks M, StOk (szs cells) s
theorem SOk.few (V : Vk cells deeds) {M : WM} (h : SOk cells M) : M.length ≤ 729 := by
  have := nd_len h.ok.nd (m := allS cells.length) fun k hk' => by
    obtain ⟨h1, h2⟩ := st_small V (h.st k hk')
    rw [← h1]
    exact allS_mem k h2
  rw [allS_len] at this
  have e : (ks M).length = M.length := by simp [ks]
  have h6 : 9 ^ cells.length ≤ 9 ^ 3 := Nat.pow_le_pow_right (by decide) V.h3
  have : (9 : Nat) ^ 3 = 729 := by decide
  omega
theorem SOk.mem {M : WM} (h : SOk cells M) {p : List Int × Nat} (hp : p ∈ M) : StOk (szs cells) p.1 := h.st p.1 (List.mem_map.mpr ⟨p, hp, rfl⟩)
theorem SOk.addL (V : Vk cells deeds) (hk : ClOk deeds c) (hst : StOk (szs cells) st) {N : WM} (h : SOk cells N) {n w : Nat} (hw : 1 ≤ w) {E : WM} (hE : ∀ q ∈ E, q ∈ EP n (szs cells) c st) : SOk cells (addL w N E) := by
  refine ⟨addL_ok hw h.ok fun q hq => EP_pos n _ _ _ q (hE q hq), fun x hx => ?_⟩
  rcases ks_addL hx with z | z
  · exact h.st x z
  · obtain ⟨q, hq, rfl⟩ := List.mem_map.mp z
    exact EP_st V hk hst n q.1 (List.mem_map.mpr ⟨q, hE q hq, rfl⟩)
theorem SOk.step (V : Vk cells deeds) (hk : ClOk deeds c) {n : Nat} : ∀ {M N : WM}, SOk cells N → (∀ p ∈ M, 1 ≤ p.2 ∧ StOk (szs cells) p.1) → SOk cells (stepW (EP n (szs cells) c) N M)
  | [], N, h, _ => h
  | p :: M, N, h, hM => by
    show SOk cells (stepW _ (TD.addL p.2 N (EP n (szs cells) c p.1)) M)
    exact SOk.step V hk (h.addL V hk (hM p (by simp)).2 (hM p (by simp)).1 fun q hq => hq) fun q hq => hM q (by simp [hq])
theorem SOk.nil : SOk cells [] := ⟨WOk.nil, by simp [ks]⟩
theorem SOk.one (hst : StOk (szs cells) st) : SOk cells [(st, 1)] := ⟨one_ok st, fun s hs => by
  simp [ks] at hs
  subst hs
  exact hst⟩
theorem begin_st (hc : CsOk cells) : StOk (szs cells) (cells.map (·.2)) := ⟨by simp [szs], fun i hi => by
  simp only [szs, List.length_map] at hi
  obtain ⟨h1, h2, h3, h4⟩ := hc.2.2 cells[i] (List.getElem_mem hi)
  simp [szs, List.getD_eq_getElem?_getD, List.getElem?_eq_getElem hi]
  omega⟩
end
/-! the law's map and the program's map -/
section
variable {cells : List (Int × Int)} {deeds : List Dd}
def WL (cells : List (Int × Int)) (st : List Int) (row : List Cl) : WM := runW (EP 4 (szs cells)) [(st, 1)] row
/-- the program's weights M of t are the law's of 16 ** n -/
structure Shr (cells : List (Int × Int)) (M : WM) (t n : Nat) (ML : WM) : Prop where
  ok : SOk cells M
  sc : ∃ c, 1 ≤ c ∧ ML = scl c M ∧ c * t = 16 ^ n
  po : ∃ j, t = 2 ^ j
theorem Shr.start {st : List Int} (hst : StOk (szs cells) st) : Shr cells [(st, 1)] 1 0 (WL cells st []) := ⟨SOk.one hst, ⟨1, by decide, by simp [WL, runW, scl], by decide⟩, ⟨0, rfl⟩⟩
theorem Shr.step (V : Vk cells deeds) {c : Cl} (hk : ClOk deeds c) {M ML : WM} {t n D : Nat} (h : Shr cells M t n ML) (hD : D ≤ 4) (hf : ∀ p ∈ M, ∀ f ∈ fl (szs cells) c p.1, f.length ≤ D) : Shr cells (stepW (EP D (szs cells) c) [] M) (t * 2 ^ D) (n + 1) (stepW (EP 4 (szs cells) c) [] ML) := by
  obtain ⟨e, e1, e2, e3⟩ := h.sc
  obtain ⟨j, hj⟩ := h.po
  refine ⟨SOk.step V hk SOk.nil fun p hp => ⟨h.ok.ok.pos p hp, h.ok.mem hp⟩, ⟨e * 2 ^ (4 - D), Nat.mul_pos e1 Nat.one_le_two_pow, ?_, ?_⟩, ⟨j + D, by rw [hj, Nat.pow_add]⟩⟩
  · have := stepW_scl e (2 ^ (4 - D)) (EP D (szs cells) c) M []
    rw [← this, e2]
    show stepW _ [] _ = stepW _ [] _
    exact stepW_congr fun q hq => by
      obtain ⟨p, hp, rfl⟩ := List.mem_map.mp hq
      exact EP_scl hD (hf p hp)
  · have e16 : (2 : Nat) ^ (4 - D) * 2 ^ D = 16 := by
      rw [← Nat.pow_add, show 4 - D + D = 4 by omega]
    rw [Nat.pow_succ, ← e3, ← e16]
    simp only [Nat.mul_assoc, Nat.mul_comm, Nat.mul_left_comm]
theorem WL_ok (V : Vk cells deeds) {row : List Cl} (hr : ∀ c ∈ row, ClOk deeds c) {st : List Int} (hst : StOk (szs cells) st) : SOk cells (WL cells st row) ∧ wI (fun _ => 1) (WL cells st row) = 16 ^ row.length := by
  have one := SOk.one hst
  have z := runW_mass (E := EP 4 (szs cells)) (fun c s => EP_pos 4 _ c s) (P := StOk (szs cells)) (C := ClOk deeds) (fun c s hc hs => EL_mass V hc hs) (fun c s hc hs => EP_st V hc hs 4) hr one.ok one.st
  exact ⟨⟨runW_ok (fun c s => EP_pos 4 _ c s) one.ok, z.2⟩, by rw [WL, z.1]; simp [wI]⟩
theorem WL_snoc (st : List Int) (row : List Cl) (c : Cl) : WL cells st (row ++ [c]) = stepW (EP 4 (szs cells) c) [] (WL cells st row) := by simp [WL, runW]
/-- each weight of the program, as a fraction -/
theorem Shr.red {M : WM} {t n : Nat} {ML : WM} (h : Shr cells M t n ML) (hm : wI (fun _ => 1) ML = 16 ^ n) : wI (fun _ => 1) M = t ∧ ∀ p ∈ M, p.2 ≤ t := by
  obtain ⟨e, e1, e2, e3⟩ := h.sc
  have : wI (fun _ => 1) M = t := by
    rw [e2, wI_scl, ← e3] at hm
    exact Nat.eq_of_mul_eq_mul_left e1 hm
  exact ⟨this, fun p hp => by rw [← this]; exact le_mass hp⟩
end
end K13

set_option Elab.async false
set_option linter.all false
set_option maxRecDepth 100000
set_option pp.maxSteps 1500
set_option maxHeartbeats 4000000
namespace K13
open PySem PySem.Spec PyProof.Rows L2 TD
/-- the store has only grown -/
def Ext (S S' : Sto) : Prop := S.length ≤ S'.length ∧ ∀ i : Nat, i < S.length → S'[i]? = S[i]?
theorem Ext.rfl' {S : Sto} : Ext S S := ⟨Nat.le_refl _, fun _ _ => rfl⟩
theorem Ext.trans {S S1 S2 : Sto} (h : Ext S S1) (k : Ext S1 S2) : Ext S S2 := ⟨Nat.le_trans h.1 k.1, fun i hi => by rw [k.2 i (Nat.lt_of_lt_of_le hi h.1)]; exact h.2 i hi⟩
theorem Ext.app {S : Sto} (T : Sto) : Ext S (S ++ T) := ⟨by rw [List.length_append]; omega, fun i hi => List.getElem?_append_left hi⟩
theorem Ext.gw {S S1 S2 : Sto} {q k : Nat} (h : Ext S S1) (g : Gw S1 S2 [q] k) (hq : S.length ≤ q) : Ext S S2 := ⟨by have := h.1; have := g.1; omega, fun i hi => by rw [g.2 i (by have := h.1; omega) (by simp; omega)]; exact h.2 i hi⟩
theorem Ext.fr {S S1 S2 : Sto} {q : Nat} (h : Ext S S1) (g : TD.Fr S1 S2 [q]) (hq : S.length ≤ q) : Ext S S2 := ⟨by have := h.1; have := g.1; omega, fun i hi => by rw [g.2 i (by simp; omega)]; exact h.2 i hi⟩
theorem Ext.at {S S' : Sto} (h : Ext S S') {i : Nat} {o : DO} (e : S[i]? = some o) : S'[i]? = some o := by rw [h.2 i (get_lt e)]; exact e
theorem Ext.set {S S1 : Sto} {p : Nat} (h : Ext S S1) (hp : S.length ≤ p) (o : DO) : Ext S (S1.set p o) := ⟨by rw [List.length_set]; exact h.1, fun i hi => by rw [set_ne (by omega)]; exact h.2 i hi⟩
/-- a store that has grown, changed at m alone -/
theorem Ext.back {S S' : Sto} {m : Nat} {o u : DO} (hm : S[m]? = some o) (h : Ext (S.set m u) S') : Ext S (S'.set m o) := ⟨by
  have := h.1
  rw [List.length_set] at this ⊢
  exact this, fun i hi => by
  have := h.2 i (by rw [List.length_set]; exact hi)
  by_cases e : m = i
  · subst e
    rw [hm]
    exact set_at (h.at (set_at hm))
  · rw [set_ne e, this, set_ne e]⟩
theorem VtAt.ext {S S' : Sto} {C : Vc} (W : VtAt C S) (h : Ext S S') : VtAt C S' := ⟨h.at W.v, h.at W.t, h.at W.b⟩
theorem VtAt.lock {S : Sto} {C : Vc} (W : VtAt C S) {m : Nat} {kvs : List (List Key × D)} (hm : S[m]? = some (.dtt kvs)) (o : DO) : VtAt C (S.set m o) := by
  have n1 : ∀ {i : Nat} {u : DO}, S[i]? = some u → (∀ k, u ≠ .dtt k) → (S.set m o)[i]? = some u := fun {i u} h k => by
    rw [set_ne (fun e => by subst e; rw [hm] at h; cases h; exact k _ rfl)]
    exact h
  exact ⟨n1 W.v (fun _ => by simp), n1 W.t (fun _ => by simp), n1 W.b (fun _ => by simp)⟩
theorem keyT_kI (s : List Int) : keyT (.tup (s.map D.int)) = some (kI s) := keyT_ints s
theorem keyTs_dm (g : List Int × Nat → D) (M : WM) : keyTs (M.map fun p => (kI p.1, g p)) = M.map fun p => D.tup (p.1.map D.int) := by
  unfold keyTs
  rw [List.map_map]
  apply List.map_congr_left
  intro p _
  simp only [Function.comp, kI, List.map_map]
  rfl
theorem valD_fn (g : List Int → D) : ∀ {M : WM} {s : List Int}, s ∈ ks M → valD (M.map fun p => (kI p.1, g p.1)) (kI s) = some (g s)
  | [], s, h => by simp [ks] at h
  | p :: M, s, h => by
    rw [List.map_cons, valD_cons]
    by_cases q : p.1 = s
    · rw [if_pos (by rw [q]), q]
    · have h' : s = p.1 ∨ s ∈ ks M := by simpa [ks] using h
      rw [if_neg (fun z => q (kI_inj z))]
      exact valD_fn g (h'.resolve_left fun z => q z.symm)
theorem putD_new {acc : List (List Key × D)} {k : List Key} {v : D} (h : ∀ kv ∈ acc, kv.1 ≠ k) : putD acc k v = acc ++ [(k, v)] := by
  unfold putD
  rw [if_neg]
  simp only [List.any_eq_true, decide_eq_true_iff, not_exists, not_and]
  exact h
theorem ks_app (A B : WM) : ks (A ++ B) = ks A ++ ks B := by simp [ks]
/-- in parts, the next one is new -/
theorem nd_mid {A B : WM} {p : List Int × Nat} (h : (ks (A ++ p :: B)).Nodup) : p.1 ∉ ks A := by
  rw [ks_app, List.nodup_append] at h
  exact fun z => h.2.2 _ z _ (by simp [ks]) rfl
theorem ws_bump {K : Kt} {ρ : TD.Env} {S : Sto} {fo fk fm : FE} {b : Nat} {N : WM} {k : List Int} {v : Nat} (ho : ∀ S, fo ρ S = .ok (.ref b) S) (hk : ∀ S, fk ρ S = .ok (.tup (k.map D.int)) S) (hN : WOk N) (hb : S[b]? = some (.dtt (dm N))) (hl : N.length < 1000000) {P : Sto → Prop} (hm : WR (fm ρ S) (fun d S' => d = .int v ∧ S'[b]? = S[b]? ∧ P S') NX) (h : ∀ S', P S' → S'[b]? = some (.dtt (dm N)) → K.nx ρ (S'.set b (.dtt (dm (wadd N k v))))) : WS (sTPut fo fk (dOp gAdd (dTGet2 fo fk (dC (.int 0))) fm) ρ S) K := by
  have hl' : (dm N).length < 1000000 := by simpa [dm] using hl
  have e : (valD (dm N) (kI k)).getD (.int 0) = .int (wget N k : Nat) := by
    rw [valD_dm hN]
    split
    · rfl
    · rename_i hk'
      have : ¬ 0 < wget N k := fun z => hk' ((wget_pos hN k).mpr z)
      have : wget N k = 0 := by omega
      rw [this]
      rfl
  simp only [w_sTPut, w_dOp, w_dTGet2, ho, hk, wr_ok, w_dC, g_tget2, hb, dttP_dtt, keyT_kI, optP_some, e]
  refine ⟨dttOf_dtt hb, ?_⟩
  refine TD.WR.step hm ?_
  rintro _ S' ⟨rfl, e1, p1⟩
  rw [hb] at e1
  simp only [g_add, ho, hk, wr_ok]
  refine ⟨b, rfl, ?_⟩
  simp only [e1, dtP_dtt, keyT_kI, optP_some]
  refine ⟨hl', ?_⟩
  have := h S' p1 e1
  rw [← putD_dm hN] at this
  simpa using this
/-- the powers -/
theorem pow_at {i j : Int} {n k : Nat} (hi : i = n) (hj : j = k) (h4 : n ≤ 4) (hk : k ≤ n) : atI [D.int 1, .int 2, .int 4, .int 8, .int 16] (i - j) = some (.int ((2 ^ (n - k) : Nat) : Int)) := by
  subst hi hj
  obtain ⟨m, rfl⟩ : ∃ m, n = k + m := ⟨n - k, by omega⟩
  rw [show ((k + m : Nat) : Int) - (k : Int) = (m : Nat) by omega, show k + m - k = m by omega]
  have : m = 0 ∨ m = 1 ∨ m = 2 ∨ m = 3 ∨ m = 4 := by omega
  rcases this with rfl | rfl | rfl | rfl | rfl <;> rfl
theorem wow_at {k : Nat} (hk : k ≤ 4) : atI [D.int 16, .int 8, .int 4, .int 2, .int 1] (k : Int) = some (.int ((2 ^ (4 - k) : Nat) : Int)) := by
  have : k = 0 ∨ k = 1 ∨ k = 2 ∨ k = 3 ∨ k = 4 := by omega
  rcases this with rfl | rfl | rfl | rfl | rfl <;> rfl
end K13

set_option Elab.async false
set_option linter.all false
set_option maxRecDepth 100000
set_option pp.maxSteps 1500
set_option maxHeartbeats 8000000
namespace K13
open PySem PySem.Spec PyProof.Rows L2 TD
section
variable {S : Sto} {C : Vc} {c : Cl} {m : Nat} {M : WM}
/-- the dict of ends -/
def EndsAt (C : Vc) (c : Cl) (S : Sto) (e : Nat) (M : WM) (r : List Int → Nat) : Prop := (∀ p ∈ M, S[r p.1]? = some (.lst (ocs (szs C.cells) c p.1))) ∧ S[e]? = some (.dtt (M.map fun p => (kI p.1, D.ref (r p.1))))
theorem ends_spec {ρ : TD.Env} {k : Option D} (V : Vk C.cells C.deeds) (W : VtAt C S) (hk : ClOk C.deeds c) (hm : S[m]? = some (.fdt (dm M))) (hM : SOk C.cells M) (hρ : ρ = [some (.ref C.v), some (.ref m), some (encCl c), none, none, none, k, none, none, none, none]) :
    WR (dDt (iKT (dV 1)) (bName 6) tTrue (dV 6) (dCB (fun S ds => F_outcomes_of ds S) (dCons (dV 0) (dCons (dV 6) (dCons (dV 2) dNil)))) [6] ρ S) (fun r S' => r = .ref S.length ∧ Ext S S' ∧ ∃ r, EndsAt C c S' S.length M r ∧ ∀ p ∈ M, S.length < r p.1) NX := by
  subst hρ
  obtain ⟨k1, k2, k3⟩ := hk
  simp [hm]
  have hkt : keyTs (dm M) = M.map fun p => D.tup (p.1.map D.int) := keyTs_dm (fun p => .int p.2) M
  have h7 := hM.few V
  refine wr_dtL (fun ds acc S' => ∃ (done rest : WM) (r : List Int → Nat), M = done ++ rest ∧ ds = rest.map (fun p => D.tup (p.1.map D.int)) ∧ acc = done.map (fun p => (kI p.1, D.ref (r p.1))) ∧ Ext S S' ∧ S'[S.length]? = some (.dtt acc) ∧ ∀ p ∈ done, S.length < r p.1 ∧ S'[r p.1]? = some (.lst (ocs (szs C.cells) c p.1))) ?_ ?_ ?_ _ _ _ ⟨[], M, fun _ => 0, rfl, hkt, rfl, Ext.app _, app_at S _ 0, by simp⟩
  · exact fun _ _ _ _ => trivial
  · rintro d ds acc S' ⟨done, rest, r, hMe, hds, rfl, x, hn, hr⟩
    cases rest with
    | nil => cases hds
    | cons p rest =>
      simp only [List.map_cons, List.cons.injEq] at hds
      obtain ⟨rfl, rfl⟩ := hds
      have hst : StOk (szs C.cells) p.1 := hM.mem (by rw [hMe]; simp)
      have nw : p.1 ∉ ks done := nd_mid (hMe ▸ hM.ok.nd)
      have nk : ∀ q ∈ done, ¬ q.1 = p.1 := fun q hq e => nw (List.mem_map.mpr ⟨q, hq, e⟩)
      have ho := outsof_spec (VtAt.ext W x) V.hc V.hD k1 k2 k3 hst
      have hdl : done.length ≤ M.length := by rw [hMe, List.length_append]; omega
      have hl0 : done.length < 1000000 := by omega
      have hlt := get_lt hn
      refine ⟨_, rfl, ?_⟩
      simp only [List.getElem?_cons_zero, List.getElem?_cons_succ, bName, w_dV, varP_some, wipeD, List.set_cons_succ, List.set_cons_zero, w_dCB, w_dCons, w_dNil, encCl]
      rw [ho]
      refine ⟨kI p.1, keyT_kI _, by rw [List.getElem?_append_left hlt]; exact hn, by rw [List.length_map]; exact hl0, done ++ [p], rest, fun s => if s = p.1 then S'.length else r s, by rw [hMe]; simp, rfl, ?_, ?_, ?_, ?_⟩
      · rw [putD_new (fun kv hkv e => by
          obtain ⟨q, hq, rfl⟩ := List.mem_map.mp hkv
          exact nk q hq (kI_inj e))]
        rw [List.map_append]
        congr 1
        · apply List.map_congr_left
          intro q hq
          simp only [if_neg (nk q hq)]
        · simp
      · exact (x.trans (Ext.app _)).set (Nat.le_refl _) _
      · exact set_at (by rw [List.getElem?_append_left hlt]; exact hn)
      · intro q hq
        rcases List.mem_append.mp hq with z | z
        · obtain ⟨r1, r2⟩ := hr q z
          simp only [if_neg (nk q z)]
          refine ⟨r1, ?_⟩
          rw [set_ne (by omega), List.getElem?_append_left (get_lt r2)]
          exact r2
        · simp only [List.mem_singleton] at z
          subst z
          simp only [if_true]
          refine ⟨by omega, ?_⟩
          rw [set_ne (by omega)]
          exact app_at S' _ 0
  · rintro acc S' ⟨done, rest, r, hMe, hds, rfl, x, hn, hr⟩
    cases rest with
    | cons p rest => cases hds
    | nil =>
      rw [List.append_nil] at hMe
      subst hMe
      exact ⟨rfl, x, r, ⟨fun p hp => (hr p hp).2, hn⟩, fun a b hp => (hr (a, b) hp).1⟩
end
end K13

set_option Elab.async false
set_option linter.all false
set_option maxRecDepth 100000
set_option pp.maxSteps 1500
set_option maxHeartbeats 8000000
namespace K13
open PySem PySem.Spec PyProof.Rows L2 TD
section
variable {S : Sto} {C : Vc} {c : Cl} {m : Nat} {M : WM}
def lens (C : Vc) (c : Cl) (M : WM) : List (List Int) := M.flatMap fun p => fl (szs C.cells) c p.1
theorem lens_len (V : Vk C.cells C.deeds) (hk : ClOk C.deeds c) : ∀ {M : WM}, (∀ p ∈ M, StOk (szs C.cells) p.1) → (lens C c M).length ≤ 16 * M.length
  | [], _ => by simp [lens]
  | p :: M, h => by
    have := lens_len V hk (M := M) fun q hq => h q (by simp [hq])
    have k := (fl_all V hk (h p (by simp))).2.2
    unfold lens at *
    rw [List.flatMap_cons, List.length_append, List.length_cons]
    omega
theorem ints_len : ∀ l : List (List Int), intsOf (l.map fun f => D.int (f.length : Int)) = some (l.map fun f => (f.length : Int))
  | [] => rfl
  | f :: l => by
    simp only [List.map_cons, intsOf, ints_len l]
    rfl
theorem deep_spec {ρ : TD.Env} {e : Nat} {r : List Int → Nat} {a0 a1 a2 a4 a5 a6 a7 a8 a9 a10 : Option D} (V : Vk C.cells C.deeds) (hk : ClOk C.deeds c) (hM : SOk C.cells M) (hne : M ≠ []) (he : S[e]? = some (.fdt (M.map fun p => (kI p.1, D.ref (r p.1))))) (hr : ∀ p ∈ M, S[r p.1]? = some (.lst (ocs (szs C.cells) c p.1))) (hρ : ρ = [a0, a1, a2, some (.ref e), a4, a5, a6, a7, a8, a9, a10]) :
    WR (dCB (one gMaxL) (dCons (dLc2 (iKT (dV 3)) (bName 6) (iAny (dOp gTGet (dV 3) (dV 6))) (bName 10) (dCB (one gLen) (dCons (dOp gSub2 (dV 10) (dC (.int 0))) dNil)) [10, 6] [10]) dNil) ρ S) (fun d S' => ∃ n : Nat, d = .int n ∧ n ≤ 4 ∧ (∀ p ∈ M, ∀ f ∈ fl (szs C.cells) c p.1, f.length ≤ n) ∧ Ext S S') NX := by
  subst hρ
  have h7 := hM.few V
  have hst : ∀ p ∈ M, StOk (szs C.cells) p.1 := fun p hp => hM.mem hp
  have hll := lens_len V hk hst
  have hkt := keyTs_dm (fun p => .ref (r p.1)) M
  simp [he]
  refine wr_l2O (fun ds S' => ∃ (done rest : WM), M = done ++ rest ∧ ds = rest.map (fun p => D.tup (p.1.map D.int)) ∧ Ext S S' ∧ S'[S.length]? = some (.lst ((lens C c done).map fun f => D.int (f.length : Int)))) ?_ ?_ ?_ _ _ ⟨[], M, rfl, hkt, Ext.app _, app_at S _ 0⟩
  · exact fun _ _ _ => trivial
  · rintro d ds S' ⟨done, rest, hMe, hds, x, hn⟩
    cases rest with
    | nil => cases hds
    | cons p rest =>
      simp only [List.map_cons, List.cons.injEq] at hds
      obtain ⟨rfl, rfl⟩ := hds
      have pm : p ∈ M := by rw [hMe]; simp
      have pk : p.1 ∈ ks M := List.mem_map.mpr ⟨p, pm, rfl⟩
      have e1 := x.at he
      have e2 := x.at (hr p pm)
      have gv := valD_fn (fun s => D.ref (r s)) pk
      have f16 := (fl_all V hk (hst p pm)).2.2
      have dl : (lens C c done).length ≤ 16 * 729 := by
        have := lens_len V hk (M := done) fun q hq => hst q (by rw [hMe]; simp [hq])
        have : done.length ≤ M.length := by rw [hMe, List.length_append]; omega
        omega
      refine ⟨_, rfl, ?_⟩
      simp [wipeD, e1, keyT_kI, gv, -keyT_ints, bName, itOf, e2]
      refine wr_l2I (fun ds acc S' => ∃ fs gs : List (List Int), fl (szs C.cells) c p.1 = fs ++ gs ∧ ds = gs.map (oc (szs C.cells) c.d.rows p.1 c.a) ∧ acc = (lens C c done ++ fs).map (fun f => D.int (f.length : Int)) ∧ Ext S S' ∧ S'[S.length]? = some (.lst acc)) ?_ ?_ ?_ _ _ _ ⟨[], fl (szs C.cells) c p.1, rfl, rfl, by simp, x, hn⟩
      · rintro ds acc S' ⟨fs, gs, h1, rfl, rfl, x', h2⟩
        simpa using x'.at (hr p pm)
      · rintro d ds acc S' ⟨fs, gs, h1, h3, rfl, x', h2⟩
        cases gs with
        | nil => cases h3
        | cons g gs =>
          simp only [List.map_cons, List.cons.injEq] at h3
          obtain ⟨rfl, rfl⟩ := h3
          have bl : (lens C c done ++ fs).length < 1000000 := by
            rw [List.length_append]
            have : (fs ++ g :: gs).length ≤ 16 := by rw [← h1]; exact f16
            rw [List.length_append] at this
            omega
          refine ⟨_, rfl, ?_⟩
          simp [oc, bName]
          refine ⟨by simpa using h2, by simpa using bl, fs ++ [g], gs, by simp [h1], rfl, by simp, x'.set (Nat.le_refl _) _, ?_⟩
          exact set_at h2
      · rintro acc S' ⟨fs, gs, h1, h3, rfl, x', h2⟩
        cases gs with
        | cons g gs => cases h3
        | nil =>
          rw [List.append_nil] at h1
          refine ⟨done ++ [p], rest, by rw [hMe]; simp, rfl, x', ?_⟩
          rw [h2, ← h1]
          simp [lens]
  · rintro S' ⟨done, rest, hMe, hds, x, hn⟩
    cases rest with
    | cons p rest => cases hds
    | nil =>
      rw [List.append_nil] at hMe
      rw [← hMe] at hn
      simp [hn]
      have hnl : ∃ f l, lens C c M = f :: l := by
        cases hM0 : M with
        | nil => exact absurd hM0 hne
        | cons p done =>
          have := fl_ne V hk (hst p (by rw [hM0]; simp))
          cases e : fl (szs C.cells) c p.1 with
          | nil => exact absurd e this
          | cons f l => exact ⟨f, l ++ lens C c done, by simp [lens, e]⟩
      obtain ⟨f, l, hfl⟩ := hnl
      have mem : ∀ g, g ∈ lens C c M → g.length ≤ 4 := fun g hg => by
        obtain ⟨p, hp, hg⟩ := List.mem_flatMap.mp hg
        exact ((fl_all V hk (hst p hp)).1 g hg).1
      have io := ints_len (lens C c M)
      rw [hfl] at io
      refine ⟨(f.length : Int), l.map fun f => (f.length : Int), by rw [hfl]; exact io, ?_⟩
      obtain ⟨g1, g2⟩ := mxI_ge (l.map fun f => (f.length : Int)) (f.length : Int)
      have g3 := mxI_mem (l.map fun f => (f.length : Int)) (f.length : Int)
      generalize mxI (f.length : Int) (l.map fun f => (f.length : Int)) = x0 at g1 g2 g3
      have up : x0 ≤ 4 := by
        rcases g3 with rfl | z
        · have := mem f (by rw [hfl]; simp)
          omega
        · obtain ⟨g, hg, rfl⟩ := List.mem_map.mp z
          have := mem g (by rw [hfl]; simp [hg])
          omega
      refine ⟨x0.toNat, by omega, by omega, fun a b hp g hg => ?_, x⟩
      have hg' : g ∈ lens C c M := List.mem_flatMap.mpr ⟨(a, b), hp, hg⟩
      rw [hfl] at hg'
      rcases List.mem_cons.mp hg' with rfl | z
      · omega
      · have := g2 (g.length : Int) (List.mem_map.mpr ⟨g, z, rfl⟩)
        omega
end
end K13

set_option Elab.async false
set_option linter.all false
set_option maxRecDepth 100000
set_option pp.maxSteps 1500
set_option maxHeartbeats 8000000
namespace K13
open PySem PySem.Spec PyProof.Rows L2 TD
theorem addL_snoc (w : Nat) (N E : WM) (q : List Int × Nat) : TD.addL w N (E ++ [q]) = wadd (TD.addL w N E) q.1 (w * q.2) := by simp [TD.addL]
theorem stepW_snoc (E : List Int → WM) (N M : WM) (p : List Int × Nat) : stepW E N (M ++ [p]) = TD.addL p.2 (stepW E N M) (E p.1) := by simp [stepW]
theorem pow0_at {n : Nat} (h4 : n ≤ 4) : atI [D.int 1, .int 2, .int 4, .int 8, .int 16] (n : Int) = some (.int ((2 ^ n : Nat) : Int)) := by
  have : n = 0 ∨ n = 1 ∨ n = 2 ∨ n = 3 ∨ n = 4 := by omega
  rcases this with rfl | rfl | rfl | rfl | rfl <;> rfl
section
variable {S : Sto} {C : Vc} {c : Cl} {m : Nat} {M : WM}
theorem spread_spec (V : Vk C.cells C.deeds) (W : VtAt C S) (hk : ClOk C.deeds c) (hm : S[m]? = some (.dtt (dm M))) (hM : SOk C.cells M) (hne : M ≠ []) (hw : ∀ p ∈ M, p.2 < 2 ^ 60) :
    WR (F_spread [.ref C.v, .ref m, encCl c] S) (fun d S' => ∃ n b : Nat, n ≤ 4 ∧ (∀ p ∈ M, ∀ f ∈ fl (szs C.cells) c p.1, f.length ≤ n) ∧ d = .tup [.ref b, .int ((2 ^ n : Nat) : Int)] ∧ Ext S S' ∧ S.length ≤ b ∧ S'[b]? = some (.dtt (dm (stepW (EP n (szs C.cells) c) [] M)))) NX := by
  have h7 := hM.few V
  have ml := get_lt hm
  have hst : ∀ p ∈ M, StOk (szs C.cells) p.1 := fun p hp => hM.mem hp
  unfold F_spread
  apply wr_dfun rfl
  rw [w_sSeq]
  refine ws_lk (kvs := dm M) rfl hm ?_
  rw [w_sSet]
  refine TD.WR.step (ends_spec (k := none) V (VtAt.lock W hm _) hk (set_at hm) hM rfl) ?_
  rintro _ S1 ⟨rfl, x1, r, ⟨er, ee⟩, rl⟩
  have m1 : S1[m]? = some (.fdt (dm M)) := x1.at (set_at hm)
  rw [List.length_set] at ee rl ⊢
  simp only [unK, m1, fdtP_fdt]
  have x2 : Ext S (S1.set m (.dtt (dm M))) := x1.back hm
  have m2 : (S1.set m (.dtt (dm M)))[m]? = some (.dtt (dm M)) := set_at m1
  have e2 : (S1.set m (.dtt (dm M)))[S.length]? = some (.dtt (M.map fun p => (kI p.1, D.ref (r p.1)))) := by rw [set_ne (by omega)]; exact ee
  have r2 : ∀ p ∈ M, (S1.set m (.dtt (dm M)))[r p.1]? = some (.lst (ocs (szs C.cells) c p.1)) := fun p hp => by
    rw [set_ne (by have := rl p hp; omega)]
    exact er p hp
  generalize S1.set m (.dtt (dm M)) = S2 at x2 m2 e2 r2 ⊢
  clear x1 er ee m1
  rw [w_sSeq]
  refine ws_lk (kvs := M.map fun p => (kI p.1, D.ref (r p.1))) rfl e2 ?_
  rw [w_sSet]
  refine TD.WR.step (deep_spec V hk hM hne (set_at e2) (fun p hp => by rw [set_ne (by have := rl p hp; omega)]; exact r2 p hp) rfl) ?_
  rintro _ S3 ⟨n, rfl, n4, nf, x3⟩
  have e3 : S3[S.length]? = some (.fdt (M.map fun p => (kI p.1, D.ref (r p.1)))) := x3.at (set_at e2)
  simp only [unK, e3, fdtP_fdt]
  have x4 : Ext S2 (S3.set S.length (.dtt (M.map fun p => (kI p.1, D.ref (r p.1))))) := x3.back e2
  generalize S3.set S.length (.dtt (M.map fun p => (kI p.1, D.ref (r p.1)))) = S4 at x4 ⊢
  clear x3 e3
  have m4 := x4.at m2
  have e4 := x4.at e2
  have r4 := fun p hp => x4.at (r2 p hp)
  have x04 := x2.trans x4
  have sl4 : S.length < S4.length := get_lt e4
  rw [w_sSeq, w_sSet, w_dTNew]
  dsimp only
  rw [w_sSeq]
  have m5 : (S4 ++ [DO.dtt []])[m]? = some (.dtt (dm M)) := (Ext.app _).at m4
  refine ws_lk (kvs := dm M) rfl m5 ?_
  have e6 : (S4 ++ [DO.dtt []]).set m (.fdt (dm M)) = S4.set m (.fdt (dm M)) ++ [DO.dtt []] := List.set_append_left _ _ (by omega)
  rw [e6]
  have l6 : (S4.set m (.fdt (dm M))).length = S4.length := List.length_set ..
  have m6 : (S4.set m (.fdt (dm M)))[m]? = some (.fdt (dm M)) := set_at m4
  have en6 : (S4.set m (.fdt (dm M)))[S.length]? = some (.dtt (M.map fun p => (kI p.1, D.ref (r p.1)))) := by rw [set_ne (by omega)]; exact e4
  have r6 : ∀ p ∈ M, (S4.set m (.fdt (dm M)))[r p.1]? = some (.lst (ocs (szs C.cells) c p.1)) := fun p hp => by
    rw [set_ne (by have := rl p hp; omega)]
    exact r4 p hp
  have fin : ∀ S', Ext (S4.set m (.fdt (dm M))) S' → Ext S (S'.set m (.dtt (dm M))) := fun S' x => x04.trans (x.back m4)
  have blen : S4.length = (S4.set m (.fdt (dm M))).length := l6.symm
  rw [blen]
  have sl6 : S.length < (S4.set m (.fdt (dm M))).length := by omega
  have ml6 : m < (S4.set m (.fdt (dm M))).length := by omega
  generalize S4.set m (.fdt (dm M)) = S6 at m6 en6 r6 fin sl6 ml6 ⊢
  have hkt : keyTs (dm M) = M.map fun p => D.tup (p.1.map D.int) := keyTs_dm (fun p => .int p.2) M
  have m7 : (S6 ++ [DO.dtt []])[m]? = some (.fdt (dm M)) := (Ext.app _).at m6
  simp only [List.set_cons_succ, List.set_cons_zero, w_sFor, w_iKT, w_dV, List.getElem?_cons_succ, List.getElem?_cons_zero, varP_some]
  refine ⟨m, rfl, ?_⟩
  rw [m7]
  simp only [fdtP_fdt, hkt]
  refine ws_forL (fun ds ρ S' => ∃ (done rest : WM) (x6 x7 x8 x9 : Option D), M = done ++ rest ∧ ds = rest.map (fun p => D.tup (p.1.map D.int)) ∧ ρ = [some (.ref C.v), some (.ref m), some (encCl c), some (.ref S.length), some (.int n), some (.ref S6.length), x6, x7, x8, x9, none] ∧ Ext S6 S' ∧ S'[S6.length]? = some (.dtt (dm (stepW (EP n (szs C.cells) c) [] done)))) ?_ ?_ ?_ _ _ _ ⟨[], M, none, none, none, none, rfl, rfl, rfl, Ext.app _, app_at S6 _ 0⟩
  · exact fun _ _ _ _ => trivial
  · rintro d ds ρ S' ⟨done, rest, x6, x7, x8, x9, hMe, hds, rfl, x, hb⟩
    cases rest with
    | nil => cases hds
    | cons p rest =>
      simp only [List.map_cons, List.cons.injEq] at hds
      obtain ⟨rfl, rfl⟩ := hds
      have pm : p ∈ M := by rw [hMe]; simp
      have pk : p.1 ∈ ks M := List.mem_map.mpr ⟨p, pm, rfl⟩
      have ge := x.at en6
      have gr := x.at (r6 p pm)
      have gv := valD_fn (fun s => D.ref (r s)) pk
      have gw : valD (dm M) (kI p.1) = some (.int (p.2 : Nat)) := by
        rw [valD_dm hM.ok, if_pos pk, wget_mem hM.ok.nd pm]
      have hp := hst p pm
      have pw := hM.ok.pos p pm
      have NS : SOk C.cells (stepW (EP n (szs C.cells) c) [] done) := SOk.step V hk SOk.nil fun q hq => ⟨hM.ok.pos q (by rw [hMe]; simp [hq]), hst q (by rw [hMe]; simp [hq])⟩
      refine ⟨_, rfl, ?_⟩
      simp only [bName, List.set_cons_succ, List.set_cons_zero, w_sFor, w_iAny, w_dOp, w_dV, List.getElem?_cons_succ, List.getElem?_cons_zero, varP_some, g_tget, ge, dttP_dtt, keyT_kI, optP_some, gv, itOf, TD.listOf, gr]
      refine ws_forL (fun ds ρ S' => ∃ (fs gs : List (List Int)) (x7 x8 x9 : Option D), fl (szs C.cells) c p.1 = fs ++ gs ∧ ds = gs.map (oc (szs C.cells) c.d.rows p.1 c.a) ∧ ρ = [some (.ref C.v), some (.ref m), some (encCl c), some (.ref S.length), some (.int n), some (.ref S6.length), some (.tup (p.1.map D.int)), x7, x8, x9, none] ∧ Ext S6 S' ∧ S'[S6.length]? = some (.dtt (dm (TD.addL p.2 (stepW (EP n (szs C.cells) c) [] done) (fs.map fun f => (aft (szs C.cells) c p.1 f, 2 ^ (n - f.length))))))) ?_ ?_ ?_ _ _ _ ⟨[], fl (szs C.cells) c p.1, x7, x8, x9, rfl, rfl, rfl, x, hb⟩
      · rintro ds ρ S' ⟨fs, gs, y7, y8, y9, h1, rfl, rfl, x', h2⟩
        simpa using x'.at (r6 p pm)
      · rintro d ds ρ S' ⟨fs, gs, y7, y8, y9, h1, h3, rfl, x', h2⟩
        cases gs with
        | nil => cases h3
        | cons g gs =>
          simp only [List.map_cons, List.cons.injEq] at h3
          obtain ⟨rfl, rfl⟩ := h3
          have gn := nf p pm g (by rw [h1]; simp)
          have N2 : SOk C.cells (TD.addL p.2 (stepW (EP n (szs C.cells) c) [] done) (fs.map fun f => (aft (szs C.cells) c p.1 f, 2 ^ (n - f.length)))) := NS.addL V hk hp pw fun q hq => by
            obtain ⟨f, hf, rfl⟩ := List.mem_map.mp hq
            exact List.mem_map.mpr ⟨f, by rw [h1]; simp [hf], rfl⟩
          have f2 := N2.few V
          have m8 := x'.at m6
          have wl := hw p pm
          have mo : TD.MulOk (p.2 : Int) ((2 ^ (n - g.length) : Nat) : Int) := mulOkL (by omega) (by omega)
          have pa := pow_at (i := (n : Int)) (j := (g.length : Int)) rfl rfl n4 gn
          refine ⟨_, rfl, ?_⟩
          refine ws_bump (b := S6.length) (k := aft (szs C.cells) c p.1 g) (v := p.2 * 2 ^ (n - g.length)) (fun _ => rfl) (fun _ => rfl) N2.ok h2 (by omega) (P := fun S2 => S2 = S') ?_ ?_
          · simp [c_POWERS, m8, keyT_kI, gw, pa, -keyT_ints]
            exact mo
          · rintro S2 rfl h5
            refine ⟨fs ++ [g], gs, _, _, _, by rw [h1]; simp, rfl, rfl, x'.set (Nat.le_refl _) _, ?_⟩
            rw [set_at h5, List.map_append, List.map_cons, List.map_nil, addL_snoc]
      · rintro ρ S' ⟨fs, gs, y7, y8, y9, h1, h3, rfl, x', h2⟩
        cases gs with
        | cons g gs => cases h3
        | nil =>
          rw [List.append_nil] at h1
          refine ⟨done ++ [p], rest, _, _, _, _, by rw [hMe]; simp, rfl, rfl, x', ?_⟩
          rw [h2, stepW_snoc]
          unfold EP
          rw [← h1]
  · rintro ρ S' ⟨done, rest, x6, x7, x8, x9, hMe, hds, rfl, x, hb⟩
    cases rest with
    | cons p rest => cases hds
    | nil =>
      rw [List.append_nil] at hMe
      have m8 := x.at m6
      simp only [unK, m8, fdtP_fdt, c_POWERS, w_sRet, w_dTup, w_dCons, w_dNil, w_dOp, w_dV, w_dC, List.getElem?_cons_succ, List.getElem?_cons_zero, varP_some, g_ixK, pow0_at n4, optP_some]
      refine ⟨by simp, ?_⟩
      rw [gc_open (by simp; omega)]
      exact ⟨n, S6.length, n4, nf, rfl, fin S' x, by omega, by rw [set_ne (by omega), hb, hMe]⟩
end
end K13

set_option Elab.async false
set_option linter.all false
set_option maxRecDepth 100000
set_option pp.maxSteps 1500
set_option maxHeartbeats 8000000
namespace K13
open PySem PySem.Spec PyProof.Rows L2 TD
theorem gc_ext {S S' : Sto} {b : Nat} {o : DO} (x : Ext S S') (hb : S.length ≤ b) (ho : S'[b]? = some o) : WR (gc S (.ok (.ref b) S')) (fun d S2 => ∃ b', d = .ref b' ∧ S.length ≤ b' ∧ Ext S S2 ∧ S2[b']? = some o) NX := by
  have e1 : clD S.length (.ref b) = false := by simp; omega
  have same : WR (Res.ok (D.ref b) S') (fun d S2 => ∃ b', d = .ref b' ∧ S.length ≤ b' ∧ Ext S S2 ∧ S2[b']? = some o) NX := ⟨b, rfl, hb, x, ho⟩
  have tk : S'.take S.length = S := by
    apply List.ext_getElem?
    intro i
    rw [List.getElem?_take]
    split
    · rename_i h
      exact x.2 i h
    · rename_i h
      rw [List.getElem?_eq_none (by omega)]
  simp only [gc, e1, ho]
  split
  · rw [if_neg (by simp)]
    split
    · rw [tk]
      exact ⟨S.length, rfl, Nat.le_refl _, Ext.app _, app_at S _ 0⟩
    · exact same
  · exact same
section
variable {cells : List (Int × Int)} {deeds : List Dd}
theorem Shr.facts (V : Vk cells deeds) {M : WM} {t : Nat} {row : List Cl} (hr : ∀ c ∈ row, ClOk deeds c) (hl : row.length ≤ 9) {st : List Int} (hst : StOk (szs cells) st) (h : Shr cells M t row.length (WL cells st row)) : M ≠ [] ∧ 1 ≤ t ∧ t ≤ 2 ^ 36 ∧ ∀ p ∈ M, 1 ≤ p.2 ∧ p.2 ≤ t := by
  obtain ⟨w1, w2⟩ := WL_ok V hr hst
  obtain ⟨r1, r2⟩ := h.red w2
  obtain ⟨e, e1, e2, e3⟩ := h.sc
  obtain ⟨j, hj⟩ := h.po
  have t1 : 1 ≤ t := by rw [hj]; exact Nat.one_le_two_pow
  have le : t ≤ e * t := Nat.le_mul_of_pos_left _ e1
  have p9 : (16 : Nat) ^ row.length ≤ 16 ^ 9 := Nat.pow_le_pow_right (by decide) hl
  have p36 : (16 : Nat) ^ 9 = 2 ^ 36 := by decide
  refine ⟨fun z => ?_, t1, by omega, fun p hp => ⟨h.ok.ok.pos p hp, r2 p hp⟩⟩
  rw [z] at r1
  simp [wI] at r1
  omega
end
section
variable {S : Sto} {C : Vc} {q : Nat} {row : List Cl}
def redM (M : WM) (t : Nat) : List (List Key × D) := M.map fun p => (kI p.1, redD p.2 t)
theorem share_spec (V : Vk C.cells C.deeds) (W : VtAt C S) (hq : S[q]? = some (.lst (row.map encCl))) (hr : ∀ c ∈ row, ClOk C.deeds c) (hl : row.length ≤ 9) :
    WR (F_share [.ref C.v, .ref q] S) (fun d S' => ∃ (M : WM) (t b : Nat), Shr C.cells M t row.length (WL C.cells (C.cells.map (·.2)) row) ∧ d = .ref b ∧ S.length ≤ b ∧ Ext S S' ∧ S'[b]? = some (.dtt (redM M t))) NX := by
  have hst := begin_st V.hc
  generalize hst0 : C.cells.map (·.2) = st0 at hst
  have ql := get_lt hq
  have vl := get_lt W.v
  unfold F_share
  apply wr_dfun rfl
  have Wv := W.v
  have n1 : (S ++ [DO.dtt []])[C.v]? = some (.ins "Vault" (vtF C)) := (Ext.app _).at W.v
  have k0 : (S ++ [DO.dtt []])[S.length]? = some (.dtt []) := app_at S _ 0
  simp [-w_sDrop]
  rw [w_sDrop]
  simp only [w_dCB, w_dCons, w_dNil, w_dV, List.getElem?_cons_succ, List.getElem?_cons_zero, varP_some]
  rw [check_row_ok W V.hD.1 hq hr]
  simp [n1, vtF, hst0, keyT_kI, k0, -keyT_ints]
  have s0 : S ++ [DO.dtt [(kI st0, D.int 1)]] = S ++ [DO.dtt (dm [(st0, 1)])] := rfl
  rw [s0]
  have q0 : (S ++ [DO.dtt (dm [(st0, 1)])])[q]? = some (.lst (row.map encCl)) := (Ext.app _).at hq
  rw [q0]
  simp only [lstP_lst]
  refine ws_forL (fun ds ρ S' => ∃ (done rest : List Cl) (x4 x5 : Option D) (m t : Nat) (M : WM), row = done ++ rest ∧ ds = rest.map encCl ∧ ρ = [some (.ref C.v), some (.ref q), some (.ref m), some (.int t), x4, x5, none] ∧ Ext S S' ∧ S.length ≤ m ∧ S'[m]? = some (.dtt (dm M)) ∧ Shr C.cells M t done.length (WL C.cells st0 done)) ?_ ?_ ?_ _ _ _ ⟨[], row, none, none, S.length, 1, [(st0, 1)], rfl, rfl, rfl, Ext.app _, Nat.le_refl _, app_at S _ 0, Shr.start hst⟩
  · rintro ds ρ S' ⟨done, rest, x4, x5, m, t, M, hMe, rfl, rfl, x, hm, h1, h2⟩
    simpa using x.at hq
  · rintro d ds ρ S' ⟨done, rest, x4, x5, m, t, M, hMe, hds, rfl, x, hm, h1, h2⟩
    cases rest with
    | nil => cases hds
    | cons c rest =>
      simp only [List.map_cons, List.cons.injEq] at hds
      obtain ⟨rfl, rfl⟩ := hds
      have hrd : ∀ c ∈ done, ClOk C.deeds c := fun c hc => hr c (by rw [hMe]; simp [hc])
      have hck := hr c (by rw [hMe]; simp)
      have dl : done.length < row.length := by rw [hMe, List.length_append, List.length_cons]; omega
      obtain ⟨f1, f2, f3, f4⟩ := h2.facts V hrd (by omega) hst
      refine ⟨_, rfl, ?_⟩
      simp [bName]
      refine TD.WR.step (spread_spec V (VtAt.ext W x) hck h1 h2.ok f1 (fun p hp => by have := f4 p hp; omega)) ?_
      intro d S2 hh
      obtain ⟨n, b, n4, nf, hd, x2, bl, hb⟩ := hh
      subst hd
      have mo : TD.MulOk (t : Int) ((2 ^ n : Nat) : Int) := mulOkL (by omega) (by omega)
      simp [bTup, bCons, bNil, bName]
      refine ⟨by simpa using mo, done ++ [c], rest, by rw [hMe]; simp, rfl, _, _, b, t * 2 ^ n, ⟨rfl, by simp, rfl, rfl⟩, x.trans x2, by have := x.1; omega, _, hb, ?_⟩
      rw [List.length_append, WL_snoc]
      exact h2.step V hck n4 nf
  · rintro ρ S' ⟨done, rest, x4, x5, m, t, M, hMe, hds, rfl, x, hm, h1, h2⟩
    cases rest with
    | cons p rest => cases hds
    | nil =>
      rw [List.append_nil] at hMe
      obtain ⟨f1, f2, f3, f4⟩ := h2.facts V (by rw [← hMe]; exact hr) (by rw [← hMe]; exact hl) hst
      rw [← hMe] at h2
      have h7 := h2.ok.few V
      have ml := get_lt h1
      refine ws_lk (kvs := dm M) rfl h1 ?_
      have m1 : (S'.set m (.fdt (dm M)))[m]? = some (.fdt (dm M)) := set_at h1
      have x1 : ∀ S2, Ext (S'.set m (.fdt (dm M))) S2 → Ext S (S2.set m (.dtt (dm M))) := fun S2 y => x.trans (y.back h1)
      have hkt : keyTs (dm M) = M.map fun p => D.tup (p.1.map D.int) := keyTs_dm (fun p => .int p.2) M
      have l1 : (S'.set m (.fdt (dm M))).length = S'.length := List.length_set ..
      have ml1 : m < (S'.set m (.fdt (dm M))).length := by omega
      generalize S'.set m (.fdt (dm M)) = S1 at m1 x1 ml1 ⊢
      simp [m1, hkt]
      refine wr_dtL (fun ds acc S' => ∃ (done rest : WM), M = done ++ rest ∧ ds = rest.map (fun p => D.tup (p.1.map D.int)) ∧ acc = redM done t ∧ Ext S1 S' ∧ S'[S1.length]? = some (.dtt acc)) ?_ ?_ ?_ _ _ _ ⟨[], M, rfl, rfl, rfl, Ext.app _, app_at S1 _ 0⟩
      · exact fun _ _ _ _ => trivial
      · rintro d ds acc S' ⟨done, rest, hMe, hds, rfl, x, hn⟩
        cases rest with
        | nil => cases hds
        | cons p rest =>
          simp only [List.map_cons, List.cons.injEq] at hds
          obtain ⟨rfl, rfl⟩ := hds
          have pm : p ∈ M := by rw [hMe]; simp
          have pk : p.1 ∈ ks M := List.mem_map.mpr ⟨p, pm, rfl⟩
          have nw : p.1 ∉ ks done := nd_mid (hMe ▸ h2.ok.ok.nd)
          have nk : ∀ q ∈ done, ¬ q.1 = p.1 := fun q hq e => nw (List.mem_map.mpr ⟨q, hq, e⟩)
          have gw : valD (dm M) (kI p.1) = some (.int (p.2 : Nat)) := by
            rw [valD_dm h2.ok.ok, if_pos pk, wget_mem h2.ok.ok.nd pm]
          have hdl : done.length ≤ M.length := by rw [hMe, List.length_append]; omega
          obtain ⟨g1, g2⟩ := f4 p pm
          refine ⟨_, rfl, ?_⟩
          simp [bName, wipeD, x.at m1, keyT_kI, gw, -keyT_ints]
          rw [reduced_eq g1 g2 (by omega)]
          refine ⟨hn, by simp [redM]; omega, done ++ [p], rest, by rw [hMe]; simp, rfl, ?_, x.set (Nat.le_refl _) _, set_at hn⟩
          rw [putD_new (fun kv hkv e => by
            obtain ⟨q, hq, rfl⟩ := List.mem_map.mp hkv
            exact nk q hq (kI_inj e))]
          simp [redM]
      · rintro acc S' ⟨done, rest, hMe', hds, rfl, x, hn⟩
        cases rest with
        | cons p rest => cases hds
        | nil =>
          rw [List.append_nil] at hMe'
          subst hMe'
          simp only [unK, x.at m1, fdtP_fdt]
          have hn' : (S'.set m (.dtt (dm M)))[S1.length]? = some (.dtt (redM M t)) := by rw [set_ne (by omega)]; exact hn
          have y := x1 S' x
          have bl : S.length ≤ S1.length := by omega
          refine TD.WR.step (gc_ext y bl hn') ?_
          rintro _ S3 ⟨b', rfl, b1, b2, b3⟩
          exact ⟨M, t, h2, b', rfl, b1, b2, b3⟩
end
end K13

set_option Elab.async false
set_option linter.all false
set_option maxRecDepth 100000
set_option pp.maxSteps 1500
set_option maxHeartbeats 8000000
namespace K13
open PySem PySem.Spec PyProof.Rows L2 TD
theorem gint_ok {S : Sto} {x lo hi : Int} (h1 : lo ≤ x) (h2 : x ≤ hi) : F_law_good_int [.int x, .int lo, .int hi] S = .ok (.bl true) S := by
  apply WR.eq
  unfold F_law_good_int
  apply wr_dfun rfl
  simp [h1, h2]
theorem gints_ok {S : Sto} {s : List Int} (h : ∀ x ∈ s, 0 ≤ x ∧ x ≤ 8) : F_law_good_ints [.tup (s.map D.int)] S = .ok (.bl true) S := by
  apply WR.eq
  unfold F_law_good_ints
  apply wr_dfun rfl
  simp
  refine ws_forL (fun ds ρ S' => ∃ (r : List Int) (x : Option D), ds = r.map D.int ∧ (∀ x ∈ r, 0 ≤ x ∧ x ≤ 8) ∧ ρ = [some (.tup (s.map D.int)), x] ∧ S' = S) ?_ ?_ ?_ _ _ _ ⟨s, none, rfl, h, rfl, rfl⟩
  · exact fun _ _ _ _ => trivial
  · rintro d ds ρ S' ⟨r, x, he, hr, rfl, rfl⟩
    cases r with
    | nil => cases he
    | cons y r =>
      simp only [List.map_cons, List.cons.injEq] at he
      obtain ⟨rfl, rfl⟩ := he
      obtain ⟨y1, y2⟩ := hr y (by simp)
      refine ⟨_, rfl, ?_⟩
      simp [bName, gint_ok y1 y2]
      exact ⟨r, rfl, fun z hz => hr z (by simp [hz])⟩
  · rintro ρ S' ⟨r, x, he, hr, rfl, rfl⟩
    simp
theorem frac_ok {S : Sto} {w t c j : Nat} (hw : 1 ≤ w) (hwt : w ≤ t) (ht : t = 2 ^ j) (hc : 1 ≤ c) (hb : c * t ≤ 2 ^ 36) : F_law_fraction [redD w t, .int ((c * w : Nat) : Int), .int ((c * t : Nat) : Int)] S = .ok (.bl true) S := by
  obtain ⟨p1, p2, q1, q2, e1, e2, e3, e4⟩ := red_ok hw hwt ht hc
  unfold redD
  generalize w / Nat.gcd w t = p at *
  generalize t / Nat.gcd w t = q at *
  generalize c * w = W at *
  generalize c * t = T at *
  have a1 : F_law_good_int [.int (p : Int), .int 1, .int (T : Int)] S = .ok (.bl true) S := gint_ok (by omega) (by omega)
  have a2 : F_law_good_int [.int (q : Int), .int 1, .int (T : Int)] S = .ok (.bl true) S := gint_ok (by omega) (by omega)
  have m1 : TD.MulOk (p : Int) (T : Int) := mulOkL (by omega) (by omega)
  have m2 : TD.MulOk (W : Int) (q : Int) := mulOkR (by omega) (by omega)
  have e1' : (p : Int) * (T : Int) = (W : Int) * (q : Int) := by exact_mod_cast e1
  have e2' : (T : Int) % (q : Int) = 0 := by exact_mod_cast e2
  have q0 : 0 < q := q1
  apply WR.eq
  unfold F_law_fraction
  apply wr_dfun rfl
  simp [a1, a2, m1, m2, e1', e2', q0]
  rcases e3 with rfl | e3
  · simp
  · have : (p : Int) % 2 = 1 := by omega
    by_cases h : q = 1
    · subst h; simp
    · simp [h, this]
section
variable {cells : List (Int × Int)} {deeds : List Dd} {S : Sto}
theorem right_spec (V : Vk cells deeds) {M ML : WM} {t n i j : Nat} (h : Shr cells M t n ML) (hm : ∀ p ∈ M, p.2 ≤ t) (hn : n ≤ 9) (hL : SOk cells ML) (h1 : S[i]? = some (.dtt (redM M t))) (h2 : S[j]? = some (.dtt (dm ML))) (hij : i ≠ j) : F_law_right [.ref i, .ref j, .int ((16 ^ n : Nat) : Int)] S = .ok (.bl true) S := by
  obtain ⟨c, c1, c2, c3⟩ := h.sc
  obtain ⟨k, hk⟩ := h.po
  have b36 : c * t ≤ 2 ^ 36 := by
    rw [c3]
    exact Nat.le_trans (Nat.pow_le_pow_right (by decide) hn) (by decide)
  have hks : ks ML = ks M := by rw [c2, ks_scl]
  have hlen : M.length = ML.length := by rw [c2]; simp [scl]
  have hl1 : (redM M t).length = (dm ML).length := by simp [redM, dm, hlen]
  apply WR.eq
  unfold F_law_right
  apply wr_dfun rfl
  simp [h1, h2, hl1, tySub, -Int.natCast_pow]
  refine .inr ?_
  refine ws_lk (kvs := redM M t) rfl h1 ?_
  have m1 : (S.set i (.fdt (redM M t)))[i]? = some (.fdt (redM M t)) := set_at h1
  have m2 : (S.set i (.fdt (redM M t)))[j]? = some (.dtt (dm ML)) := by rw [set_ne hij]; exact h2
  have back : (S.set i (.fdt (redM M t))).set i (.dtt (redM M t)) = S := by
    rw [List.set_set]
    apply List.ext_getElem?
    intro q
    by_cases e : i = q
    · subst e
      rw [h1]
      exact set_at h1
    · exact set_ne e
  have hkt : keyTs (redM M t) = M.map fun p => D.tup (p.1.map D.int) := keyTs_dm (fun p => redD p.2 t) M
  generalize S.set i (.fdt (redM M t)) = S1 at m1 m2 back ⊢
  simp [m1, hkt, -Int.natCast_pow]
  refine ws_forL (fun ds ρ S' => ∃ (r : WM) (x : Option D), ds = r.map (fun p => D.tup (p.1.map D.int)) ∧ (∀ p ∈ r, p ∈ M) ∧ ρ = [some (.ref i), some (.ref j), some (.int ((16 ^ n : Nat) : Int)), x] ∧ S' = S1) ?_ ?_ ?_ _ _ _ ⟨M, none, rfl, fun _ h => h, by simp, rfl⟩
  · exact fun _ _ _ _ => trivial
  · rintro d ds ρ S' ⟨r, x, he, hr, rfl, rfl⟩
    cases r with
    | nil => cases he
    | cons p r =>
      simp only [List.map_cons, List.cons.injEq] at he
      obtain ⟨rfl, rfl⟩ := he
      have pm := hr p (by simp)
      have pk : p.1 ∈ ks M := List.mem_map.mpr ⟨p, pm, rfl⟩
      have g1 : valD (redM M t) (kI p.1) = some (redD p.2 t) := by
        have : redM M t = M.map fun p => (kI p.1, redD (wget M p.1) t) := by
          unfold redM
          apply List.map_congr_left
          intro q hq
          rw [wget_mem h.ok.ok.nd hq]
        rw [this, valD_fn (fun s => redD (wget M s) t) pk, wget_mem h.ok.ok.nd pm]
      have gw : valD (dm ML) (kI p.1) = some (.int ((c * p.2 : Nat) : Int)) := by
        have pm' : (p.1, c * p.2) ∈ ML := by rw [c2]; exact List.mem_map.mpr ⟨p, pm, rfl⟩
        rw [valD_dm hL.ok, if_pos (by rw [hks]; exact pk)]
        rw [show wget ML p.1 = c * p.2 from wget_mem hL.ok.nd pm']
      have fr := frac_ok (S := S') (h.ok.ok.pos p pm) (hm p pm) hk c1 b36
      rw [c3] at fr
      have gi := gints_ok (S := S') (st_small V (h.ok.mem pm)).2
      refine ⟨_, rfl, ?_⟩
      simp [bName, m1, m2, keyT_kI, g1, gw, gi, -keyT_ints, -Int.natCast_mul, -Int.natCast_pow, fr]
      exact ⟨r, rfl, fun a b hq => hr (a, b) (by simp [hq])⟩
  · rintro ρ S' ⟨r, x, he, hr, rfl, rfl⟩
    simp only [unK, m1, fdtP_fdt, back]
    simp
end
end K13

set_option Elab.async false
set_option linter.all false
set_option maxRecDepth 100000
set_option pp.maxSteps 1500
set_option maxHeartbeats 8000000
namespace K13
open PySem PySem.Spec PyProof.Rows L2 TD
theorem wow_at' {k : Nat} (hk : k ≤ 4) : ([D.int 16, .int 8, .int 4, .int 2, .int 1] : List D)[k]? = some (.int ((2 ^ (4 - k) : Nat) : Int)) := by
  have : k = 0 ∨ k = 1 ∨ k = 2 ∨ k = 3 ∨ k = 4 := by omega
  rcases this with rfl | rfl | rfl | rfl | rfl <;> rfl
section
variable {cells : List (Int × Int)} {deeds : List Dd} {S : Sto}
theorem louts_at (V : Vk cells deeds) {ci di : Nat} {c : Cl} {st : List Int} (hc : S[ci]? = some (.lst (cells.map encC))) (hd : S[di]? = some (.lst (deeds.map encDd))) (hk : ClOk deeds c) (hst : StOk (szs cells) st) :
    WR (F_law_outs [.ref ci, .ref di, .tup (st.map D.int), encCl c] S) (fun r S' => r = .ref S.length ∧ S' = S ++ [.lst (ocs (szs cells) c st)]) NX := louts_spec hc hd V.hc V.hD hk.1 hk.2.1 hk.2.2 hst
theorem wstep_spec (V : Vk cells deeds) {ci di q : Nat} {c : Cl} {m : Nat} {M : WM} {tt : Int} {x3 x8 x9 x10 x11 x12 : Option D} (hc : S[ci]? = some (.lst (cells.map encC))) (hd : S[di]? = some (.lst (deeds.map encDd))) (hk : ClOk deeds c) (hM : SOk cells M) (hw : ∀ p ∈ M, p.2 < 2 ^ 60) (hm : S[m]? = some (.dtt (dm M))) {K : Kt}
    (hK : ∀ S' y8 y9 y10 y11, Ext S S' → S'[S.length]? = some (.dtt (dm (stepW (EP 4 (szs cells) c) [] M))) → K.nx [some (.ref ci), some (.ref di), some (.ref q), x3, some (.ref m), some (.int tt), some (encCl c), some (.ref S.length), y8, y9, y10, y11, x12] S') :
    WS (sLk 4 (sFor (iKT (dV 4)) (bName 8)
    (sFor (iAny (dCB (fun S ds => F_law_outs ds S) (dCons (dV 0) (dCons (dV 1) (dCons (dV 8) (dCons (dV 6) dNil)))))) (bTup 3 (bCons (bName 9) (bCons (bName 10) (bCons (bName 11) bNil))))
    (sTPut (dV 7) (dV 11) (dOp gAdd (dTGet2 (dV 7) (dV 11) (dC (.int 0))) (dOp gMul (dOp gTGet (dV 4) (dV 8)) (dOp gSub2 (dLst (dCons (dC (.int 16)) (dCons (dC (.int 8)) (dCons (dC (.int 4)) (dCons (dC (.int 2)) (dCons (dC (.int 1)) dNil)))))) (dCB (one gLen) (dCons (dV 9) dNil)))))))) [some (.ref ci), some (.ref di), some (.ref q), x3, some (.ref m), some (.int tt), some (encCl c), some (.ref S.length), x8, x9, x10, x11, x12] (S ++ [DO.dtt []])) K := by
  have h7 := hM.few V
  have ml := get_lt hm
  have hst : ∀ p ∈ M, StOk (szs cells) p.1 := fun p hp => hM.mem hp
  have m5 : (S ++ [DO.dtt []])[m]? = some (.dtt (dm M)) := (Ext.app _).at hm
  refine ws_lk (kvs := dm M) rfl m5 ?_
  have e6 : (S ++ [DO.dtt []]).set m (.fdt (dm M)) = S.set m (.fdt (dm M)) ++ [DO.dtt []] := List.set_append_left _ _ (by omega)
  rw [e6]
  have l6 : (S.set m (.fdt (dm M))).length = S.length := List.length_set ..
  have m6 : (S.set m (.fdt (dm M)))[m]? = some (.fdt (dm M)) := set_at hm
  have nl : ∀ {i : Nat} {xs : List D}, S[i]? = some (.lst xs) → (S.set m (.fdt (dm M)))[i]? = some (.lst xs) := fun {i xs} h => by
    rw [set_ne (fun e => by subst e; rw [hm] at h; cases h)]
    exact h
  have c6 := nl hc
  have d6 := nl hd
  have fin : ∀ S', Ext (S.set m (.fdt (dm M))) S' → Ext S (S'.set m (.dtt (dm M))) := fun S' x => x.back hm
  rw [← l6] at hK ⊢
  have ml6 : m < (S.set m (.fdt (dm M))).length := by omega
  generalize S.set m (.fdt (dm M)) = S6 at m6 c6 d6 fin ml6 hK ⊢
  have hkt : keyTs (dm M) = M.map fun p => D.tup (p.1.map D.int) := keyTs_dm (fun p => .int p.2) M
  have m7 : (S6 ++ [DO.dtt []])[m]? = some (.fdt (dm M)) := (Ext.app _).at m6
  simp only [w_sFor, w_iKT, w_dV, List.getElem?_cons_succ, List.getElem?_cons_zero, varP_some]
  refine ⟨m, rfl, ?_⟩
  rw [m7]
  simp only [fdtP_fdt, hkt]
  refine ws_forL (fun ds ρ S' => ∃ (done rest : WM) (x8 x9 x10 x11 : Option D), M = done ++ rest ∧ ds = rest.map (fun p => D.tup (p.1.map D.int)) ∧ ρ = [some (.ref ci), some (.ref di), some (.ref q), x3, some (.ref m), some (.int tt), some (encCl c), some (.ref S6.length), x8, x9, x10, x11, x12] ∧ Ext S6 S' ∧ S'[S6.length]? = some (.dtt (dm (stepW (EP 4 (szs cells) c) [] done)))) ?_ ?_ ?_ _ _ _ ⟨[], M, x8, x9, x10, x11, rfl, rfl, rfl, Ext.app _, app_at S6 _ 0⟩
  · exact fun _ _ _ _ => trivial
  · rintro d ds ρ S' ⟨done, rest, x8, x9, x10, x11, hMe, hds, rfl, x, hb⟩
    cases rest with
    | nil => cases hds
    | cons p rest =>
      simp only [List.map_cons, List.cons.injEq] at hds
      obtain ⟨rfl, rfl⟩ := hds
      have pm : p ∈ M := by rw [hMe]; simp
      have pk : p.1 ∈ ks M := List.mem_map.mpr ⟨p, pm, rfl⟩
      have gw : valD (dm M) (kI p.1) = some (.int (p.2 : Nat)) := by
        rw [valD_dm hM.ok, if_pos pk, wget_mem hM.ok.nd pm]
      have hp := hst p pm
      have pw := hM.ok.pos p pm
      have NS : SOk cells (stepW (EP 4 (szs cells) c) [] done) := SOk.step V hk SOk.nil fun q hq => ⟨hM.ok.pos q (by rw [hMe]; simp [hq]), hst q (by rw [hMe]; simp [hq])⟩
      have hf := (fl_all V hk hp).1
      refine ⟨_, rfl, ?_⟩
      simp only [bName, List.set_cons_succ, List.set_cons_zero, w_sFor, w_iAny, w_dCB, w_dCons, w_dNil, w_dV, List.getElem?_cons_succ, List.getElem?_cons_zero, varP_some]
      refine TD.WR.step (louts_at V (x.at c6) (x.at d6) hk hp) ?_
      rintro _ S7 ⟨rfl, rfl⟩
      have b7 := get_lt hb
      have hb7 : (S' ++ [DO.lst (ocs (szs cells) c p.1)])[S6.length]? = some (.dtt (dm (stepW (EP 4 (szs cells) c) [] done))) := by rw [List.getElem?_append_left b7]; exact hb
      have o7 : (S' ++ [DO.lst (ocs (szs cells) c p.1)])[S'.length]? = some (.lst (ocs (szs cells) c p.1)) := app_at S' _ 0
      have x7 := x.trans (Ext.app (S := S') [DO.lst (ocs (szs cells) c p.1)])
      generalize hoi : S'.length = oi at o7 b7
      generalize S' ++ [DO.lst (ocs (szs cells) c p.1)] = S7 at o7 hb7 x7 ⊢
      simp only [itOf, TD.listOf, o7, optP_some]
      refine ws_forL (fun ds ρ S' => ∃ (fs gs : List (List Int)) (x9 x10 x11 : Option D), fl (szs cells) c p.1 = fs ++ gs ∧ ds = gs.map (oc (szs cells) c.d.rows p.1 c.a) ∧ ρ = [some (.ref ci), some (.ref di), some (.ref q), x3, some (.ref m), some (.int tt), some (encCl c), some (.ref S6.length), some (.tup (p.1.map D.int)), x9, x10, x11, x12] ∧ Ext S6 S' ∧ S'[oi]? = some (.lst (ocs (szs cells) c p.1)) ∧ S'[S6.length]? = some (.dtt (dm (TD.addL p.2 (stepW (EP 4 (szs cells) c) [] done) (fs.map fun f => (aft (szs cells) c p.1 f, 2 ^ (4 - f.length))))))) ?_ ?_ ?_ _ _ _ ⟨[], fl (szs cells) c p.1, x9, x10, x11, rfl, rfl, rfl, x7, o7, hb7⟩
      · rintro ds ρ S' ⟨fs, gs, y7, y8, y9, h1, rfl, rfl, x', h2, h3⟩
        simpa using h2
      · rintro d ds ρ S' ⟨fs, gs, y7, y8, y9, h1, h3, rfl, x', h4, h2⟩
        cases gs with
        | nil => cases h3
        | cons g gs =>
          simp only [List.map_cons, List.cons.injEq] at h3
          obtain ⟨rfl, rfl⟩ := h3
          have gn := (hf g (by rw [h1]; simp)).1
          have N2 : SOk cells (TD.addL p.2 (stepW (EP 4 (szs cells) c) [] done) (fs.map fun f => (aft (szs cells) c p.1 f, 2 ^ (4 - f.length)))) := NS.addL V hk hp pw fun q hq => by
            obtain ⟨f, hf, rfl⟩ := List.mem_map.mp hq
            exact List.mem_map.mpr ⟨f, by rw [h1]; simp [hf], rfl⟩
          have f2 := N2.few V
          have m8 := x'.at m6
          have wl := hw p pm
          have mo : TD.MulOk (p.2 : Int) ((2 ^ (4 - g.length) : Nat) : Int) := mulOkL (by omega) (by omega)
          have pa := wow_at' gn
          have b8 := get_lt h2
          refine ⟨_, rfl, ?_⟩
          refine ws_bump (b := S6.length) (k := aft (szs cells) c p.1 g) (v := p.2 * 2 ^ (4 - g.length)) (fun _ => rfl) (fun _ => rfl) N2.ok h2 (by omega) (P := fun S2 => S2 = S' ++ [DO.lst [.int 16, .int 8, .int 4, .int 2, .int 1]]) ?_ ?_
          · simp [m8, keyT_kI, gw, pa, -keyT_ints]
            exact ⟨mo, List.getElem?_append_left b8⟩
          · rintro S2 rfl h5
            have b9 := get_lt h4
            refine ⟨fs ++ [g], gs, _, _, _, by rw [h1]; simp, rfl, rfl, (x'.trans (Ext.app _)).set (Nat.le_refl _) _, ?_, ?_⟩
            · rw [set_ne (by omega), List.getElem?_append_left b9]
              exact h4
            · rw [set_at h5, List.map_append, List.map_cons, List.map_nil, addL_snoc]
      · rintro ρ S' ⟨fs, gs, y7, y8, y9, h1, h3, rfl, x', h4, h2⟩
        cases gs with
        | cons g gs => cases h3
        | nil =>
          rw [List.append_nil] at h1
          refine ⟨done ++ [p], rest, _, _, _, _, by rw [hMe]; simp, rfl, rfl, x', ?_⟩
          rw [h2, stepW_snoc]
          unfold EP
          rw [← h1]
  · rintro ρ S' ⟨done, rest, x8, x9, x10, x11, hMe, hds, rfl, x, hb⟩
    cases rest with
    | cons p rest => cases hds
    | nil =>
      rw [List.append_nil] at hMe
      have m8 := x.at m6
      simp only [unK, m8, fdtP_fdt]
      exact hK _ _ _ _ _ (fin S' x) (by rw [set_ne (by omega), hb, hMe])
end
end K13

set_option Elab.async false
set_option linter.all false
set_option maxRecDepth 100000
set_option pp.maxSteps 1500
set_option maxHeartbeats 8000000
namespace K13
open PySem PySem.Spec PyProof.Rows L2 TD
section
variable {cells : List (Int × Int)} {deeds : List Dd} {S : Sto}
theorem lw_spec (V : Vk cells deeds) {ci di q : Nat} {row : List Cl} (hc : S[ci]? = some (.lst (cells.map encC))) (hd : S[di]? = some (.lst (deeds.map encDd))) (hq : S[q]? = some (.lst (row.map encCl))) (hr : ∀ c ∈ row, ClOk deeds c) (hl : row.length ≤ 9) :
    WR (F_law_weights [.ref ci, .ref di, .ref q] S) (fun d S' => ∃ b, d = .tup [.ref b, .int ((16 ^ row.length : Nat) : Int)] ∧ S.length ≤ b ∧ Ext S S' ∧ S'[b]? = some (.dtt (dm (WL cells (cells.map (·.2)) row)))) NX := by
  have hst := begin_st V.hc
  have cl := get_lt hc
  have dl := get_lt hd
  have ql := get_lt hq
  have h3 := V.h3
  unfold F_law_weights
  apply wr_dfun rfl
  simp [hc, -Int.natCast_pow]
  refine wr_lcMap' S (fun c => D.int c.2) rfl rfl (by omega) (fun T => by simpa using (Ext.app _).at hc) (fun c _ T => ⟨_, rfl, by simp [wipeD, encC, bName]⟩) ?_
  have em : cells.map (fun c => D.int c.2) = (cells.map (·.2)).map D.int := by rw [List.map_map]; rfl
  rw [em]
  generalize hst0 : cells.map (·.2) = st0 at hst ⊢
  have s1 : (S ++ [DO.lst (st0.map D.int)])[S.length]? = some (.lst (st0.map D.int)) := app_at S _ 0
  have x1 : Ext S (S ++ [DO.lst (st0.map D.int)]) := Ext.app _
  simp only [g_tupR, s1, lstP_lst]
  generalize S ++ [DO.lst (st0.map D.int)] = S1 at s1 x1 ⊢
  have k0 : (S1 ++ [DO.dtt []])[S1.length]? = some (.dtt []) := app_at S1 _ 0
  have c1 := x1.at hc
  have d1 := x1.at hd
  have q1 := x1.at hq
  simp [keyT_kI, k0, -keyT_ints, -Int.natCast_pow]
  have s0 : S1 ++ [DO.dtt [(kI st0, D.int 1)]] = S1 ++ [DO.dtt (dm [(st0, 1)])] := rfl
  rw [s0]
  have q2 : (S1 ++ [DO.dtt (dm [(st0, 1)])])[q]? = some (.lst (row.map encCl)) := (Ext.app _).at q1
  rw [q2]
  simp only [lstP_lst]
  refine ws_forL (fun ds ρ S' => ∃ (done rest : List Cl) (x6 x7 x8 x9 x10 x11 : Option D) (m : Nat), row = done ++ rest ∧ ds = rest.map encCl ∧ ρ = [some (.ref ci), some (.ref di), some (.ref q), some (.tup (st0.map D.int)), some (.ref m), some (.int ((16 ^ done.length : Nat) : Int)), x6, x7, x8, x9, x10, x11, none] ∧ Ext S S' ∧ S.length ≤ m ∧ S'[m]? = some (.dtt (dm (WL cells st0 done)))) ?_ ?_ ?_ _ _ _ ⟨[], row, none, none, none, none, none, none, S1.length, rfl, rfl, rfl, x1.trans (Ext.app _), x1.1, app_at S1 _ 0⟩
  · rintro ds ρ S' ⟨done, rest, x6, x7, x8, x9, x10, x11, m, hMe, rfl, rfl, x, hm, h1⟩
    simpa using x.at hq
  · rintro d ds ρ S' ⟨done, rest, x6, x7, x8, x9, x10, x11, m, hMe, hds, rfl, x, hm, h1⟩
    cases rest with
    | nil => cases hds
    | cons c rest =>
      simp only [List.map_cons, List.cons.injEq] at hds
      obtain ⟨rfl, rfl⟩ := hds
      have hrd : ∀ c ∈ done, ClOk deeds c := fun c hc => hr c (by rw [hMe]; simp [hc])
      have hck := hr c (by rw [hMe]; simp)
      have dl : done.length < row.length := by rw [hMe, List.length_append, List.length_cons]; omega
      obtain ⟨w1, w2⟩ := WL_ok V hrd hst
      have p9 : (16 : Nat) ^ done.length ≤ 16 ^ 9 := Nat.pow_le_pow_right (by decide) (by omega)
      have wl : ∀ p ∈ WL cells st0 done, p.2 < 2 ^ 60 := fun p hp => by
        have := le_mass hp
        rw [w2] at this
        have : (16 : Nat) ^ 9 < 2 ^ 60 := by decide
        omega
      have mo : TD.MulOk ((16 ^ done.length : Nat) : Int) 16 := mulOkR (by omega) (by omega)
      refine ⟨_, rfl, ?_⟩
      simp only [bName, List.set_cons_succ, List.set_cons_zero, w_sSeq, w_sSet, w_dTNew, w_dOp, w_dV, w_dC, List.getElem?_cons_succ, List.getElem?_cons_zero, varP_some, g_mul]
      refine ⟨mo, ?_⟩
      refine wstep_spec V (x.at hc) (x.at hd) hck w1 wl h1 ?_
      intro S2 y8 y9 y10 y11 x2 h2
      simp only [w_dV, List.getElem?_cons_succ, List.getElem?_cons_zero, varP_some, List.set_cons_succ, List.set_cons_zero]
      refine ⟨done ++ [c], rest, some (encCl c), some (.ref S'.length), y8, y9, y10, y11, S'.length, by rw [hMe]; simp, rfl, ?_, x.trans x2, x.1, by rw [h2, WL_snoc]⟩
      have : ((16 ^ (done ++ [c]).length : Nat) : Int) = ((16 ^ done.length : Nat) : Int) * 16 := by
        rw [List.length_append, List.length_singleton, Nat.pow_succ]
        exact Int.natCast_mul _ _
      rw [this]
  · rintro ρ S' ⟨done, rest, x6, x7, x8, x9, x10, x11, m, hMe, hds, rfl, x, hm, h1⟩
    cases rest with
    | cons p rest => cases hds
    | nil =>
      rw [List.append_nil] at hMe
      subst hMe
      simp only [w_sRet, w_dTup, w_dCons, w_dNil, w_dV, List.getElem?_cons_succ, List.getElem?_cons_zero, varP_some]
      rw [gc_open (by simp; omega)]
      exact ⟨m, rfl, hm, x, h1⟩
end
end K13

set_option Elab.async false
set_option linter.all false
set_option maxRecDepth 100000
set_option pp.maxSteps 1500
set_option maxHeartbeats 8000000
namespace K13
open PySem PySem.Spec PyProof.Rows L2 TD
theorem gc_keep {S S' : Sto} {b : Nat} {o : DO} (hb : S.length ≤ b) (ho : S'[b]? = some o) (hc : clO S.length o = false) : gc S (.ok (.ref b) S') = .ok (.ref b) S' := by
  have e1 : clD S.length (.ref b) = false := by simp; omega
  simp only [gc, e1, ho, hc]
  split <;> rfl
section
variable {S : Sto} {C : Vc}
theorem zip_at {a b : List Int} (h : b.length = a.length) {i : Nat} (hi : i < (a.zip b).length) : (a.zip b)[i] = (a.getD i 0, b.getD i 0) := by
  simp only [List.length_zip] at hi
  rw [List.getElem_zip]
  simp [List.getD_eq_getElem?_getD, List.getElem?_eq_getElem (show i < a.length by omega), List.getElem?_eq_getElem (show i < b.length by omega)]
theorem zip_ok (V : Vk C.cells C.deeds) {st : List Int} (hst : StOk (szs C.cells) st) : Vk ((szs C.cells).zip st) C.deeds ∧ szs ((szs C.cells).zip st) = szs C.cells ∧ ((szs C.cells).zip st).map (·.2) = st := by
  have Z := V.Z
  have hl : ((szs C.cells).zip st).length = C.cells.length := by
    rw [List.length_zip, hst.1, Z.1]
    omega
  have z1 : ((szs C.cells).zip st).map Prod.fst = szs C.cells := List.map_fst_zip (by rw [hst.1]; omega)
  have z2 : ((szs C.cells).zip st).map Prod.snd = st := List.map_snd_zip (by rw [hst.1]; omega)
  refine ⟨⟨⟨by rw [hl]; exact V.hc.1, by rw [hl]; exact V.hc.2.1, fun c hc => ?_⟩, by rw [hl]; exact V.h3, by rw [hl]; exact V.hD, V.h1, V.h8, V.hN⟩, z1, z2⟩
  obtain ⟨i, hi, rfl⟩ := List.mem_iff_getElem.mp hc
  rw [zip_at hst.1 hi]
  have a := hst.2 i (by rw [hl] at hi; rw [Z.1]; exact hi)
  have b := Z.2 i (by rw [hl] at hi; exact hi)
  simp only
  omega
theorem begun_spec (V : Vk C.cells C.deeds) (W : VtAt C S) {st : List Int} (hst : StOk (szs C.cells) st) :
    WR (F_begun [.ref C.v, .tup (st.map D.int)] S) (fun d S' => ∃ C' : Vc, d = .ref C'.v ∧ C'.cells = (szs C.cells).zip st ∧ C'.deeds = C.deeds ∧ VtAt C' S' ∧ Ext S S') NX := by
  obtain ⟨V', zs, zb⟩ := zip_ok V hst
  have h3 := V'.h3
  have vl := get_lt W.v
  unfold F_begun
  apply wr_dfun rfl
  simp [-w_sDrop, -w_dLc]
  rw [w_sDrop]
  simp only [w_dCB, w_dCons, w_dNil, w_dV, List.getElem?_cons_succ, List.getElem?_cons_zero, varP_some]
  rw [check_state_ok W hst]
  have ez : (C.sz.map D.int).length = C.cells.length := by simp [Vc.sz]
  have es : pairsD (C.sz.map D.int) (st.map D.int) = ((szs C.cells).zip st).map encC := by
    rw [pairs_ints]
    rfl
  simp [W.v, vtF, es]
  refine wr_lcMap' S (fun c => encC c) rfl rfl (by omega) (fun T => by simp) (fun c _ T => ⟨_, rfl, by simp [wipeD, encC, bName, bTup, bCons, bNil]⟩) ?_
  rw [show ((szs C.cells).zip st).map (fun c => encC c) = ((szs C.cells).zip st).map encC from rfl]
  have q1 : (S ++ [DO.lst (((szs C.cells).zip st).map encC)])[S.length]? = some (.lst (((szs C.cells).zip st).map encC)) := app_at S _ 0
  have W1 := VtAt.ext W (Ext.app (S := S) [DO.lst (((szs C.cells).zip st).map encC)])
  have x1 : Ext S (S ++ [DO.lst (((szs C.cells).zip st).map encC)]) := Ext.app _
  generalize S ++ [DO.lst (((szs C.cells).zip st).map encC)] = S1 at q1 W1 x1 ⊢
  simp [W1.v, vtF]
  have q2 : (S1 ++ [DO.lst (C.deeds.map encDd)])[S.length]? = some (.lst (((szs C.cells).zip st).map encC)) := (Ext.app _).at q1
  have q3 : (S1 ++ [DO.lst (C.deeds.map encDd)])[S1.length]? = some (.lst (C.deeds.map encDd)) := app_at S1 _ 0
  have x2 := x1.trans (Ext.app (S := S1) [DO.lst (C.deeds.map encDd)])
  have e8 : S1 ++ [DO.lst (C.deeds.map encDd), .ins (Str.ofString "Vault") []] = (S1 ++ [DO.lst (C.deeds.map encDd)]) ++ [.ins (Str.ofString "Vault") []] := by simp
  have e9 : S1.length + 1 = (S1 ++ [DO.lst (C.deeds.map encDd)]).length := by simp
  rw [e8, e9]
  have kv := vinit q2 q3 V'.hc V'.h1 V'.h8 V'.hD V'.hN
  generalize S1 ++ [DO.lst (C.deeds.map encDd)] = S2 at q2 q3 x2 kv ⊢
  refine TD.WR.step kv ?_
  rintro _ S6 ⟨rfl, C', cv, c1, c2, i1, i2, W', lS, oS⟩
  have x6 : Ext S S6 := x2.trans ⟨lS, oS⟩
  have bl : S.length ≤ S2.length := x2.1
  rw [← cv]
  refine ⟨rfl, ?_⟩
  rw [gc_keep (by omega) W'.v (by simp [vtF]; omega)]
  exact ⟨C', rfl, c1, c2, W', x6⟩
end
end K13

set_option Elab.async false
set_option linter.all false
set_option maxRecDepth 100000
set_option pp.maxSteps 1500
set_option maxHeartbeats 8000000
namespace K13
open PySem PySem.Spec PyProof.Rows L2 TD
section
variable {S : Sto} {C : Vc}
theorem redM_get {M : WM} (h : WOk M) {t : Nat} {p : List Int × Nat} (pm : p ∈ M) : valD (redM M t) (kI p.1) = some (redD p.2 t) := by
  have pk : p.1 ∈ ks M := List.mem_map.mpr ⟨p, pm, rfl⟩
  have : redM M t = M.map fun p => (kI p.1, redD (wget M p.1) t) := by
    unfold redM
    apply List.map_congr_left
    intro q hq
    rw [wget_mem h.nd hq]
  rw [this, valD_fn (fun s => redD (wget M s) t) pk, wget_mem h.nd pm]
theorem SOk.sclL {cells : List (Int × Int)} {M : WM} (h : SOk cells M) {c : Nat} (hc : 1 ≤ c) : SOk cells (scl c M) := ⟨h.ok.scl hc, by rw [ks_scl]; exact h.st⟩
theorem SOk.addM {cells : List (Int × Int)} {N E : WM} (h : SOk cells N) {w : Nat} (hw : 1 ≤ w) (hE : ∀ q ∈ E, 1 ≤ q.2 ∧ StOk (szs cells) q.1) : SOk cells (TD.addL w N E) := by
  refine ⟨addL_ok hw h.ok fun q hq => (hE q hq).1, fun x hx => ?_⟩
  rcases ks_addL hx with z | z
  · exact h.st x z
  · obtain ⟨q, hq, rfl⟩ := List.mem_map.mp z
    exact (hE q hq).2
theorem SOk.stepM {cells : List (Int × Int)} {E : List Int → WM} : ∀ {M N : WM}, SOk cells N → (∀ p ∈ M, 1 ≤ p.2 ∧ ∀ q ∈ E p.1, 1 ≤ q.2 ∧ StOk (szs cells) q.1) → SOk cells (stepW E N M)
  | [], N, h, _ => h
  | p :: M, N, h, hM => by
    show SOk cells (stepW E (TD.addL p.2 N (E p.1)) M)
    exact SOk.stepM (h.addM (hM p (by simp)).1 (hM p (by simp)).2) fun q hq => hM q (by simp [hq])
/-- the second part's dict, added -/
theorem madd_spec (V : Vk C.cells C.deeds) {b m t c w T : Nat} {N M : WM} {x0 x1 x2 x5 x6 x9 : Option D} {K : Kt} (hN : SOk C.cells N) (hM : SOk C.cells M) (hm : ∀ p ∈ M, 1 ≤ p.2 ∧ p.2 ≤ t) (ht : ∃ j, t = 2 ^ j) (hc : 1 ≤ c) (hw : 1 ≤ w) (hT : c * t = T) (hb36 : T ≤ 2 ^ 36) (hb : S[b]? = some (.dtt (dm N))) (h8 : S[m]? = some (.dtt (redM M t))) (hbm : b ≠ m)
    (hK : ∀ S' y9, Ext S (S'.set b (.dtt (dm N))) → S'[b]? = some (.dtt (dm (TD.addL w N (scl c M)))) → K.nx [x0, x1, x2, some (.int (T : Int)), some (.ref b), x5, x6, some (.int (w : Int)), some (.ref m), y9] S') :
    WS (sLk 8 (sFor (iKT (dV 8)) (bName 9)
    (sTPut (dV 4) (dV 9) (dOp gAdd (dTGet2 (dV 4) (dV 9) (dC (.int 0))) (dOp gMul (dOp gMul (dV 7) (dOp gSub2 (dOp gTGet (dV 8) (dV 9)) (dC (.int 0)))) (dOp gDivW (dV 3) (dOp gSub2 (dOp gTGet (dV 8) (dV 9)) (dC (.int 1)))))))) [x0, x1, x2, some (.int (T : Int)), some (.ref b), x5, x6, some (.int (w : Int)), some (.ref m), x9] S) K := by
  obtain ⟨j, hj⟩ := ht
  have bl := get_lt hb
  have ml := get_lt h8
  refine ws_lk (kvs := redM M t) rfl h8 ?_
  have m1 : (S.set m (.fdt (redM M t)))[m]? = some (.fdt (redM M t)) := set_at h8
  have b1 : (S.set m (.fdt (redM M t)))[b]? = some (.dtt (dm N)) := by rw [set_ne (by omega)]; exact hb
  have hkt : keyTs (redM M t) = M.map fun p => D.tup (p.1.map D.int) := keyTs_dm (fun p => redD p.2 t) M
  have fin : ∀ S' : Sto, (S'.length = S.length) → (∀ i : Nat, i ≠ b → S'[i]? = (S.set m (.fdt (redM M t)))[i]?) → Ext S ((S'.set m (.dtt (redM M t))).set b (.dtt (dm N))) := fun S' hl h => ⟨by rw [List.length_set, List.length_set]; omega, fun i hi => by
    by_cases e : b = i
    · subst e
      have : b < (S'.set m (.dtt (redM M t))).length := by rw [List.length_set]; omega
      rw [List.getElem?_set_self this, hb]
    · rw [set_ne e]
      by_cases e2 : m = i
      · subst e2
        rw [List.getElem?_set_self (by omega), h8]
      · rw [set_ne e2, h i (fun z => e z.symm), set_ne e2]⟩
  simp only [w_sFor, w_iKT, w_dV, List.getElem?_cons_succ, List.getElem?_cons_zero, varP_some]
  refine ⟨m, rfl, ?_⟩
  rw [m1]
  simp only [fdtP_fdt, hkt]
  refine ws_forL (fun ds ρ S' => ∃ (done rest : WM) (y9 : Option D), M = done ++ rest ∧ ds = rest.map (fun p => D.tup (p.1.map D.int)) ∧ ρ = [x0, x1, x2, some (.int (T : Int)), some (.ref b), x5, x6, some (.int (w : Int)), some (.ref m), y9] ∧ S'.length = S.length ∧ (∀ i : Nat, i ≠ b → S'[i]? = (S.set m (.fdt (redM M t)))[i]?) ∧ S'[b]? = some (.dtt (dm (TD.addL w N (scl c done))))) ?_ ?_ ?_ _ _ _ ⟨[], M, x9, rfl, rfl, rfl, List.length_set .., fun _ _ => rfl, b1⟩
  · exact fun _ _ _ _ => trivial
  · rintro d ds ρ S' ⟨done, rest, y9, hMe, hds, rfl, hl, ho, hb'⟩
    cases rest with
    | nil => cases hds
    | cons p rest =>
      simp only [List.map_cons, List.cons.injEq] at hds
      obtain ⟨rfl, rfl⟩ := hds
      have pm : p ∈ M := by rw [hMe]; simp
      have g8 : S'[m]? = some (.fdt (redM M t)) := by rw [ho m (by omega)]; exact m1
      have gw := redM_get hM.ok (t := t) pm
      obtain ⟨pw, pt⟩ := hm p pm
      obtain ⟨p1, p2, q1, q2, e1, e2, e3, e4⟩ := red_ok (c := c) pw pt hj hc
      rw [hT] at p2 q2 e4
      have N2 : SOk C.cells (TD.addL w N (scl c done)) := hN.addM hw fun q hq => by
        obtain ⟨r, hr, rfl⟩ := List.mem_map.mp hq
        have rm : r ∈ M := by rw [hMe]; simp [hr]
        exact ⟨Nat.mul_pos hc (hm r rm).1, (hM.mem rm : StOk (szs C.cells) r.1)⟩
      have f2 := N2.few V
      unfold redD at gw
      generalize p.2 / Nat.gcd p.2 t = x at *
      generalize t / Nat.gcd p.2 t = y at *
      have dl : T / y ≤ T := Nat.div_le_self _ _
      have mo1 : TD.MulOk (w : Int) (x : Int) := mulOkR (by omega) (by omega)
      have ed : (T : Int) / (y : Int) = ((T / y : Nat) : Int) := by simp
      generalize T / y = z at *
      have mo2 : TD.MulOk ((w : Int) * (x : Int)) ((T : Int) / (y : Int)) := by
        rw [ed]
        exact mulOkR (by omega) (by omega)
      have y0 : 0 < y := q1
      have yb : (y : Int) < 18446744073709551616 := by omega
      have val : (w : Int) * (x : Int) * ((T : Int) / (y : Int)) = ((w * (c * p.2) : Nat) : Int) := by
        rw [ed, ← e4]
        simp [Int.mul_assoc]
      refine ⟨_, rfl, ?_⟩
      refine ws_bump (b := b) (k := p.1) (v := w * (c * p.2)) (fun _ => rfl) (fun _ => rfl) N2.ok hb' (by omega) (P := fun S2 => S2 = S') ?_ ?_
      · simp [g8, keyT_kI, gw, bName, -keyT_ints, mo1, mo2, y0, yb, val, -Int.natCast_mul, -Int.natCast_ediv]
      · rintro S2 rfl h5
        refine ⟨done ++ [p], rest, _, by rw [hMe]; simp, rfl, rfl, by rw [List.length_set]; exact hl, fun i hi => by rw [set_ne (fun z => hi z.symm)]; exact ho i hi, ?_⟩
        rw [set_at h5]
        simp [scl, addL_snoc]
  · rintro ρ S' ⟨done, rest, y9, hMe, hds, rfl, hl, ho, hb'⟩
    cases rest with
    | cons p rest => cases hds
    | nil =>
      rw [List.append_nil] at hMe
      have g8 : S'[m]? = some (.fdt (redM M t)) := by rw [ho m (by omega)]; exact m1
      simp only [unK, g8, fdtP_fdt]
      exact hK _ _ (fin S' hl ho) (by rw [set_ne (by omega), hb', hMe])
end
end K13

set_option Elab.async false
set_option linter.all false
set_option maxRecDepth 100000
set_option pp.maxSteps 1500
set_option maxHeartbeats 8000000
namespace K13
open PySem PySem.Spec PyProof.Rows L2 TD
theorem scl_scl (a b : Nat) (M : WM) : scl (a * b) M = scl a (scl b M) := by
  unfold scl
  rw [List.map_map]
  apply List.map_congr_left
  intro p _
  simp [Nat.mul_assoc]
theorem scl_snoc (a : Nat) (M : WM) (p : List Int × Nat) : scl a (M ++ [p]) = scl a M ++ [(p.1, a * p.2)] := by simp [scl]
section
variable {S : Sto} {C : Vc}
theorem mixed_spec (V : Vk C.cells C.deeds) (W : VtAt C S) {q1 q2 : Nat} {r1 r2 : List Cl} (h1 : S[q1]? = some (.lst (r1.map encCl))) (h2 : S[q2]? = some (.lst (r2.map encCl))) (hr1 : ∀ c ∈ r1, ClOk C.deeds c) (hr2 : ∀ c ∈ r2, ClOk C.deeds c) (hl : r1.length + r2.length ≤ 9) :
    WR (F_law_mixed [.ref C.v, .ref q1, .ref q2, .int ((16 ^ (r1.length + r2.length) : Nat) : Int)] S) (fun d S' => ∃ (b : Nat) (MX : WM), d = .ref b ∧ S.length ≤ b ∧ Ext S S' ∧ S'[b]? = some (.dtt (dm MX)) ∧ SOk C.cells MX ∧ ∀ h, wI h MX = 16 ^ (r1.length + r2.length) * wI h (WL C.cells (C.cells.map (·.2)) (r1 ++ r2))) NX := by
  have hst := begin_st V.hc
  have T36 : (16 : Nat) ^ (r1.length + r2.length) ≤ 2 ^ 36 := Nat.le_trans (Nat.pow_le_pow_right (by decide) hl) (by decide)
  have TT : (16 : Nat) ^ (r1.length + r2.length) = 16 ^ r1.length * 16 ^ r2.length := Nat.pow_add ..
  generalize hT : (16 : Nat) ^ (r1.length + r2.length) = T at T36 TT ⊢
  have n1p : 1 ≤ (16 : Nat) ^ r1.length := Nat.pow_pos (by decide)
  have n2p : 1 ≤ (16 : Nat) ^ r2.length := Nat.pow_pos (by decide)
  unfold F_law_mixed
  apply wr_dfun rfl
  have l1 := get_lt h1
  have l2 := get_lt h2
  have e1 : (S ++ [DO.dtt []])[q1]? = some (.lst (r1.map encCl)) := (Ext.app _).at h1
  simp [e1]
  have s2 : S ++ [DO.dtt [], .lst (r1.map encCl)] = S ++ [DO.dtt (dm [])] ++ [.lst (r1.map encCl)] := by simp [dm]
  have s3 : S.length + 1 = (S ++ [DO.dtt (dm [])]).length := by simp
  rw [s2, s3]
  have xa : Ext S (S ++ [DO.dtt (dm [])]) := Ext.app _
  have ba : (S ++ [DO.dtt (dm [])])[S.length]? = some (.dtt (dm [])) := app_at S _ 0
  generalize S ++ [DO.dtt (dm [])] = Sa at xa ba ⊢
  have xb : Ext Sa (Sa ++ [.lst (r1.map encCl)]) := Ext.app _
  refine TD.WR.step (share_spec V (VtAt.ext W (xa.trans xb)) (app_at Sa _ 0) hr1 (by omega)) ?_
  rintro _ S1 ⟨M1, t1, b1, sh1, rfl, bl1, xc, hb1⟩
  obtain ⟨fa, fb, fc, fd⟩ := sh1.facts V hr1 (by omega) hst
  have x1 : Ext S S1 := xa.trans (xb.trans xc)
  have xa1 : Ext Sa S1 := xb.trans xc
  have hbb : S1[S.length]? = some (.dtt (dm [])) := xa1.at ba
  have lb : S.length < Sa.length := get_lt ba
  have bl1' : Sa.length ≤ b1 := by have := xb.1; omega
  have lS1 := get_lt hb1
  obtain ⟨c1, c1p, sc1, cm1⟩ := sh1.sc
  obtain ⟨j1, hj1⟩ := sh1.po
  refine ws_lk (kvs := redM M1 t1) rfl hb1 ?_
  have m1 : (S1.set b1 (.fdt (redM M1 t1)))[b1]? = some (.fdt (redM M1 t1)) := set_at hb1
  have bb1 : (S1.set b1 (.fdt (redM M1 t1)))[S.length]? = some (.dtt (dm [])) := by rw [set_ne (by omega)]; exact hbb
  have xs1 : Ext S (S1.set b1 (.fdt (redM M1 t1))) := x1.set (by omega) _
  have hkt : keyTs (redM M1 t1) = M1.map fun p => D.tup (p.1.map D.int) := keyTs_dm (fun p => redD p.2 t1) M1
  generalize S1.set b1 (.fdt (redM M1 t1)) = S2 at m1 bb1 xs1 ⊢
  simp only [w_sFor, w_iKT, w_dV, List.getElem?_cons_succ, List.getElem?_cons_zero, varP_some]
  refine ⟨b1, rfl, ?_⟩
  rw [m1]
  simp only [fdtP_fdt, hkt]
  have hb1S : S.length < b1 := by omega
  refine ws_forL (fun ds ρ S' => ∃ (done rest : WM) (x6 x7 x8 x9 : Option D), M1 = done ++ rest ∧ ds = rest.map (fun p => D.tup (p.1.map D.int)) ∧ ρ = [some (.ref C.v), some (.ref q1), some (.ref q2), some (.int (T : Int)), some (.ref S.length), some (.ref b1), x6, x7, x8, x9] ∧ Ext S S' ∧ S'[b1]? = some (.fdt (redM M1 t1)) ∧ S'[S.length]? = some (.dtt (dm (stepW (fun s => scl (16 ^ r1.length) (WL C.cells s r2)) [] (scl (16 ^ r2.length * c1) done))))) ?_ ?_ ?_ _ _ _ ⟨[], M1, none, none, none, none, rfl, rfl, rfl, xs1, m1, bb1⟩
  · exact fun _ _ _ _ => trivial
  · rintro d ds ρ S' ⟨done, rest, x6, x7, x8, x9, hMe, hds, rfl, x, hb, hc⟩
    cases rest with
    | nil => cases hds
    | cons p rest =>
      simp only [List.map_cons, List.cons.injEq] at hds
      obtain ⟨rfl, rfl⟩ := hds
      have pm : p ∈ M1 := by rw [hMe]; simp
      have hps := sh1.ok.mem pm
      have gw := redM_get sh1.ok.ok (t := t1) pm
      obtain ⟨pw, pt⟩ := fd p pm
      obtain ⟨p1, p2, y1, y2, z1, z2, z3, z4⟩ := red_ok (c := 16 ^ r2.length * c1) pw pt hj1 (Nat.mul_pos n2p c1p)
      have hTc : 16 ^ r2.length * c1 * t1 = T := by rw [Nat.mul_assoc, cm1, TT, Nat.mul_comm]
      rw [hTc] at p2 y2 z4
      have wle : 16 ^ r2.length * c1 * p.2 ≤ T := by rw [← hTc]; exact Nat.mul_le_mul_left _ pt
      unfold redD at gw
      generalize p.2 / Nat.gcd p.2 t1 = xx at *
      generalize t1 / Nat.gcd p.2 t1 = yy at *
      have ed : (T : Int) / (yy : Int) = ((T / yy : Nat) : Int) := by simp
      have dl : T / yy ≤ T := Nat.div_le_self _ _
      generalize T / yy = zz at *
      have mo1 : TD.MulOk (xx : Int) ((T : Int) / (yy : Int)) := mulOkL (by omega) (by omega)
      have yb : (yy : Int) < 18446744073709551616 := by omega
      have val : (xx : Int) * ((T : Int) / (yy : Int)) = ((16 ^ r2.length * c1 * p.2 : Nat) : Int) := by
        rw [ed, ← z4]
        exact (Int.natCast_mul _ _).symm
      have y0 : 0 < yy := y1
      refine ⟨_, rfl, ?_⟩
      simp [bName, hb, keyT_kI, gw, -keyT_ints, mo1, y0, yb, val, -Int.natCast_mul, -Int.natCast_ediv]
      refine TD.WR.step (begun_spec V (VtAt.ext W x) hps) ?_
      rintro _ S3 ⟨C', rfl, cc, cd, W3, x3⟩
      obtain ⟨V', zs, zb⟩ := zip_ok V hps
      rw [← cc, ← cd] at V'
      rw [← cc] at zs zb
      have q3 := (x.trans x3).at h2
      rw [q3]
      simp only [lstP_lst]
      refine TD.WR.step (share_spec V' (VtAt.ext W3 (Ext.app _)) (app_at S3 _ 0) (by rw [cd]; exact hr2) (by omega)) ?_
      rintro _ S4 ⟨M2, t2, b2, sh2, rfl, bl2, x4, hb2⟩
      have hst2 := begin_st V'.hc
      obtain ⟨ga, gb, gc', gd⟩ := sh2.facts V' (by rw [cd]; exact hr2) (by omega) hst2
      obtain ⟨c2, c2p, sc2, cm2⟩ := sh2.sc
      have x34 : Ext S' S4 := x3.trans ((Ext.app _).trans x4)
      have hc4 := x34.at hc
      have hb4 := x34.at hb
      have sl := get_lt hc
      have bl4 : S'.length ≤ b2 := by
        have := x3.1
        rw [List.length_append] at bl2
        omega
      have NS : SOk C.cells (stepW (fun s => scl (16 ^ r1.length) (WL C.cells s r2)) [] (scl (16 ^ r2.length * c1) done)) := SOk.stepM SOk.nil fun q hq => by
        obtain ⟨r, hr, rfl⟩ := List.mem_map.mp hq
        have rm : r ∈ M1 := by rw [hMe]; simp [hr]
        refine ⟨Nat.mul_pos (Nat.mul_pos n2p c1p) (fd r rm).1, fun u hu => ?_⟩
        have k := (WL_ok V hr2 (sh1.ok.mem rm)).1.sclL n1p
        exact ⟨k.ok.pos u hu, k.mem hu⟩
      have sM2 : SOk C.cells M2 := ⟨sh2.ok.ok, by rw [← zs]; exact sh2.ok.st⟩
      have hb1l := get_lt hb
      refine madd_spec V NS sM2 gd sh2.po (c := 16 ^ r1.length * c2) (Nat.mul_pos n1p c2p) (Nat.mul_pos (Nat.mul_pos n2p c1p) pw) (by rw [Nat.mul_assoc, cm2, TT]) T36 hc4 hb2 (by omega) ?_
      intro S5 y9 x5 hb5
      refine ⟨done ++ [p], rest, by rw [hMe]; simp, rfl, ⟨_, _, _, _, rfl⟩, ⟨?_, fun i hi => ?_⟩, ?_, ?_⟩
      · have := (x.trans (x34.trans x5)).1
        rw [List.length_set] at this
        exact this
      · have := (x.trans (x34.trans x5)).2 i hi
        rw [set_ne (by omega)] at this
        exact this
      · have := x5.at hb4
        rw [set_ne (by omega)] at this
        exact this
      · rw [hb5, scl_snoc, stepW_snoc]
        have : scl (16 ^ r1.length * c2) M2 = scl (16 ^ r1.length) (WL C.cells p.1 r2) := by
          rw [scl_scl, ← sc2]
          unfold WL
          rw [zs, zb]
        rw [this]
  · rintro ρ S' ⟨done, rest, x6, x7, x8, x9, hMe, hds, rfl, x, hb, hc⟩
    cases rest with
    | cons p rest => cases hds
    | nil =>
      rw [List.append_nil] at hMe
      subst hMe
      simp only [unK, hb, fdtP_fdt, w_sRet, w_dV, List.getElem?_cons_succ, List.getElem?_cons_zero, varP_some]
      have NS : SOk C.cells (stepW (fun s => scl (16 ^ r1.length) (WL C.cells s r2)) [] (scl (16 ^ r2.length * c1) M1)) := SOk.stepM SOk.nil fun q hq => by
        obtain ⟨r, rm, rfl⟩ := List.mem_map.mp hq
        refine ⟨Nat.mul_pos (Nat.mul_pos n2p c1p) (fd r rm).1, fun u hu => ?_⟩
        have k := (WL_ok V hr2 (sh1.ok.mem rm)).1.sclL n1p
        exact ⟨k.ok.pos u hu, k.mem hu⟩
      have hlt := get_lt hb
      have x9 : Ext S (S'.set b1 (.dtt (redM M1 t1))) := x.set (by omega) _
      refine TD.WR.step (gc_ext x9 (Nat.le_refl _) (by rw [set_ne (by omega)]; exact hc)) ?_
      rintro _ S6 ⟨b', rfl, b1', b2', b3'⟩
      refine ⟨b', rfl, b1', b2', _, b3', NS, fun h => ?_⟩
      rw [scl_scl, ← sc1]
      have := stepW_scl (16 ^ r2.length) (16 ^ r1.length) (fun s => WL C.cells s r2) (WL C.cells (C.cells.map (·.2)) r1) []
      rw [show scl (16 ^ r2.length * 16 ^ r1.length) [] = [] from rfl] at this
      rw [this, wI_scl, TT, Nat.mul_comm (16 ^ r2.length)]
      congr 1
      exact mix_I (fun c s => EP_pos 4 _ c s) h (one_ok _)
end
end K13

set_option Elab.async false
set_option linter.all false
set_option maxRecDepth 100000
set_option pp.maxSteps 1500
set_option maxHeartbeats 8000000
namespace K13
open PySem PySem.Spec PyProof.Rows L2 TD
theorem calls_cl {deeds : List Dd} : ∀ {cs : List D}, (∀ c ∈ cs, CallOk deeds c) → ∃ cl : List Cl, cs = cl.map encCl ∧ ∀ c ∈ cl, ClOk deeds c
  | [], _ => ⟨[], rfl, by simp⟩
  | c :: cs, h => by
    obtain ⟨cl, rfl, k⟩ := calls_cl (cs := cs) fun d hd => h d (by simp [hd])
    obtain ⟨d, hd, a, e, a0, a1⟩ := h c (by simp)
    refine ⟨⟨d, a⟩ :: cl, by rw [e]; rfl, fun x hx => ?_⟩
    rcases List.mem_cons.mp hx with z | z
    · subst z
      exact ⟨hd, a0, a1⟩
    · exact k x z
theorem cl_at {cl : List Cl} {j : Int} (j0 : 0 ≤ j) (j1 : j < cl.length) : ∃ c ∈ cl, atI (cl.map encCl) j = some (encCl c) := by
  have hj : j.toNat < cl.length := by omega
  exact ⟨cl[j.toNat], List.getElem_mem hj, by rw [atI_nn _ j0]; simp [List.getElem?_eq_getElem hj]⟩
section
variable {S : Sto}
theorem lrow_spec {p k : Nat} {cl : List Cl} (hp : Pl S p) (hk : S[k]? = some (.lst (cl.map encCl))) (hkp : k ≠ p) (h1 : 1 ≤ cl.length) (h2 : cl.length ≤ 100) :
    WR (F_law_row [.ref p, .ref k, .int 4] S) (fun d S' => d = .ref S.length ∧ ∃ row : List Cl, row.length ≤ 4 ∧ (∀ c ∈ row, c ∈ cl) ∧ S'[S.length]? = some (.lst (row.map encCl)) ∧ Pl S' p ∧ Gw S S' [p] 1) NX := by
  have ip := hp.ins
  have ip' : p < S.length := ip
  have hne := ne_old ip
  have kl := get_lt hk
  unfold F_law_row
  apply wr_dfun rfl
  simp
  have p0 : Pl (S ++ [DO.lst []]) p := hp.frame (List.getElem?_append_left ip')
  refine TD.WR.step (draw p0 (m := 5) (by omega) (by omega)) ?_
  rintro _ S1 ⟨m, rfl, m0, m3, p1, f1⟩
  have hr : rngOk m := ⟨by omega, by omega⟩
  have g1 : Gw S S1 [p] 1 := (Gw.app (S := S) (L := [p]) [.lst []]).fr f1 (by simp)
  have e1 : S1[S.length]? = some (.lst []) := by
    rw [f1.2 _ (by simp; omega)]
    exact app_at S _ 0
  simp [hr]
  refine ws_forL (fun ds ρ S' => ∃ (row : List Cl) (x : Option D), ρ = [some (.ref p), some (.ref k), some (.int 4), some (.ref S.length), x] ∧ row.length + ds.length ≤ 4 ∧ (∀ c ∈ row, c ∈ cl) ∧ S'[S.length]? = some (.lst (row.map encCl)) ∧ Pl S' p ∧ Gw S S' [p] 1) ?_ ?_ ?_ _ _ _ ⟨[], none, rfl, by simp [rgD_len]; omega, by simp, e1, p1, g1⟩
  · exact fun _ _ _ _ => trivial
  · rintro e ds ρ S' ⟨row, x, rfl, hl, hc, g0, g2, g3⟩
    have k1 : S'[k]? = some (.lst (cl.map encCl)) := by rw [g3.2 k kl (by simpa using hkp)]; exact hk
    rw [List.length_cons] at hl
    have hl2 : row.length < 1000000 := by omega
    refine ⟨_, rfl, ?_⟩
    simp [bName, k1, g0]
    refine TD.WR.step (draw g2 (m := (cl.length : Int)) (by omega) (by omega)) ?_
    rintro _ S2 ⟨j, rfl, j0, j1, p2, f2⟩
    have k2 : S2[k]? = some (.lst (cl.map encCl)) := by rw [f2.2 k (by simpa using hkp)]; exact k1
    have e2 : S2[S.length]? = some (.lst (row.map encCl)) := by rw [f2.2 _ (by simp; omega)]; exact g0
    obtain ⟨c, hcm, ce⟩ := cl_at j0 j1
    simp [k2, ce, e2, hl2]
    exact ⟨row ++ [c], by simp; omega, fun d hd => (List.mem_append.mp hd).elim (hc d) (fun z => by simp at z; subst z; exact hcm), by rw [set_at e2]; simp, p2.frame (set_ne (by omega)), (g3.fr f2 (by simp)).set (.inr (Nat.le_refl _)) _⟩
  · rintro ρ S' ⟨row, x, rfl, hl, hc, g0, g2, g3⟩
    simp
    rw [gc_fresh g3.1]
    exact ⟨rfl, row, by simpa using hl, hc, g0, g2, g3⟩
/-! a row is what it is -/
def pyCl (c : Cl) : PyData := .tuple [.str c.d.name, .int c.a]
theorem pyCls (S : Sto) : ∀ row : List Cl, pyDs S (row.map encCl) = some (row.map pyCl)
  | [] => by simp [pyDs]
  | c :: row => by
    rw [List.map_cons, pyDs, pyCls S row]
    simp [encCl, pyD, pyDs, pyCl]
theorem eqv_cl : ∀ row : List Cl, PyData.eqvAll (row.map pyCl) (row.map pyCl) = true
  | [] => rfl
  | c :: row => by
    rw [List.map_cons, PyData.eqvAll, eqv_cl row]
    simp [pyCl, PyData.eqv, PyData.eqvAll]
theorem strOk_nm {z : Str} (h : NmOk z) : PyData.strOk z = true := by
  unfold PyData.strOk
  rw [Array.all_eq_true']
  intro c hc
  have := h.2.2 c (by simpa using hc)
  have e : (Str.ofString "abcdefghijklmnopqrstuvwxyz").cps.toList = (List.range 26).map (97 + ·) := by decide
  rw [e] at this
  obtain ⟨k, hk, rfl⟩ := List.mem_map.mp this
  simp at hk ⊢
  omega
theorem shaped_cl : ∀ row : List Cl, (∀ c ∈ row, NmOk c.d.name) → PyData.canLayAll0 (row.map pyCl) = true ∧ PyData.depthAll (row.map pyCl) ≤ 1
  | [], _ => ⟨rfl, by simp [PyData.depthAll]⟩
  | c :: row, h => by
    obtain ⟨i1, i2⟩ := shaped_cl row fun d hd => h d (by simp [hd])
    have hs := strOk_nm (h c (by simp))
    rw [List.map_cons]
    refine ⟨?_, ?_⟩
    · simp only [PyData.canLayAll0, i1, Bool.and_true, pyCl, PyData.canLay0, hs]
    · have e : PyData.depth (pyCl c) = 1 := by simp [pyCl, PyData.depth, PyData.depthAll]
      simp only [PyData.depthAll, e]
      omega
theorem ne_same {p q : Nat} {row : List Cl} (hN : ∀ c ∈ row, NmOk c.d.name) (hp : S[p]? = some (.lst (row.map encCl))) (hq : S[q]? = some (.lst (row.map encCl))) : gNe S (.ref p) (.ref q) = .ok (.bl false) S := by
  obtain ⟨s1, s2⟩ := shaped_cl row hN
  have e1 : pyT S (.ref p) = some (.list (row.map pyCl)) := by simp [pyT, hp, pyCls]
  have e2 : pyT S (.ref q) = some (.list (row.map pyCl)) := by simp [pyT, hq, pyCls]
  have sh : SeqAt.shaped (.list (row.map pyCl)) = true := by
    simp only [SeqAt.shaped, PyData.canLay0, s1, Bool.true_and, PyData.depth]
    exact decide_eq_true (by omega)
  have ev : PyData.eqv (.list (row.map pyCl)) (.list (row.map pyCl)) = true := by
    rw [PyData.eqv]
    exact eqv_cl row
  have : eqD S (.ref p) (.ref q) = some true := by
    show eqPy S (.ref p) (.ref q) = some true
    simp only [eqPy, e1, e2, sh, ev, and_self, if_true]
  simp only [gNe, this]
  rfl
end
end K13

set_option Elab.async false
set_option linter.all false
set_option maxRecDepth 100000
set_option pp.maxSteps 3000
set_option maxHeartbeats 8000000
namespace K13
open PySem PySem.Spec PyProof.Rows L2 TD
theorem rgD_mem : ∀ (n : Nat) (lo : Int) (d : D), d ∈ rgD lo n → ∃ v : Int, d = .int v ∧ lo ≤ v ∧ v < lo + n
  | 0, lo, d, h => by simp [rgD] at h
  | n + 1, lo, d, h => by
    rw [rgD] at h
    rcases List.mem_cons.mp h with z | z
    · exact ⟨lo, z, Int.le_refl _, by omega⟩
    · obtain ⟨v, e, h1, h2⟩ := rgD_mem n (lo + 1) d z
      exact ⟨v, e, by omega, by omega⟩
theorem rowc_spec {S : Sto} {ns : List Int} {k : Nat} {cl : List Cl} {ρ : TD.Env} {a1 a2 a3 a4 a5 : Option D} (hk : S[k]? = some (.lst (cl.map encCl))) (h1 : 1 ≤ cl.length) (h2 : cl.length ≤ 100) (hρ : ρ = [some (.fls (ns.map D.int)), a1, a2, a3, a4, a5, some (.ref k), none, none, none, none, none, none, none, none, none, none]) :
    WR (dLc
      (iRg2
        (dCons (dC (D.int 1))
          (dCons (dCB gMin2 (dCons (dCB (one gLen) (dCons (dV 0) dNil)) (dCons (dC (D.int 6)) dNil))) dNil)))
      (bName 15) tTrue
      (dOp gSub2 (dV 6)
        (dCB (fun S ds => F_law_draw ds S)
          (dCons (dCB (fun S ds => F_law_pool ds S) (dCons (dV 0) (dCons (dV 15) dNil)))
            (dCons (dCB (one gLen) (dCons (dV 6) dNil)) dNil))))
      [15] ρ S) (fun d S' => d = .ref S.length ∧ ∃ row : List Cl, row.length ≤ 5 ∧ (∀ c ∈ row, c ∈ cl) ∧ S'[S.length]? = some (.lst (row.map encCl)) ∧ Ext S S') NX := by
  subst hρ
  have kl := get_lt hk
  have J : (if (6 : Int) < (ns.length : Int) then (6 : Int) else (ns.length : Int)) ≤ 6 ∧ 0 ≤ (if (6 : Int) < (ns.length : Int) then (6 : Int) else (ns.length : Int)) := by split <;> omega
  simp
  refine ⟨1, _, ⟨rfl, rfl⟩, ?_⟩
  generalize (if (6 : Int) < (ns.length : Int) then (6 : Int) else (ns.length : Int)) = m at J ⊢
  refine ⟨by decide, ⟨by omega, by omega⟩, ?_⟩
  refine wr_lcL (fun ds acc S' => ∃ row : List Cl, acc = row.map encCl ∧ row.length + ds.length ≤ 5 ∧ (∀ d ∈ ds, ∃ v : Int, d = .int v ∧ 0 ≤ v ∧ v ≤ 100) ∧ (∀ c ∈ row, c ∈ cl) ∧ S'[S.length]? = some (.lst acc) ∧ Ext S S') ?_ ?_ ?_ _ _ _ ⟨[], rfl, by simp [rgD_len]; omega, fun d hd => ?_, by simp, app_at S _ 0, Ext.app _⟩
  · rintro ds acc S' ⟨row, rfl, g1, g2, g3, g4, g5⟩
    exact ⟨trivial, g4⟩
  · rintro d ds acc S' ⟨row, rfl, g1, g2, g3, g4, g5⟩
    obtain ⟨v, rfl, v0, v1⟩ := g2 d (by simp)
    rw [List.length_cons] at g1
    have k1 := g5.at hk
    refine ⟨_, rfl, ?_⟩
    simp [wipeD, bName, tTrue]
    refine TD.WR.step (pool_spec v0 v1) ?_
    rintro _ S8 ⟨rfl, o, ⟨a, b, c, rfl, a0, b0, b1⟩, rfl⟩
    have P8 : Pl (S' ++ [DO.lst [.int a, .int b, .int c]]) S'.length := ⟨a, b, c, app_at S' _ 0, a0, b0, b1⟩
    have x8 : Ext S' (S' ++ [DO.lst [.int a, .int b, .int c]]) := Ext.app _
    have k8 := x8.at k1
    simp only [k8, objP_lst]
    refine TD.WR.step (draw P8 (m := ((cl.map encCl).length : Int)) (by rw [List.length_map]; omega) (by rw [List.length_map]; omega)) ?_
    rintro _ S9 ⟨j, rfl, j0, j1, P9, F9⟩
    rw [List.length_map] at j1
    have x9 := x8.fr F9 (Nat.le_refl _)
    obtain ⟨c, hcm, ce⟩ := cl_at j0 j1
    have k9 := x9.at k1
    have e9 := x9.at g4
    simp [k9, ce, e9]
    have hl2 : row.length < 1000000 := by omega
    exact ⟨hl2, row ++ [c], by simp, by simp; omega, fun d hd => g2 d (by simp [hd]), fun d hd => (List.mem_append.mp hd).elim (g3 d) (fun z => by simp at z; subst z; exact hcm), set_at e9, (g5.trans x9).set (Nat.le_refl _) _⟩
  · rintro acc S' ⟨row, rfl, g1, g2, g3, g4, g5⟩
    exact ⟨rfl, row, by simpa using g1, g3, g4, g5⟩
  · obtain ⟨v, rfl, v0, v1⟩ := rgD_mem _ _ _ hd
    exact ⟨v, rfl, by omega, by omega⟩
end K13

set_option Elab.async false
set_option linter.all false
set_option maxRecDepth 100000
set_option pp.maxSteps 3000
set_option maxHeartbeats 8000000
namespace K13
open PySem PySem.Spec PyProof.Rows L2 TD
open TD in
theorem cutLo {α : Type} {f : α → D} {xs : List α} {k : Nat} (h : k ≤ xs.length) : TD.cutD (xs.map f) none (some (k : Int)) = (xs.take k).map f := by
  unfold TD.cutD
  rw [HT.sIx_none, HT.sIx_nat, List.length_map, Nat.min_eq_left h, List.drop_zero, Nat.sub_zero, List.map_take]
theorem cutHi {α : Type} {f : α → D} {xs : List α} {k : Nat} (h : k ≤ xs.length) : TD.cutD (xs.map f) (some (k : Int)) none = (xs.drop k).map f := by
  unfold TD.cutD
  rw [HT.sIx_none, HT.sIx_nat, List.length_map, Nat.min_eq_left h, List.map_drop]
  rw [List.take_of_length_le (by simp)]
theorem law_true (ns : List Int) (hns : ns.length ≤ 63) : ∃ S, F_law [.fls (ns.map D.int)] [] = .ok (.bl true) S := by
  suffices h : WR (F_law [.fls (ns.map D.int)] []) (fun d _ => d = .bl true) NX by
    obtain ⟨d, S, e, rfl⟩ := h.ex
    exact ⟨S, e⟩
  unfold F_law
  apply wr_dfun rfl
  simp [-w_dLc]
  refine TD.WR.step (pool_spec (by omega) (by omega)) ?_
  rintro _ S1 ⟨rfl, o, ⟨a, b, c, rfl, a0, b0, b1⟩, rfl⟩
  simp only [List.nil_append, List.length_nil]
  have p0 : Pl [.lst [.int a, .int b, .int c]] 0 := ⟨a, b, c, rfl, a0, b0, b1⟩
  refine TD.WR.step (draw p0 (m := 16) (by omega) (by omega)) ?_
  rintro _ S2 ⟨pl, rfl, pl0, pl1, p2, f2⟩
  have l0 : S2.length = 1 := f2.1
  refine TD.WR.step (cells_spec p2) ?_
  rintro _ S3 ⟨rfl, cells, hc, hc3, e3, p3, g3⟩
  have hm1 := hc.1
  refine TD.WR.step (cvault_spec p3 e3 (by omega) hm1 hc.2.1) ?_
  rintro _ S4 ⟨rfl, deeds, h1, h4, hD, hN, e4, p4, g4⟩
  have e4c : S4[S2.length]? = some (.lst (cells.map encC)) := by
    rw [g4.2 _ (by have := g3.1; omega) (by rw [l0]; decide)]
    exact e3
  have iq4 := ins_of e4
  simp only [g_listR, e4c, lstP_lst, app_old, iq4, e4]
  have q5p : (S4 ++ [DO.lst (cells.map encC)] ++ [DO.lst (deeds.map encDd)])[S4.length]? = some (.lst (cells.map encC)) := by
    rw [List.append_assoc]
    exact app_at S4 _ 0
  have q5q : (S4 ++ [DO.lst (cells.map encC)] ++ [DO.lst (deeds.map encDd)])[(S4 ++ [DO.lst (cells.map encC)]).length]? = some (.lst (deeds.map encDd)) := app_at (S4 ++ [DO.lst (cells.map encC)]) _ 0
  refine TD.WR.step (vinit q5p q5q hc h1 (by omega) hD (fun d h => (hN d h).1)) ?_
  rintro _ S6 ⟨rfl, C, cv, rfl, rfl, i1, i2, W, lS, oS⟩
  have x46 : Ext S4 S6 := (Ext.app _).trans ((Ext.app _).trans ⟨lS, oS⟩)
  have e6 := x46.at e4
  have e6c := x46.at e4c
  simp only [true_and]
  refine TD.WR.step (calls_spec e6 h1 (by omega) (fun d h => ⟨(hD.2 d h).1, (hD.2 d h).2.1⟩)) ?_
  rintro _ S7 ⟨rfl, cs, rfl, cs1, cs2, csk⟩
  have x67 : Ext S6 (S6 ++ [.lst cs]) := Ext.app _
  obtain ⟨cl, rfl, clk⟩ := calls_cl csk
  rw [List.length_map] at cs1 cs2
  have V : Vk C.cells C.deeds := ⟨hc, hc3, hD, h1, by omega, fun d h => (hN d h).1⟩
  have x47 := x46.trans x67
  have c7 := x67.at e6c
  have d7 := x67.at e6
  have W7 := VtAt.ext W x67
  have k7 : (S6 ++ [DO.lst (cl.map encCl)])[S6.length]? = some (.lst (cl.map encCl)) := app_at S6 _ 0
  have ip4 := p4.ins
  have ip4' : 0 < S4.length := ip4
  have p7 : Pl (S6 ++ [DO.lst (cl.map encCl)]) 0 := p4.frame (x47.2 0 ip4')
  have lS3 : S3.length = 2 := by have := g3.1; omega
  have n6 : 0 < S6.length := by have := x46.1; omega
  have nv : 0 < C.v := by rw [cv]; simp
  have nt : 0 < C.ict := by omega
  have nb : 0 < C.ibt := by omega
  rw [← cv]
  generalize S6.length = ki at k7 n6 ⊢
  generalize S6 ++ [DO.lst (cl.map encCl)] = S7 at c7 d7 W7 k7 p7 ⊢
  clear x47 x67 e6 e6c W q5p q5q oS lS x46 iq4 i1 i2 cv
  refine TD.WR.step (rowc_spec k7 cs1 cs2 rfl) ?_
  rintro _ S8 ⟨rfl, ra, ra5, rac, e8, x8⟩
  have ip7 : 0 < S7.length := p7.ins
  have p8 : Pl S8 0 := p7.frame (x8.2 0 ip7)
  have k8 := x8.at k7
  have c8 := x8.at c7
  have d8 := x8.at d7
  have W8 := VtAt.ext W7 x8
  refine TD.WR.step (lrow_spec p8 k8 (by omega) cs1 cs2) ?_
  rintro _ S9 ⟨rfl, rb, rb4, rbc, e9, p9, g9⟩
  have old : ∀ {i : Nat} {o : DO}, S8[i]? = some o → i ≠ 0 → S9[i]? = some o := fun {i o} h hi => by
    rw [g9.2 i (get_lt h) (by simpa using hi)]
    exact h
  have a9 := old e8 (by omega)
  have c9 := old c8 (by omega)
  have d9 := old d8 (by omega)
  have W9 : VtAt C S9 := ⟨old W8.v (by omega), old W8.t (by omega), old W8.b (by omega)⟩
  clear old p9 g9 c8 d8 W8 k8 p8 c7 d7 W7 p7 k7
  rw [add_lst a9 e9 (by simp; omega), ← List.map_append]
  have hrow : ∀ c ∈ ra ++ rb, ClOk C.deeds c := fun c hc => (List.mem_append.mp hc).elim (fun z => clk c (rac c z)) fun z => clk c (rbc c z)
  have h9 : (ra ++ rb).length ≤ 9 := by rw [List.length_append]; omega
  have x10 : Ext S9 (S9 ++ [.lst ((ra ++ rb).map encCl)]) := Ext.app _
  have r10 : (S9 ++ [DO.lst ((ra ++ rb).map encCl)])[S9.length]? = some (.lst ((ra ++ rb).map encCl)) := app_at S9 _ 0
  have c10 := x10.at c9
  have d10 := x10.at d9
  have W10 := VtAt.ext W9 x10
  generalize S9.length = ri at r10 ⊢
  generalize S9 ++ [DO.lst ((ra ++ rb).map encCl)] = S10 at r10 c10 d10 W10 ⊢
  generalize hrr : ra ++ rb = row at hrow h9 r10 ⊢
  clear x10 c9 d9 W9 a9 e9
  have q0 : (0 : Int) < (row.length : Int) + 1 := by omega
  have pe0 := Int.emod_nonneg pl (show (row.length : Int) + 1 ≠ 0 by omega)
  have pe1 := Int.emod_lt_of_pos pl q0
  simp only [wr_ok, g_intI, g_lenR, r10, objP_lst, List.length_map, g_add, g_mod]
  refine ⟨q0, ?_⟩
  obtain ⟨k, hk⟩ : ∃ k : Nat, pl % ((row.length : Int) + 1) = k := ⟨(pl % ((row.length : Int) + 1)).toNat, by omega⟩
  rw [hk] at pe1 ⊢
  have kle : k ≤ row.length := by omega
  clear pe0 pe1 hk q0
  have rowhi : ∀ c ∈ row.drop k, ClOk C.deeds c := fun c hc => hrow c (List.mem_of_mem_drop hc)
  have rowlo : ∀ c ∈ row.take k, ClOk C.deeds c := fun c hc => hrow c (List.mem_of_mem_take hc)
  have lnlo : (row.take k).length + (row.drop k).length = row.length := by rw [List.length_take, List.length_drop]; omega
  have hst := begin_st V.hc
  refine TD.WR.step (lw_spec V c10 d10 r10 hrow h9) ?_
  rintro _ S11 ⟨bw, rfl, bw0, x11, w11⟩
  have r11 := x11.at r10
  simp only [g_listR, r11, lstP_lst]
  have x12 : Ext S11 (S11 ++ [.lst (row.map encCl)]) := Ext.app _
  have i12 : (S11 ++ [DO.lst (row.map encCl)])[S11.length]? = some (.lst (row.map encCl)) := app_at S11 _ 0
  have w12 := x12.at w11
  have r12 := x12.at r11
  have c12 := x12.at (x11.at c10)
  have d12 := x12.at (x11.at d10)
  have W12 := VtAt.ext W10 (x11.trans x12)
  generalize S11.length = ii at i12 ⊢
  generalize S11 ++ [DO.lst (row.map encCl)] = S12 at i12 w12 r12 c12 d12 W12 ⊢
  clear x12 x11 w11 r11
  refine TD.WR.step (share_spec V W12 i12 hrow h9) ?_
  rintro _ S13 ⟨M, t, bs, sh, rfl, bs0, x13, s13⟩
  have fa := (sh.facts V hrow h9 hst).2.2.2
  have nm : ∀ c ∈ row, NmOk c.d.name := fun c hc => V.hN _ (hrow c hc).1
  rw [ne_same nm (x13.at r12) (x13.at i12)]
  have wl := WL_ok V hrow hst
  have bwl := get_lt w12
  simp only [wr_ok, blP_bl, Bool.false_eq_true, if_false, g_ixT, atI_0, atI_1, optP_some]
  simp only [List.getElem?_cons_zero, List.getElem?_cons_succ, optP_some, intP_int]
  rw [right_spec V sh (fun p hp => (fa p hp).2) h9 wl.1 s13 (x13.at w12) (by omega)]
  simp only [wr_ok, blP_bl, if_true]
  refine ⟨bs, rfl, ?_⟩
  rw [s13]
  have kt : keyT (D.tup [D.int 9]) = some (kI [9]) := keyT_kI [9]
  simp only [dtP_dtt, kt, optP_some]
  have f7 := sh.ok.few V
  refine ⟨by simp [redM]; omega, ?_⟩
  generalize putD (redM M t) (kI [9]) (D.tup [D.int 1, D.int 2]) = jk
  have x14 : Ext S12 (S13.set bs (.dtt jk)) := x13.set bs0 _
  generalize S13.set bs (.dtt jk) = S14 at x14 ⊢
  clear s13 x13 kt
  have r14 := x14.at r12
  simp only [g_slR, r14, lstP_lst, cutLo kle]
  have x15 : Ext S12 (S14 ++ [.lst ((row.take k).map encCl)]) := x14.trans (Ext.app _)
  have u15 : (S14 ++ [DO.lst ((row.take k).map encCl)])[S14.length]? = some (.lst ((row.take k).map encCl)) := app_at S14 _ 0
  generalize S14.length = u at u15 ⊢
  generalize S14 ++ [DO.lst ((row.take k).map encCl)] = S15 at u15 x15 ⊢
  clear x14 r14
  refine TD.WR.step (lw_spec V (x15.at c12) (x15.at d12) u15 rowlo (by omega)) ?_
  rintro _ S16 ⟨bh, rfl, bh0, x16, h16⟩
  have xt16 := x15.trans x16
  have r16 := xt16.at r12
  simp only [g_slR, r16, lstP_lst, cutLo kle, intP_int]
  have x17 : Ext S16 (S16 ++ [.lst ((row.take k).map encCl)]) := Ext.app _
  have u17 : (S16 ++ [DO.lst ((row.take k).map encCl)])[S16.length]? = some (.lst ((row.take k).map encCl)) := app_at S16 _ 0
  generalize hl16 : S16.length = u2 at u17 ⊢
  generalize S16 ++ [DO.lst ((row.take k).map encCl)] = S17 at u17 x17 ⊢
  refine TD.WR.step (share_spec V (VtAt.ext W12 (xt16.trans x17)) u17 rowlo (by omega)) ?_
  rintro _ S18 ⟨M2, t2, b2, sh2, rfl, b20, x18, s18⟩
  have xt18 := xt16.trans (x17.trans x18)
  have fa2 := (sh2.facts V rowlo (by omega) hst).2.2.2
  have wl2 := WL_ok V rowlo hst
  have bhl := get_lt h16
  have x17l := x17.1
  simp only [g_ixT, atI_0, atI_1, List.getElem?_cons_zero, List.getElem?_cons_succ, optP_some]
  rw [right_spec V sh2 (fun p hp => (fa2 p hp).2) (by omega) wl2.1 s18 (x18.at (x17.at h16)) (by omega)]
  clear s18 h16 u17 u15 x15 x16 x17 x18 x17l
  have r18 := xt18.at r12
  simp only [wr_ok, blP_bl, if_true, g_slR, r18, lstP_lst, cutLo kle, intP_int]
  have x19 : Ext S18 (S18 ++ [.lst ((row.take k).map encCl)]) := Ext.app _
  have u19 : (S18 ++ [DO.lst ((row.take k).map encCl)])[S18.length]? = some (.lst ((row.take k).map encCl)) := app_at S18 _ 0
  generalize S18.length = u3 at u19 ⊢
  generalize S18 ++ [DO.lst ((row.take k).map encCl)] = S19 at u19 x19 ⊢
  have r19 := x19.at r18
  simp only [r19, lstP_lst, cutHi kle]
  have x20 : Ext S19 (S19 ++ [.lst ((row.drop k).map encCl)]) := Ext.app _
  have u20 : (S19 ++ [DO.lst ((row.drop k).map encCl)])[S19.length]? = some (.lst ((row.drop k).map encCl)) := app_at S19 _ 0
  have v20 := x20.at u19
  generalize S19.length = u4 at u20 ⊢
  generalize S19 ++ [DO.lst ((row.drop k).map encCl)] = S20 at u20 v20 x20 ⊢
  have xt20 := xt18.trans (x19.trans x20)
  have mx := mixed_spec V (VtAt.ext W12 xt20) v20 u20 rowlo rowhi (by omega)
  rw [lnlo, List.take_append_drop] at mx
  refine TD.WR.step mx ?_
  rintro _ S21 ⟨b, MX, rfl, bx0, x21, m21, sx, hx⟩
  have xt21 := xt20.trans x21
  have w21 := xt21.at w12
  have wgx : ∀ s, wget MX s = 16 ^ row.length * wget (WL C.cells (C.cells.map (·.2)) row) s := fun s => hx (ind s)
  have kk : ∀ s, s ∈ ks MX ↔ s ∈ ks (WL C.cells (C.cells.map (·.2)) row) := fun s => by
    rw [wget_pos sx.ok, wget_pos wl.1.ok, wgx]
    exact ⟨fun z => Nat.pos_of_mul_pos_left z, fun z => Nat.mul_pos (Nat.pow_pos (by decide)) z⟩
  have hlen : MX.length = (WL C.cells (C.cells.map (·.2)) row).length := by
    have a := nd_len sx.ok.nd fun s hs => (kk s).mp hs
    have b := nd_len wl.1.ok.nd fun s hs => (kk s).mpr hs
    simp only [ks, List.length_map] at a b
    omega
  have hlen2 : (dm MX).length = (dm (WL C.cells (C.cells.map (·.2)) row)).length := by simp [dm, hlen]
  simp only [g_tlen, m21, w21, dtP_dtt, hlen2, g_neI]
  simp only [decide_true, Bool.not_true, blP_bl, Bool.false_eq_true, if_false]
  have hb21 := get_lt m21
  have bwb : bw ≠ b := by have := xt20.1; omega
  have hst0 : C.cells.map (·.2) = C.cells.map (·.2) := rfl
  refine ws_lk (kvs := dm MX) rfl m21 ?_
  have m22 : (S21.set b (.fdt (dm MX)))[b]? = some (.fdt (dm MX)) := set_at m21
  have w22 : (S21.set b (.fdt (dm MX)))[bw]? = some (.dtt (dm (WL C.cells (C.cells.map (·.2)) row))) := by rw [set_ne (fun e => bwb e.symm)]; exact w21
  have back : (S21.set b (.fdt (dm MX))).set b (.dtt (dm MX)) = S21 := by
    rw [List.set_set]
    apply List.ext_getElem?
    intro q
    by_cases e : b = q
    · subst e
      rw [m21]
      exact set_at m21
    · exact set_ne e
  have hkt : keyTs (dm MX) = MX.map fun p => D.tup (p.1.map D.int) := keyTs_dm (fun p => .int p.2) MX
  generalize S21.set b (.fdt (dm MX)) = S22 at m22 w22 back ⊢
  simp only [w_sFor, w_iKT, w_dV, List.getElem?_cons_succ, List.getElem?_cons_zero, varP_some]
  refine ⟨b, rfl, ?_⟩
  rw [m22]
  simp only [fdtP_fdt, hkt]
  refine ws_forL (fun ds ρ S' => ∃ (r : WM) (x : Option D), ds = r.map (fun p => D.tup (p.1.map D.int)) ∧ (∀ p ∈ r, p ∈ MX) ∧ ρ = [some (.fls (ns.map D.int)), some (.ref 0), some (.int (k : Int)), some (.ref S2.length), some (.ref S3.length), some (.ref C.v), some (.ref ki), some (.ref ri), some (.tup [.ref bw, .int ((16 ^ row.length : Nat) : Int)]), some (.ref ii), some (.ref bs), some (.tup [.ref bh, .int ((16 ^ (row.take k).length : Nat) : Int)]), some (.ref b), x, none, none, none] ∧ S' = S22) ?_ ?_ ?_ _ _ _ ⟨MX, none, rfl, fun _ h => h, rfl, rfl⟩
  · exact fun _ _ _ _ => trivial
  · rintro d ds ρ S' ⟨r, x, he, hr, rfl, rfl⟩
    cases r with
    | nil => cases he
    | cons p r =>
      simp only [List.map_cons, List.cons.injEq] at he
      obtain ⟨rfl, rfl⟩ := he
      have pm := hr p (by simp)
      have pk : p.1 ∈ ks MX := List.mem_map.mpr ⟨p, pm, rfl⟩
      have gx : valD (dm MX) (kI p.1) = some (.int ((wget (WL C.cells (C.cells.map (·.2)) row) p.1 : Int) * ((16 ^ row.length : Nat) : Int))) := by
        rw [valD_dm sx.ok, if_pos pk, wgx, Nat.mul_comm, Int.natCast_mul]
      have gw : valD (dm (WL C.cells (C.cells.map (·.2)) row)) (kI p.1) = some (.int (wget (WL C.cells (C.cells.map (·.2)) row) p.1 : Nat)) := by
        rw [valD_dm wl.1.ok, if_pos ((kk _).mp pk)]
      generalize wget (WL C.cells (C.cells.map (·.2)) row) p.1 = gg at gx gw
      have l16 : (16 : Nat) ^ row.length ≤ 16 ^ 9 := Nat.pow_le_pow_right (by decide) h9
      have mo : TD.MulOk (gg : Int) ((16 ^ row.length : Nat) : Int) := mulOkR (by omega) (by omega)
      refine ⟨_, rfl, ?_⟩
      simp [bName, m22, w22, keyT_kI, gx, gw, mo, -keyT_ints, -Int.natCast_mul, -Int.natCast_pow]
      exact ⟨r, rfl, fun a b hq => hr (a, b) (by simp [hq])⟩
  · rintro ρ S' ⟨r, x, he, hr, rfl, rfl⟩
    simp only [unK, m22, fdtP_fdt, back]
    have c21 := xt21.at c12
    have cl3 := get_lt c21
    simp only [w_dLc, w_iAny, w_dV, List.getElem?_cons_succ, List.getElem?_cons_zero, varP_some, itOf, TD.listOf, c21, optP_some]
    refine wr_lcMap' S21 (fun c => D.int c.2) rfl rfl (by omega) (fun T => by simpa using (Ext.app _).at c21) (fun c _ T => ⟨_, rfl, by simp [wipeD, encC, bName]⟩) ?_
    have em : C.cells.map (fun c => D.int c.2) = (C.cells.map (·.2)).map D.int := by rw [List.map_map]; rfl
    rw [em]
    have s23 : (S21 ++ [DO.lst ((C.cells.map (·.2)).map D.int)])[S21.length]? = some (.lst ((C.cells.map (·.2)).map D.int)) := app_at S21 _ 0
    have x23 : Ext S12 (S21 ++ [DO.lst ((C.cells.map (·.2)).map D.int)]) := xt21.trans (Ext.app _)
    simp only [g_tupR, s23, lstP_lst]
    generalize S21 ++ [DO.lst ((C.cells.map (·.2)).map D.int)] = S23 at x23 ⊢
    have x24 : Ext S12 (S23 ++ [DO.lst []]) := x23.trans (Ext.app _)
    have u24 : (S23 ++ [DO.lst []])[S23.length]? = some (.lst (([] : List Cl).map encCl)) := app_at S23 _ 0
    generalize S23.length = u5 at u24 ⊢
    generalize S23 ++ [DO.lst []] = S24 at u24 x24 ⊢
    have hr0 : ∀ c ∈ ([] : List Cl), ClOk C.deeds c := by simp
    refine TD.WR.step (share_spec V (VtAt.ext W12 x24) u24 hr0 (by simp)) ?_
    rintro _ S25 ⟨M3, t3, b3, sh3, rfl, b30, x25, s25⟩
    have fa3 := (sh3.facts V hr0 (by simp) hst).2.2.2
    have wl3 := WL_ok V hr0 hst
    simp only [List.set_cons_succ, List.set_cons_zero, List.getElem?_cons_succ, List.getElem?_cons_zero, varP_some, keyT_kI, optP_some]
    have hb25 := get_lt s25
    have rr : F_law_right [.ref b3, .ref S25.length, .int 1] (S25 ++ [DO.dtt [(kI (C.cells.map (·.2)), D.int 1)]]) = .ok (.bl true) (S25 ++ [DO.dtt [(kI (C.cells.map (·.2)), D.int 1)]]) := right_spec V sh3 (fun p hp => (fa3 p hp).2) (by simp) wl3.1 (by rw [List.getElem?_append_left hb25]; exact s25) (app_at S25 _ 0) (by omega)
    rw [rr]
    have x26 : Ext S12 (S25 ++ [DO.dtt [(kI (C.cells.map (·.2)), D.int 1)]]) := x24.trans (x25.trans (Ext.app _))
    generalize S25 ++ [DO.dtt [(kI (C.cells.map (·.2)), D.int 1)]] = S26 at x26 ⊢
    simp only [wr_ok, blP_bl, if_true]
    refine TD.WR.step (share_spec V (VtAt.ext W12 x26) (x26.at i12) hrow h9) ?_
    rintro _ S27 ⟨M4, t4, b4, sh4, rfl, b40, x27, s27⟩
    have fa4 := (sh4.facts V hrow h9 hst).2.2.2
    have x26l := x26.1
    simp only [g_ixT, atI_0, atI_1, List.getElem?_cons_succ, List.getElem?_cons_zero, optP_some]
    rw [right_spec V sh4 (fun p hp => (fa4 p hp).2) h9 wl.1 s27 ((x26.trans x27).at w12) (by omega)]
    simp only [wr_ok]
    have hg := gc_app (S := []) (S1 := []) (T := S27) (d := .bl true) Upd.rfl' rfl
    rw [List.nil_append] at hg
    rw [hg]
    rfl
end K13

set_option Elab.async false
set_option linter.all false
set_option maxRecDepth 100000
set_option maxHeartbeats 8000000
namespace K13
open PySem PySem.Spec PyProof.Rows L2 TD
theorem law_binds {K : PySem.W.Frag} {f : Addr} {fd : FuncData} (F : Fun K "law" "law" s_law f fd) : ∀ (s : Shared) (v : Value), BindsTo s fd ⟨[v], []⟩ [("script", v)] := by
  obtain ⟨oc, od, kV, doc, pm, an, cdv, ct, osl, rfl, _, _⟩ := F.ex
  exact fun s v => .of_eq rfl
theorem fin {w : World} {mg : Str → Option Value} {a : Addr} {h : Heap} {K : PySem.W.Frag} (X : K.In h) (G : h.Ns mainGlobals mg) (hm : mg "law" = some (.ref a)) (c : He.SaysX hfa hfn hts [] hex w h K) :
    ∃ fd : FuncData, (∀ (s : Shared) (u : Value), BindsTo s fd ⟨[u], []⟩ [("script", u)]) ∧ ∀ base : Heap, K.In base → base.Ns mainGlobals mg → FnOk PySem.Challenge.rw_traceless_k13_whole_shares_by_own_fracti.prog w K mg base (L2.CX PySem.Challenge.rw_traceless_k13_whole_shares_by_own_fracti.prog w) 58 a fd ["script"] (spLaw K) := by
  obtain ⟨T⟩ := tx_of (P := PySem.Challenge.rw_traceless_k13_whole_shares_by_own_fracti.prog) X G c
  have e := hm.symm.trans T.g_law
  cases e
  exact ⟨T.f_law, law_binds T.d_law, fun base _ _ => law_end (ok_law T) law_true⟩
end K13
open PySem PySem.W PyProof.Rows
theorem PySem.Challenge.cw_traceless_k13_whole_shares_by_own_fracti_holds : PySem.Challenge.rw_traceless_k13_whole_shares_by_own_fracti.Holds := by
  w_on; o_law
  refine HandSHeadRun.head_any (q := K13.qv) (H := K13.hk) (ob := K13.ob) (M := 30000) (loose := K13.hnames) (d := HandSHeadRun.topDef K13.R.prog 67) (kwd := []) K13.ob_eq
    (by kernel_rfl) (fun s => by kernel_rfl) K13.run (by kernel_rfl) (by kernel_rfl) (by kernel_rfl) (by rfl) (by first | assumption | decide +kernel) (by decide +kernel) ⟨rfl, rfl, rfl, rfl, rfl, by decide +kernel⟩ ?hw ?hc
  case hw => w_witness2
  case hc =>
    refine TD.td_walkX (k := 58) (x := "script") rfl (by kernel_rfl) ⟨rfl, by decide, by decide⟩ fun w mg a h K KX G hmg0 c => ?_
    have hmg : mg ("law" : PySem.Str) = some (.ref a) := by
      have e : (HandSHeadRun.topDef K13.R.prog 67).name = ("law" : PySem.Str) := by kernel_rfl
      rw [← e]
      exact hmg0
    exact K13.fin KX G hmg c
