import PyProof.Rows.All
import Wide.All
import OpenK.AllK
import Wide.FinOn
import HandS.ForMost
import HandS.ForExc
import HandS.Wide
import HandS.TupAny
import HandS.Style
import HandS.Deep
import HandS.IsInst
import HandS.Walk
import HandS.Zip
import HandS.EndBits
import KE.DataFind
import HandS.Strs
import HandS.ExcValue
import KE.KExcIs
import HandS.ExcField
import HandS.ExcIs
import HandS.DictComp
import HandS.NamedTupSort
import KE.GoesMore
import KE.GoesEnum
import KE.GoesZip
import PySem.Challenge.RW_slopeland_k47_courses
set_option Elab.async false
set_option linter.all false
set_option maxRecDepth 100000
set_option maxHeartbeats 4000000
/-! The data layer, 1: data, stores, what stands for what. -/
namespace DL
open PySem PySem.Spec PyProof.Rows L2

/-- plain data; wt: a pair that an iterator made; ref: a place of the store; exc: an exception object as a value -/
inductive D where
  | non
  | bl (b : Bool)
  | int (i : Int)
  | str (x : Str)
  | tup (l : List D)
  | wt (l : List D)
  | lst (l : List D)
  | obj (c : Str) (ns : List Str) (ds : List D)
  | exc (c : Str) (ns : List Str) (ds : List D)
  | ref (n : Nat)
/-- what a place of the store holds -/
inductive Ob where
  | lst (l : List D)
  | ins (c : Str) (ns : List Str) (ds : List D)
  | dct (ks : List Key) (ds : List D)
  | dead
abbrev Store := List Ob
inductive R (α : Type) where
  | ok (a : α) (S : Store)
  | exn (e : D) (S : Store)
  | stuck
abbrev M (α : Type) := Store → R α
def R.bind {α β : Type} : R α → (α → M β) → R β
  | .ok a S, f => f a S
  | .exn e S, _ => .exn e S
  | .stuck, _ => .stuck
@[simp] theorem R.bind_ok {α β : Type} (a : α) (S : Store) (f : α → M β) : (R.ok a S).bind f = f a S := rfl
@[simp] theorem R.bind_exn {α β : Type} (e : D) (S : Store) (f : α → M β) : (R.exn e S : R α).bind f = .exn e S := rfl
@[simp] theorem R.bind_stuck {α β : Type} (f : α → M β) : (R.stuck : R α).bind f = .stuck := rfl
abbrev Env := List (Option D)

/-- the module: its written part, its names -/
structure G where
  K : PySem.W.Frag
  mg : Str → Option Value
/-- an exception object at a, of the class at C, with the dict dd -/
def XO (C : Addr) (dd : Option Addr) (a : Addr) : HO := .ext fun h => ∃ oe vs, h.get? a = some oe ∧ Zc (.ref C) dd oe ∧ oe.data = .fields vs
/-- the dict of an exception: its fields -/
def XD (F : Hp) (dd : Option Addr) (ns : List Str) (xs : List V) : Prop := (dd = none ∧ ns = [] ∧ xs = []) ∨ ∃ dx, dd = some dx ∧ F dx = some (.xd (ns.zip xs))

/-- the tuple at a has no attributes of its own -/
def DN (g : G) (F : Hp) (a : Addr) : Prop := ∃ o : Obj, o.dict = none ∧ ((∃ u, F a = some (.frz o u)) ∨ g.K.lookup a = some o)
section
variable (g : G) (F : Hp) (μ : List Addr)
mutual
def Rep : D → V → Prop
  | .non, v => v = .non
  | .bl b, v => v = .bl b
  | .int i, v => v = .int i
  | .str x, v => v = .str x
  | .tup l, v => ∃ a xs, v = .ref a ∧ (SqT g.K F a xs ∧ DN g F a) ∧ Reps l xs
  | .wt l, v => ∃ a xs, v = .ref a ∧ SqT g.K F a xs ∧ Reps l xs
  | .lst l, v => ∃ a xs, v = .ref a ∧ SqL g.K F a xs ∧ Reps l xs
  | .obj c ns ds, v => ∃ a C dx xs, v = .ref a ∧ g.mg c = some (.ref C) ∧ F a = some (.ins C dx (ns.zip xs)) ∧ Reps ds xs ∧ ns.length = ds.length
  | .exc c ns ds, v => ∃ a C dd xs, v = .ref a ∧ g.mg c = some (.ref C) ∧ F a = some (XO C dd a) ∧ XD F dd ns xs ∧ Reps ds xs ∧ ns.length = ds.length
  | .ref n, v => ∃ p, μ[n]? = some p ∧ v = .ref p
def Reps : List D → List V → Prop
  | [], xs => xs = []
  | d :: ds, xs => ∃ v vs, xs = v :: vs ∧ Rep d v ∧ Reps ds vs
end
def ObRep : Ob → HO → Prop
  | .lst l, o => ∃ xs, o = .lst xs ∧ Reps g F μ l xs
  | .ins c ns ds, o => ∃ C dx xs, g.mg c = some (.ref C) ∧ o = .ins C dx (ns.zip xs) ∧ Reps g F μ ds xs ∧ ns.length = ds.length
  | .dct ks ds, o => ∃ xs, o = .dK (ks.zip xs) ∧ Reps g F μ ds xs ∧ ks.length = ds.length
  | .dead, _ => True
end
/-- an exception in flight -/
def XRep (g : G) (F : Hp) (μ : List Addr) (e : D) (cls : Value) (dd : Option Addr) : Prop :=
  ∃ c ns ds C xs, e = .exc c ns ds ∧ g.mg c = some (.ref C) ∧ cls = .ref C ∧ XD F dd ns xs ∧ Reps g F μ ds xs ∧ ns.length = ds.length

/-- what grows: the frozen part, the places -/
structure Gr (F : Hp) (μ : List Addr) (F' : Hp) (μ' : List Addr) : Prop where
  f : ∀ a o, F a = some o → F' a = some o
  m : ∀ (n : Nat) (p : Addr), μ[n]? = some p → μ'[n]? = some p
theorem Gr.refl (F : Hp) (μ : List Addr) : Gr F μ F μ := ⟨fun _ _ h => h, fun _ _ h => h⟩
theorem Gr.trans {F F1 F2 : Hp} {μ μ1 μ2 : List Addr} (a : Gr F μ F1 μ1) (b : Gr F1 μ1 F2 μ2) : Gr F μ F2 μ2 := ⟨fun x o h => b.f x o (a.f x o h), fun n p h => b.m n p (a.m n p h)⟩

section
variable {g : G} {F F' : Hp} {μ μ' : List Addr}
theorem rd_mono (gr : Gr F μ F' μ') {a : Addr} {u : HO} (h : Rd F a u) : Rd F' a u := by
  rcases h with h | ⟨o, h⟩
  · exact .inl (gr.f _ _ h)
  · exact .inr ⟨o, gr.f _ _ h⟩
theorem sqL_mono (gr : Gr F μ F' μ') {a : Addr} {xs : List V} (h : SqL g.K F a xs) : SqL g.K F' a xs := h.imp (rd_mono gr) id
theorem sqT_mono (gr : Gr F μ F' μ') {a : Addr} {xs : List V} (h : SqT g.K F a xs) : SqT g.K F' a xs := h.imp (rd_mono gr) id
theorem dn_mono (gr : Gr F μ F' μ') {a : Addr} (h : DN g F a) : DN g F' a := by
  obtain ⟨o, h1, h2⟩ := h
  rcases h2 with ⟨u, h2⟩ | h2
  · exact ⟨o, h1, .inl ⟨u, gr.f _ _ h2⟩⟩
  · exact ⟨o, h1, .inr h2⟩
theorem xd_mono (gr : Gr F μ F' μ') {dd : Option Addr} {ns : List Str} {xs : List V} (h : XD F dd ns xs) : XD F' dd ns xs := by
  rcases h with h | ⟨dx, e, h⟩
  · exact .inl h
  · exact .inr ⟨dx, e, gr.f _ _ h⟩
mutual
theorem Rep.mono (gr : Gr F μ F' μ') : ∀ (d : D) {v : V}, Rep g F μ d v → Rep g F' μ' d v
  | .non, _, h => h
  | .bl _, _, h => h
  | .int _, _, h => h
  | .str _, _, h => h
  | .tup l, _, h => by
    simp only [Rep] at h ⊢
    obtain ⟨a, xs, e, h1, h2⟩ := h
    exact ⟨a, xs, e, ⟨sqT_mono gr h1.1, dn_mono gr h1.2⟩, Reps.mono gr l h2⟩
  | .wt l, _, h => by
    simp only [Rep] at h ⊢
    obtain ⟨a, xs, e, h1, h2⟩ := h
    exact ⟨a, xs, e, sqT_mono gr h1, Reps.mono gr l h2⟩
  | .lst l, _, h => by
    simp only [Rep] at h ⊢
    obtain ⟨a, xs, e, h1, h2⟩ := h
    exact ⟨a, xs, e, sqL_mono gr h1, Reps.mono gr l h2⟩
  | .obj c ns ds, _, h => by
    simp only [Rep] at h ⊢
    obtain ⟨a, C, dx, xs, e, h0, h1, h2, h3⟩ := h
    exact ⟨a, C, dx, xs, e, h0, gr.f _ _ h1, Reps.mono gr ds h2, h3⟩
  | .exc c ns ds, _, h => by
    simp only [Rep] at h ⊢
    obtain ⟨a, C, dd, xs, e, h0, h1, h2, h3, h4⟩ := h
    exact ⟨a, C, dd, xs, e, h0, gr.f _ _ h1, xd_mono gr h2, Reps.mono gr ds h3, h4⟩
  | .ref n, _, h => by
    simp only [Rep] at h ⊢
    obtain ⟨p, h1, h2⟩ := h
    exact ⟨p, gr.m _ _ h1, h2⟩
theorem Reps.mono (gr : Gr F μ F' μ') : ∀ (ds : List D) {vs : List V}, Reps g F μ ds vs → Reps g F' μ' ds vs
  | [], _, h => by simpa only [Reps] using h
  | d :: ds, _, h => by
    simp only [Reps] at h ⊢
    obtain ⟨v, vs, e, h1, h2⟩ := h
    exact ⟨v, vs, e, Rep.mono gr d h1, Reps.mono gr ds h2⟩
end
theorem ObRep.mono (gr : Gr F μ F' μ') : ∀ {o : Ob} {u : HO}, ObRep g F μ o u → ObRep g F' μ' o u
  | .lst l, _, ⟨xs, e, h⟩ => ⟨xs, e, h.mono gr⟩
  | .ins c ns ds, _, ⟨C, dx, xs, e0, e, h, hl⟩ => ⟨C, dx, xs, e0, e, h.mono gr, hl⟩
  | .dct ks ds, _, ⟨xs, e, h, hl⟩ => ⟨xs, e, h.mono gr, hl⟩
  | .dead, _, _ => trivial
theorem XRep.mono (gr : Gr F μ F' μ') {e : D} {cls : Value} {dd : Option Addr} (h : XRep g F μ e cls dd) : XRep g F' μ' e cls dd := by
  obtain ⟨c, ns, ds, C, xs, h1, h2, h3, h4, h5, h6⟩ := h
  exact ⟨c, ns, ds, C, xs, h1, h2, h3, xd_mono gr h4, h5.mono gr, h6⟩
theorem Reps.length : ∀ {ds : List D} {vs : List V}, Reps g F μ ds vs → ds.length = vs.length
  | [], _, h => by simp only [Reps] at h; subst h; rfl
  | d :: ds, _, h => by
    simp only [Reps] at h
    obtain ⟨v, vs, rfl, _, h⟩ := h
    simp [Reps.length h]
theorem reps_nil : Reps g F μ [] [] := by simp only [Reps]
theorem reps_cons {d : D} {ds : List D} {v : V} {vs : List V} (h : Rep g F μ d v) (t : Reps g F μ ds vs) : Reps g F μ (d :: ds) (v :: vs) := by
  simp only [Reps]; exact ⟨v, vs, rfl, h, t⟩
theorem Reps.get : ∀ {ds : List D} {vs : List V} {i : Nat} {d : D}, Reps g F μ ds vs → ds[i]? = some d → ∃ v, vs[i]? = some v ∧ Rep g F μ d v
  | [], _, _, _, _, e => by simp at e
  | x :: ds, _, i, d, h, e => by
    simp only [Reps] at h
    obtain ⟨v, vs, rfl, h1, h2⟩ := h
    cases i with
    | zero => simp at e; subst e; exact ⟨v, rfl, h1⟩
    | succ i => exact Reps.get (i := i) h2 (by simpa using e)
theorem Reps.getV : ∀ {ds : List D} {vs : List V} {i : Nat} {v : V}, Reps g F μ ds vs → vs[i]? = some v → ∃ d, ds[i]? = some d ∧ Rep g F μ d v
  | [], _, _, _, h, e => by simp only [Reps] at h; subst h; simp at e
  | x :: ds, _, i, d, h, e => by
    simp only [Reps] at h
    obtain ⟨v, vs, rfl, h1, h2⟩ := h
    cases i with
    | zero => simp at e; subst e; exact ⟨x, rfl, h1⟩
    | succ i => exact Reps.getV (i := i) h2 (by simpa using e)
theorem Reps.append : ∀ {ds es : List D} {vs ws : List V}, Reps g F μ ds vs → Reps g F μ es ws → Reps g F μ (ds ++ es) (vs ++ ws)
  | [], _, _, _, h, k => by simp only [Reps] at h; subst h; exact k
  | d :: ds, _, _, _, h, k => by
    simp only [Reps] at h
    obtain ⟨v, vs, rfl, h1, h2⟩ := h
    exact reps_cons h1 (Reps.append h2 k)
theorem Reps.take : ∀ {ds : List D} {vs : List V} (n : Nat), Reps g F μ ds vs → Reps g F μ (ds.take n) (vs.take n)
  | ds, vs, 0, _ => by simpa using reps_nil
  | [], _, n + 1, h => by simp only [Reps] at h; subst h; exact reps_nil
  | d :: ds, _, n + 1, h => by
    simp only [Reps] at h
    obtain ⟨v, vs, rfl, h1, h2⟩ := h
    exact reps_cons h1 (Reps.take n h2)
theorem Reps.drop : ∀ {ds : List D} {vs : List V} (n : Nat), Reps g F μ ds vs → Reps g F μ (ds.drop n) (vs.drop n)
  | ds, vs, 0, h => by simpa using h
  | [], _, n + 1, h => by simp only [Reps] at h; subst h; exact reps_nil
  | d :: ds, _, n + 1, h => by
    simp only [Reps] at h
    obtain ⟨v, vs, rfl, h1, h2⟩ := h
    exact Reps.drop n h2
theorem Reps.set : ∀ {ds : List D} {vs : List V} (i : Nat) {d : D} {v : V}, Reps g F μ ds vs → Rep g F μ d v → Reps g F μ (ds.set i d) (vs.set i v)
  | [], _, _, _, _, h, _ => by simp only [Reps] at h; subst h; simpa using reps_nil
  | x :: ds, _, i, d, v, h, k => by
    simp only [Reps] at h
    obtain ⟨w, vs, rfl, h1, h2⟩ := h
    cases i with
    | zero => exact reps_cons k h2
    | succ i => exact reps_cons h1 (Reps.set i h2 k)
theorem Reps.reverse : ∀ {ds : List D} {vs : List V}, Reps g F μ ds vs → Reps g F μ ds.reverse vs.reverse
  | [], _, h => by simp only [Reps] at h; subst h; exact reps_nil
  | d :: ds, _, h => by
    simp only [Reps] at h
    obtain ⟨v, vs, rfl, h1, h2⟩ := h
    rw [List.reverse_cons, List.reverse_cons]
    exact (Reps.reverse h2).append (reps_cons h1 reps_nil)
theorem reps_ints : ∀ (ns : List Int), Reps g F μ (ns.map D.int) (ns.map V.int)
  | [] => reps_nil
  | n :: ns => reps_cons (by simp only [Rep]) (reps_ints ns)
end

/-- the abstract heap H holds what the store says, beside the frozen part F; P: what others hold for themselves -/
structure Rel (g : G) (P : Hp) (F : Hp) (μ : List Addr) (S : Store) (H : Hp) : Prop where
  sub : ∀ a o, F a = some o → H a = some o
  len : μ.length = S.length
  live : ∀ (n : Nat) (o : Ob) (p : Addr), S[n]? = some o → μ[n]? = some p → (o = .dead ∧ H p ≠ none) ∨ ∃ u, F p = none ∧ H p = some u ∧ ObRep g F μ o u
  inj : ∀ (m n : Nat) (p : Addr), μ[m]? = some p → μ[n]? = some p → m = n
  priv : ∀ (a : Addr) (o : HO), P a = some o → H a = some o ∧ F a = none ∧ ∀ n : Nat, μ[n]? ≠ some a

/-- slots: what the data say of them -/
structure EnvR (g : G) (F : Hp) (μ : List Addr) (ρ : Env) (σ : L2.St) : Prop where
  len : ρ.length = σ.length
  at_ : ∀ (i : Nat) (d : D), ρ[i]? = some (some d) → ∃ v, σ[i]? = some (some v) ∧ Rep g F μ d v
section
variable {g : G} {P F F' : Hp} {μ μ' : List Addr} {ρ : Env} {σ : L2.St} {S : Store} {H : Hp}
theorem EnvR.mono (gr : Gr F μ F' μ') (h : EnvR g F μ ρ σ) : EnvR g F' μ' ρ σ := ⟨h.len, fun i d e => by
  obtain ⟨v, h1, h2⟩ := h.at_ i d e
  exact ⟨v, h1, h2.mono gr⟩⟩
theorem EnvR.set {i : Nat} {d : D} {v : V} (h : EnvR g F μ ρ σ) (r : Rep g F μ d v) : EnvR g F μ (ρ.set i (some d)) (σ.set i (some v)) := ⟨by simp [h.len], fun j e hj => by
  by_cases hij : i = j
  · subst hij
    have hlt : i < ρ.length := by
      rcases Nat.lt_or_ge i ρ.length with q | q
      · exact q
      · rw [List.getElem?_eq_none (by simpa using q)] at hj; cases hj
    rw [List.getElem?_set_self hlt] at hj
    cases hj
    exact ⟨v, List.getElem?_set_self (by rw [← h.len]; exact hlt), r⟩
  · rw [List.getElem?_set_ne hij] at hj
    obtain ⟨w, h1, h2⟩ := h.at_ j e hj
    exact ⟨w, by rw [List.getElem?_set_ne hij]; exact h1, h2⟩⟩
/-- a new frozen thing -/
theorem Rel.froz {p : Addr} {o : HO} (r : Rel g P F μ S H) (hp : H p = none) : Rel g P (upd F p o) μ S (upd H p o) ∧ Gr F μ (upd F p o) μ := by
  have hF : F p = none := by
    cases e : F p with
    | none => rfl
    | some u => rw [r.sub p u e] at hp; cases hp
  have gr : Gr F μ (upd F p o) μ := ⟨fun a u e => by rw [upd_ne (ne_of_none e hF)]; exact e, fun _ _ h => h⟩
  refine ⟨⟨fun a u e => ?_, r.len, fun n ob q h1 h2 => ?_, r.inj, fun a u e => ?_⟩, gr⟩
  · by_cases ha : a = p
    · subst ha; rw [upd_same] at e ⊢; exact e
    · rw [upd_ne ha] at e ⊢; exact r.sub a u e
  · rcases r.live n ob q h1 h2 with ⟨e, h⟩ | ⟨u, f1, h1', k⟩
    · exact .inl ⟨e, by rw [upd_ne (fun z => h (by rw [z]; exact hp))]; exact h⟩
    · have ne : q ≠ p := fun z => by rw [z, hp] at h1'; cases h1'
      exact .inr ⟨u, by rw [upd_ne ne]; exact f1, by rw [upd_ne ne]; exact h1', k.mono gr⟩
  · obtain ⟨e1, e2, e3⟩ := r.priv a u e
    have ne := ne_of_none e1 hp
    exact ⟨by rw [upd_ne ne]; exact e1, by rw [upd_ne ne]; exact e2, e3⟩
/-- a new thing that H alone knows -/
theorem Rel.more {p : Addr} {o : HO} (r : Rel g P F μ S H) (hp : H p = none) : Rel g P F μ S (upd H p o) := by
  refine ⟨fun a u e => ?_, r.len, fun n ob q h1 h2 => ?_, r.inj, fun a u e => ?_⟩
  · rw [upd_ne (ne_of_none (r.sub a u e) hp)]; exact r.sub a u e
  · rcases r.live n ob q h1 h2 with ⟨e, h⟩ | ⟨u, f1, h1', k⟩
    · exact .inl ⟨e, by rw [upd_ne (fun z => h (by rw [z]; exact hp))]; exact h⟩
    · exact .inr ⟨u, f1, by rw [upd_ne (fun z => by rw [z, hp] at h1'; cases h1')]; exact h1', k⟩
  · obtain ⟨e1, e2, e3⟩ := r.priv a u e
    exact ⟨by rw [upd_ne (ne_of_none e1 hp)]; exact e1, e2, e3⟩
/-- .. and hides -/
theorem Rel.hide {p : Addr} {o : HO} (r : Rel g P F μ S H) (hp : H p = none) : Rel g (upd P p o) F μ S (upd H p o) := by
  have q := r.more (o := o) hp
  have hF : F p = none := by
    cases e : F p with
    | none => rfl
    | some u => rw [r.sub p u e] at hp; cases hp
  refine ⟨q.sub, q.len, q.live, q.inj, fun a u e => ?_⟩
  by_cases ha : a = p
  · subst ha
    rw [upd_same] at e; cases e
    refine ⟨upd_same, hF, fun n z => ?_⟩
    have hn : n < S.length := by rw [← r.len]; exact (List.getElem?_eq_some_iff.mp z).1
    rcases r.live n _ a (List.getElem?_eq_getElem hn) z with ⟨_, k⟩ | ⟨w, _, k, _⟩
    · exact k hp
    · rw [hp] at k; cases k
  · rw [upd_ne ha] at e
    exact q.priv a u e
/-- a hidden thing is written -/
theorem Rel.hidden {p : Addr} {o o' : HO} (r : Rel g P F μ S H) (hp : P p = some o) : Rel g (upd P p o') F μ S (upd H p o') := by
  obtain ⟨h1, h2, h3⟩ := r.priv p o hp
  refine ⟨fun a u e => ?_, r.len, fun n ob q k1 k2 => ?_, r.inj, fun a u e => ?_⟩
  · rw [upd_ne (ne_of_none e h2)]; exact r.sub a u e
  · have ne : q ≠ p := fun z => h3 n (by rw [k2, z])
    rw [upd_ne ne]; exact r.live n ob q k1 k2
  · by_cases ha : a = p
    · subst ha
      rw [upd_same] at e ⊢; cases e
      exact ⟨rfl, h2, h3⟩
    · rw [upd_ne ha] at e ⊢
      exact r.priv a u e
/-- less is hidden -/
theorem Rel.less {P' : Hp} (r : Rel g P F μ S H) (h : ∀ a o, P' a = some o → P a = some o) : Rel g P' F μ S H := ⟨r.sub, r.len, r.live, r.inj, fun a o e => r.priv a o (h a o e)⟩
/-- a hidden thing becomes frozen -/
theorem Rel.unhide {p : Addr} {o : HO} {P' : Hp} (r : Rel g P F μ S H) (hp : P p = some o) (h : ∀ a o, P' a = some o → P a = some o) (hn : P' p = none) : Rel g P' (upd F p o) μ S H ∧ Gr F μ (upd F p o) μ := by
  obtain ⟨h1, h2, h3⟩ := r.priv p o hp
  have gr : Gr F μ (upd F p o) μ := ⟨fun a u e => by rw [upd_ne (ne_of_none e h2)]; exact e, fun _ _ h => h⟩
  refine ⟨⟨fun a u e => ?_, r.len, fun n ob q k1 k2 => ?_, r.inj, fun a u e => ?_⟩, gr⟩
  · by_cases ha : a = p
    · subst ha; rw [upd_same] at e; cases e; exact h1
    · rw [upd_ne ha] at e; exact r.sub a u e
  · have ne : q ≠ p := fun z => h3 n (by rw [k2, z])
    rcases r.live n ob q k1 k2 with e | ⟨u, f1, h1', k⟩
    · exact .inl e
    · exact .inr ⟨u, by rw [upd_ne ne]; exact f1, h1', k.mono gr⟩
  · obtain ⟨e1, e2, e3⟩ := r.priv a u (h a u e)
    exact ⟨e1, by rw [upd_ne (ne_of_none e hn)]; exact e2, e3⟩
/-- a new place of the store -/
theorem Rel.push {p : Addr} {u : HO} {o : Ob} (r : Rel g P F μ S H) (hp : H p = none) (ho : ObRep g F (μ ++ [p]) o u) : Rel g P F (μ ++ [p]) (S ++ [o]) (upd H p u) ∧ Gr F μ F (μ ++ [p]) ∧ (μ ++ [p])[S.length]? = some p := by
  have hF : F p = none := by
    cases e : F p with
    | none => rfl
    | some u => rw [r.sub p u e] at hp; cases hp
  have gr : Gr F μ F (μ ++ [p]) := ⟨fun _ _ h => h, fun n q h => by
    have : n < μ.length := (List.getElem?_eq_some_iff.mp h).1
    rw [List.getElem?_append_left this]; exact h⟩
  have there : ∀ n q, μ[n]? = some q → q ≠ p := fun n q h z => by
    have hn : n < S.length := by rw [← r.len]; exact (List.getElem?_eq_some_iff.mp h).1
    rcases r.live n _ q (List.getElem?_eq_getElem hn) h with ⟨_, k⟩ | ⟨w, _, k, _⟩
    · exact k (by rw [z]; exact hp)
    · rw [z, hp] at k; cases k
  have last : (μ ++ [p])[S.length]? = some p := by rw [← r.len]; simp
  refine ⟨⟨fun a w e => ?_, by simp [r.len], fun n ob q h1 h2 => ?_, fun m n q h1 h2 => ?_, fun a w e => ?_⟩, gr, last⟩
  · rw [upd_ne (ne_of_none e hF)]; exact r.sub a w e
  · by_cases hn : n < S.length
    · rw [List.getElem?_append_left hn] at h1
      rw [List.getElem?_append_left (by rw [r.len]; exact hn)] at h2
      have ne := there n q h2
      rcases r.live n ob q h1 h2 with ⟨e, h⟩ | ⟨w, f1, h1', k⟩
      · exact .inl ⟨e, by rw [upd_ne ne]; exact h⟩
      · exact .inr ⟨w, f1, by rw [upd_ne ne]; exact h1', k.mono gr⟩
    · have e1 : n = S.length := by
        have := (List.getElem?_eq_some_iff.mp h1).1
        simp at this; omega
      subst e1
      rw [last] at h2; cases h2
      simp at h1; subst h1
      exact .inr ⟨u, hF, upd_same, ho⟩
  · by_cases hm : m < μ.length
    · by_cases hn : n < μ.length
      · rw [List.getElem?_append_left hm] at h1
        rw [List.getElem?_append_left hn] at h2
        exact r.inj m n q h1 h2
      · rw [List.getElem?_append_left hm] at h1
        have := (List.getElem?_eq_some_iff.mp h2).1
        have e2 : n = μ.length := by simp at this; omega
        subst e2; simp at h2; subst h2
        exact absurd rfl (there m _ h1)
    · have := (List.getElem?_eq_some_iff.mp h1).1
      have e1 : m = μ.length := by simp at this; omega
      subst e1; simp at h1; subst h1
      by_cases hn : n < μ.length
      · rw [List.getElem?_append_left hn] at h2
        exact absurd rfl (there n _ h2)
      · have := (List.getElem?_eq_some_iff.mp h2).1
        simp at this; omega
  · obtain ⟨e1, e2, e3⟩ := r.priv a w e
    have ne := ne_of_none e1 hp
    refine ⟨by rw [upd_ne ne]; exact e1, e2, fun n z => ?_⟩
    by_cases hn : n < μ.length
    · rw [List.getElem?_append_left hn] at z
      exact e3 n z
    · have := (List.getElem?_eq_some_iff.mp z).1
      have e1 : n = μ.length := by simp at this; omega
      subst e1; simp at z
      exact ne z.symm
/-- a hidden thing becomes a place -/
theorem Rel.place {p : Addr} {u : HO} {o : Ob} {P' : Hp} (r : Rel g P F μ S H) (hp : P p = some u) (h : ∀ a o, P' a = some o → P a = some o) (hn : P' p = none) (ho : ObRep g F (μ ++ [p]) o u) :
    Rel g P' F (μ ++ [p]) (S ++ [o]) H ∧ Gr F μ F (μ ++ [p]) ∧ (μ ++ [p])[S.length]? = some p := by
  obtain ⟨hH, hF, hμ⟩ := r.priv p u hp
  have gr : Gr F μ F (μ ++ [p]) := ⟨fun _ _ h => h, fun n q h => by
    have : n < μ.length := (List.getElem?_eq_some_iff.mp h).1
    rw [List.getElem?_append_left this]; exact h⟩
  have there : ∀ n q, μ[n]? = some q → q ≠ p := fun n q h z => hμ n (by rw [h, z])
  have last : (μ ++ [p])[S.length]? = some p := by rw [← r.len]; simp
  refine ⟨⟨r.sub, by simp [r.len], fun n ob q h1 h2 => ?_, fun m n q h1 h2 => ?_, fun a w e => ?_⟩, gr, last⟩
  · by_cases hn : n < S.length
    · rw [List.getElem?_append_left hn] at h1
      rw [List.getElem?_append_left (by rw [r.len]; exact hn)] at h2
      rcases r.live n ob q h1 h2 with e | ⟨w, f1, h1', k⟩
      · exact .inl e
      · exact .inr ⟨w, f1, h1', k.mono gr⟩
    · have e1 : n = S.length := by
        have := (List.getElem?_eq_some_iff.mp h1).1
        simp at this; omega
      subst e1
      rw [last] at h2; cases h2
      simp at h1; subst h1
      exact .inr ⟨u, hF, hH, ho⟩
  · by_cases hm : m < μ.length
    · by_cases hn : n < μ.length
      · rw [List.getElem?_append_left hm] at h1
        rw [List.getElem?_append_left hn] at h2
        exact r.inj m n q h1 h2
      · rw [List.getElem?_append_left hm] at h1
        have := (List.getElem?_eq_some_iff.mp h2).1
        have e2 : n = μ.length := by simp at this; omega
        subst e2; simp at h2; subst h2
        exact absurd rfl (there m _ h1)
    · have := (List.getElem?_eq_some_iff.mp h1).1
      have e1 : m = μ.length := by simp at this; omega
      subst e1; simp at h1; subst h1
      by_cases hn : n < μ.length
      · rw [List.getElem?_append_left hn] at h2
        exact absurd rfl (there n _ h2)
      · have := (List.getElem?_eq_some_iff.mp h2).1
        simp at this; omega
  · obtain ⟨e1, e2, e3⟩ := r.priv a w (h a w e)
    refine ⟨e1, e2, fun n z => ?_⟩
    have ne : a ≠ p := fun q => by rw [q, hn] at e; cases e
    by_cases hn : n < μ.length
    · rw [List.getElem?_append_left hn] at z
      exact e3 n z
    · have := (List.getElem?_eq_some_iff.mp z).1
      have e1 : n = μ.length := by simp at this; omega
      subst e1; simp at z
      exact ne z.symm
/-- a place is written -/
theorem Rel.write {n : Nat} {p : Addr} {u : HO} {o o' : Ob} (r : Rel g P F μ S H) (hs : S[n]? = some o) (hd : o ≠ .dead) (hm : μ[n]? = some p) (ho : ObRep g F μ o' u) : Rel g P F μ (S.set n o') (upd H p u) := by
  have hF : F p = none := by
    rcases r.live n o p hs hm with ⟨e, _⟩ | ⟨_, f, _⟩
    · exact absurd e hd
    · exact f
  have hn : n < S.length := (List.getElem?_eq_some_iff.mp hs).1
  refine ⟨fun a w e => ?_, by simpa using r.len, fun m ob q h1 h2 => ?_, r.inj, fun a w e => ?_⟩
  · rw [upd_ne (ne_of_none e hF)]; exact r.sub a w e
  · by_cases hnm : n = m
    · subst hnm
      rw [List.getElem?_set_self hn] at h1; cases h1
      rw [hm] at h2; cases h2
      exact .inr ⟨u, hF, upd_same, ho⟩
    · rw [List.getElem?_set_ne hnm] at h1
      have ne : q ≠ p := fun z => hnm (r.inj n m p hm (by rw [h2, z]))
      rcases r.live m ob q h1 h2 with ⟨e, h⟩ | ⟨w, f1, h1', k⟩
      · exact .inl ⟨e, by rw [upd_ne ne]; exact h⟩
      · exact .inr ⟨w, f1, by rw [upd_ne ne]; exact h1', k⟩
  · obtain ⟨e1, e2, e3⟩ := r.priv a w e
    exact ⟨by rw [upd_ne (fun z => e3 n (by rw [z]; exact hm))]; exact e1, e2, e3⟩
/-- a place becomes frozen -/
theorem Rel.freeze {n : Nat} {p : Addr} {u : HO} {o : Ob} (r : Rel g P F μ S H) (hs : S[n]? = some o) (hd : o ≠ .dead) (hm : μ[n]? = some p) (hu : H p = some u) : Rel g P (upd F p u) μ (S.set n .dead) H ∧ Gr F μ (upd F p u) μ ∧ ObRep g F μ o u := by
  rcases r.live n o p hs hm with ⟨e, _⟩ | ⟨u', hF, hu', k⟩
  · exact absurd e hd
  rw [hu] at hu'; cases hu'
  have hn : n < S.length := (List.getElem?_eq_some_iff.mp hs).1
  have gr : Gr F μ (upd F p u) μ := ⟨fun a u e => by rw [upd_ne (ne_of_none e hF)]; exact e, fun _ _ h => h⟩
  refine ⟨⟨fun a w e => ?_, by simpa using r.len, fun m ob q h1 h2 => ?_, r.inj, fun a w e => ?_⟩, gr, k⟩
  · by_cases ha : a = p
    · subst ha; rw [upd_same] at e; cases e; exact hu
    · rw [upd_ne ha] at e; exact r.sub a w e
  · by_cases hnm : n = m
    · subst hnm
      rw [List.getElem?_set_self hn] at h1; cases h1
      rw [hm] at h2; cases h2
      exact .inl ⟨rfl, by rw [hu]; intro z; cases z⟩
    · rw [List.getElem?_set_ne hnm] at h1
      have ne : q ≠ p := fun z => hnm (r.inj n m p hm (by rw [h2, z]))
      rcases r.live m ob q h1 h2 with h | ⟨w, f1, h1', k⟩
      · exact .inl h
      · exact .inr ⟨w, by rw [upd_ne ne]; exact f1, h1', k.mono gr⟩
  · obtain ⟨e1, e2, e3⟩ := r.priv a w e
    exact ⟨e1, by rw [upd_ne (fun z => e3 n (by rw [z]; exact hm))]; exact e2, e3⟩
end
end DL

/-! The data layer, 2: the judgements, calls. -/
namespace DL
open PySem PySem.Spec PyProof.Rows L2
abbrev EM := Env → M D
abbrev AM := Env → M (List D)
abbrev BM := Env → M Bool
abbrev gX (X : Cx) : G := ⟨X.K, X.mg⟩

/-- what a mirror's result tells: Q behind it, E where it raises -/
def Fin {α β : Type} (rep : Hp → List Addr → α → β → Prop) (g : G) (P F : Hp) (μ : List Addr) (r : R α) (Q : β → Hp → Prop) (E : XK) : Prop :=
  match r with
  | .ok a S => ∀ F' μ' H' b, Gr F μ F' μ' → Rel g P F' μ' S H' → rep F' μ' a b → Q b H'
  | .exn e S => ∀ F' μ' H' cls dd, Gr F μ F' μ' → Rel g P F' μ' S H' → XRep g F' μ' e cls dd → E cls dd H'
  | .stuck => False
abbrev repD (g : G) : Hp → List Addr → D → V → Prop := fun F μ => Rep g F μ
abbrev repA (g : G) : Hp → List Addr → List D → List V → Prop := fun F μ => Reps g F μ
abbrev repB : Hp → List Addr → Bool → Bool → Prop := fun _ _ a b => a = b
section
variable {α β γ δ : Type} {rep : Hp → List Addr → α → β → Prop} {rep' : Hp → List Addr → γ → δ → Prop} {g : G} {P F F1 : Hp} {μ μ1 : List Addr} {r : R α} {Q Q' : β → Hp → Prop} {E E' : XK}
theorem Fin.gr (gr : Gr F μ F1 μ1) (h : Fin rep g P F μ r Q E) : Fin rep g P F1 μ1 r Q E := by
  cases r with
  | ok a S => exact fun F' μ' H' b g' => h F' μ' H' b (gr.trans g')
  | exn e S => exact fun F' μ' H' c d g' => h F' μ' H' c d (gr.trans g')
  | stuck => exact h
theorem Fin.imp (h : Fin rep g P F μ r Q E) (hq : ∀ b H, Q b H → Q' b H) (he : ∀ c d H, E c d H → E' c d H) : Fin rep g P F μ r Q' E' := by
  cases r with
  | ok a S => exact fun F' μ' H' b g1 g2 g3 => hq _ _ (h F' μ' H' b g1 g2 g3)
  | exn e S => exact fun F' μ' H' c d g1 g2 g3 => he _ _ _ (h F' μ' H' c d g1 g2 g3)
  | stuck => exact h
/-- one after another -/
theorem Fin.bind {f : α → M γ} {Q : δ → Hp → Prop} (h : Fin rep' g P F μ (r.bind f) Q E) :
    Fin rep g P F μ r (fun b H1 => ∃ a F1 μ1 S1, Gr F μ F1 μ1 ∧ Rel g P F1 μ1 S1 H1 ∧ rep F1 μ1 a b ∧ Fin rep' g P F1 μ1 (f a S1) Q E) E := by
  cases r with
  | ok a S => exact fun F' μ' H' b g1 g2 g3 => ⟨a, F', μ', S, g1, g2, g3, Fin.gr g1 h⟩
  | exn e S => exact h
  | stuck => exact h
/-- at the end -/
theorem Fin.here {a : α} {S : Store} {b : β} {H : Hp} (h : Fin rep g P F μ (.ok a S) Q E) (rl : Rel g P F μ S H) (rp : rep F μ a b) : Q b H := h F μ H b (Gr.refl _ _) rl rp
end

/-- the reading of an expression by its mirror -/
def tD (g : G) (W : WX) (f : EM) : TE := fun σ H Q => ∃ P ρ F μ S, EnvR g F μ ρ σ ∧ Rel g P F μ S H ∧ Fin (repD g) g P F μ (f ρ S) Q (fun c d H' => W c d σ H')
def tDA (g : G) (W : WX) (f : AM) : TA := fun σ H Q => ∃ P ρ F μ S, EnvR g F μ ρ σ ∧ Rel g P F μ S H ∧ Fin (repA g) g P F μ (f ρ S) Q (fun c d H' => W c d σ H')
def tDB (g : G) (W : WX) (f : BM) : TT := fun σ H Q => ∃ P ρ F μ S, EnvR g F μ ρ σ ∧ Rel g P F μ S H ∧ Fin repB g P F μ (f ρ S) Q (fun c d H' => W c d σ H')
abbrev DE (X : Cx) (W : WX) (e : Expr) (f : EM) : Prop := PE X e (tD (gX X) W f)
abbrev DA (X : Cx) (W : WX) (es : List Expr) (f : AM) : Prop := PA X es (tDA (gX X) W f)
abbrev DB (X : Cx) (W : WX) (e : Expr) (f : BM) : Prop := PT X e (tDB (gX X) W f)
abbrev DW (X : Cx) (W : WX) (e : Expr) (f : BM) : Prop := PW X e (tDB (gX X) W f)

theorem PE.weak {X : Cx} {e : Expr} {t t' : TE} (h : PE X e t) (w : ∀ σ H Q, t' σ H Q → t σ H Q) : PE X e t' := ⟨fun pins s σ H Q I k => h.run pins s σ H Q I (w σ H Q k)⟩
theorem PT.weak {X : Cx} {e : Expr} {t t' : TT} (h : PT X e t) (w : ∀ σ H Q, t' σ H Q → t σ H Q) : PT X e t' := ⟨fun pins s σ H Q I k => h.run pins s σ H Q I (w σ H Q k)⟩
theorem PW.weak {X : Cx} {e : Expr} {t t' : TT} (h : PW X e t) (w : ∀ σ H Q, t' σ H Q → t σ H Q) : PW X e t' := ⟨fun wh pins s σ H Q I k => h.run wh pins s σ H Q I (w σ H Q k)⟩
theorem PA.weak {X : Cx} {es : List Expr} {t t' : TA} (h : PA X es t) (w : ∀ σ H Q, t' σ H Q → t σ H Q) : PA X es t' := ⟨fun p pins s σ H Q I k => h.run p pins s σ H Q I (w σ H Q k)⟩
theorem PS.weak {X : Cx} {st : Stmt} {t t' : TS} (h : PS X st t) (w : ∀ D σ H, t' D σ H → t D σ H) : PS X st t' := ⟨fun pins s σ H D I k => h.run pins s σ H D I (w D σ H k)⟩
theorem PSs.weak {X : Cx} {st : List Stmt} {t t' : TS} (h : PSs X st t) (w : ∀ D σ H, t' D σ H → t D σ H) : PSs X st t' := ⟨fun pins s σ H D I k => h.run pins s σ H D I (w D σ H k)⟩

section
variable {g : G} {W : WX} {P F : Hp} {μ : List Addr} {S : Store} {ρ : Env} {σ : L2.St} {H : Hp}
/-- the mirror's value, then Q -/
theorem tD.run {f : EM} {Q : VK} (e : EnvR g F μ ρ σ) (r : Rel g P F μ S H) (h : Fin (repD g) g P F μ (f ρ S) Q (fun c d H' => W c d σ H')) : tD g W f σ H Q := ⟨P, ρ, F, μ, S, e, r, h⟩
theorem tDA.run {f : AM} {Q : List V → Hp → Prop} (e : EnvR g F μ ρ σ) (r : Rel g P F μ S H) (h : Fin (repA g) g P F μ (f ρ S) Q (fun c d H' => W c d σ H')) : tDA g W f σ H Q := ⟨P, ρ, F, μ, S, e, r, h⟩
theorem tDB.run {f : BM} {Q : Bool → Hp → Prop} (e : EnvR g F μ ρ σ) (r : Rel g P F μ S H) (h : Fin repB g P F μ (f ρ S) Q (fun c d H' => W c d σ H')) : tDB g W f σ H Q := ⟨P, ρ, F, μ, S, e, r, h⟩
end

/-! ### names, constants -/
def mVar (i : Nat) : EM := fun ρ S => match ρ[i]? with
  | some (some d) => .ok d S
  | _ => .stuck
def mC (d : D) : EM := fun _ S => .ok d S
section
variable {X : Cx} {W : WX}
theorem d_var (i : Nat) {x : Str} {pos : Pos} (hN : X.N[i]? = some x := by rfl) (hv : Vis X.env.scope x := by first | exact Or.inl rfl | exact Or.inr (Or.inl rfl) | exact Or.inr (Or.inr rfl)) (hd : (x == ("__debug__" : Str)) = false := by decide)
    (hcd : (x == ("__classdict__" : Str)) = false := by decide) : DE X W (.Name x pos) (mVar i) := by
  refine PE.weak (pe_var hN hv hd hcd) fun σ H Q h => ?_
  obtain ⟨P, ρ, F, μ, S, e, r, h⟩ := h
  unfold mVar at h
  split at h
  · rename_i d q
    obtain ⟨v, h1, h2⟩ := e.at_ i d q
    exact ⟨v, h1, h.here r h2⟩
  · exact h.elim
theorem d_const {e : Expr} {v : V} {d : D} (h : PE X e (tC v)) (hr : ∀ F μ, Rep (gX X) F μ d v) : DE X W e (mC d) := PE.weak h fun σ H Q ⟨P, ρ, F, μ, S, e, r, k⟩ => k.here r (hr F μ)
theorem d_int {i j pos} : DE X W (.Constant (.int i) j pos) (mC (.int i)) := d_const pe_int fun _ _ => by simp only [Rep]
theorem d_bl {b j pos} : DE X W (.Constant (.bool b) j pos) (mC (.bl b)) := d_const pe_bl fun _ _ => by simp only [Rep]
theorem d_non {j pos} : DE X W (.Constant .none j pos) (mC .non) := d_const pe_non fun _ _ => by simp only [Rep]
theorem d_str {x j pos} : DE X W (.Constant (.str x) j pos) (mC (.str x)) := d_const pe_str fun _ _ => by simp only [Rep]
/-- a constant of the module -/
def GlobD (g : G) (x : Str) (d : D) : Prop := ∃ v u, g.mg x = some u ∧ RelV v u ∧ ∀ F μ, Rep g F μ d v
theorem d_glob {x : Str} {d : D} {pos : Pos} (G : GlobD (gX X) x d) (hg : Gl X x := by rfl) (hd : (x == ("__debug__" : Str)) = false := by decide) : DE X W (.Name x pos) (mC d) := by
  obtain ⟨v, u, h1, h2, h3⟩ := G
  exact d_const (pe_glob hg h1 h2 hd) h3
end

/-! ### arguments -/
def mNil : AM := fun _ S => .ok [] S
def mCons (f : EM) (r : AM) : AM := fun ρ S => (f ρ S).bind fun x S => (r ρ S).bind fun xs S => .ok (x :: xs) S
section
variable {X : Cx} {W : WX}
theorem da_nil : DA X W [] mNil := PA.weak pa_nil fun σ H Q ⟨P, ρ, F, μ, S, e, r, k⟩ => k.here r reps_nil
theorem da_cons {e : Expr} {es : List Expr} {f : EM} {fr : AM} (h : DE X W e f) (hr : DA X W es fr) (hs : starEach (e :: es) X.env = (false, eval e X.env) :: starEach es X.env := by rfl) : DA X W (e :: es) (mCons f fr) := by
  refine PA.weak (pa_cons h hr hs) fun σ H Q ⟨P, ρ, F, μ, S, en, r, k⟩ => ?_
  refine tD.run en r (Fin.imp (Fin.bind (rep := repD (gX X)) k) (fun v H1 ⟨a, F1, μ1, S1, g1, r1, p1, k1⟩ => ?_) fun _ _ _ z => z)
  refine tDA.run (en.mono g1) r1 (Fin.imp (Fin.bind (rep := repA (gX X)) k1) (fun vs H2 ⟨b, F2, μ2, S2, g2, r2, p2, k2⟩ => ?_) fun _ _ _ z => z)
  exact k2.here r2 (reps_cons (p1.mono g2) p2)
end

/-! ### operators by values -/
/-- a two-place operation as its mirror says -/
def OpD (X : Cx) (f : Value → Value → Sem Value) (m : D → D → M D) : Prop :=
  OpR X f (fun v w H Q => ∃ x y P F μ S E, Rel (gX X) P F μ S H ∧ Rep (gX X) F μ x v ∧ Rep (gX X) F μ y w ∧ Fin (repD (gX X)) (gX X) P F μ (m x y S) Q E)
def mOp (m : D → D → M D) (fa fb : EM) : EM := fun ρ S => (fa ρ S).bind fun x S => (fb ρ S).bind fun y S => m x y S
section
variable {X : Cx} {W : WX} {a b : Expr} {fa fb : EM} {m : D → D → M D} {pos : Pos}
theorem op_run {r : R2} (hr : r = fun v w H Q => ∃ x y P F μ S E, Rel (gX X) P F μ S H ∧ Rep (gX X) F μ x v ∧ Rep (gX X) F μ y w ∧ Fin (repD (gX X)) (gX X) P F μ (m x y S) Q E) :
    ∀ σ H Q, tD (gX X) W (mOp m fa fb) σ H Q → tOp r (tD (gX X) W fa) (tD (gX X) W fb) σ H Q := fun σ H Q ⟨P, ρ, F, μ, S, en, rl, k⟩ => by
  refine tD.run en rl (Fin.imp (Fin.bind (rep := repD (gX X)) k) (fun v H1 ⟨x, F1, μ1, S1, g1, r1, p1, k1⟩ => ?_) fun _ _ _ z => z)
  refine tD.run (en.mono g1) r1 (Fin.imp (Fin.bind (rep := repD (gX X)) k1) (fun w H2 ⟨y, F2, μ2, S2, g2, r2, p2, k2⟩ => ?_) fun _ _ _ z => z)
  rw [hr]
  exact ⟨x, y, P, F2, μ2, S2, _, r2, p1.mono g2, p2, k2⟩
theorem d_op {op : Operator} (ho : OpD X (binaryOp op) m) (ha : DE X W a fa) (hb : DE X W b fb) : DE X W (.BinOp a op b pos) (mOp m fa fb) := PE.weak (pe_op ho ha hb) (op_run rfl)
theorem d_cmp {op : CmpOp} (ho : OpD X (compareOp op) m) (ha : DE X W a fa) (hb : DE X W b fb) (hm : behindInMarks op b = false := by first | exact nomark _ | rfl) : DE X W (.Compare a [op] [b] pos) (mOp m fa fb) := PE.weak (pe_cmpR ho ha hb hm) (op_run rfl)
/-- a bool -/
def toB : D → M Bool
  | .bl b, S => .ok b S
  | _, _ => .stuck
def mB (f : EM) : BM := fun ρ S => (f ρ S).bind toB
theorem toB_fin {g : G} {P F : Hp} {μ : List Addr} {d : D} {S : Store} {H : Hp} {v : V} {Q : Bool → Hp → Prop} {E : XK} (k : Fin repB g P F μ (toB d S) Q E) (r : Rel g P F μ S H) (p : Rep g F μ d v) : ∃ c, v = .bl c ∧ Q c H := by
  cases d <;> first | exact k.elim | skip
  simp only [Rep] at p
  exact ⟨_, p, k.here r rfl⟩
theorem db_val {e : Expr} {f : EM} (h : DE X W e f) (he : ∀ whole, isTrue e X.env whole = (do let v ← whole; standAt e.pos; holding [v] (truthy v)) := by intro _; rfl) : DB X W e (mB f) :=
  PT.weak (pt_val h he) fun σ H Q ⟨P, ρ, F, μ, S, en, rl, k⟩ => tD.run en rl (Fin.imp (Fin.bind (rep := repD (gX X)) k) (fun v H1 ⟨x, F1, μ1, S1, g1, r1, p1, k1⟩ => toB_fin k1 r1 p1) fun _ _ _ z => z)
theorem db_cmp {op : CmpOp} (ho : OpD X (compareOp op) m) (ha : DE X W a fa) (hb : DE X W b fb) (hm : behindInMarks op b = false := by first | exact nomark _ | rfl) : DB X W (.Compare a [op] [b] pos) (mB (mOp m fa fb)) :=
  PT.weak (pt_cmpR ho ha hb hm) fun σ H Q ⟨P, ρ, F, μ, S, en, rl, k⟩ => op_run rfl σ H _ (tD.run en rl (Fin.imp (Fin.bind (rep := repD (gX X)) k) (fun v H1 ⟨x, F1, μ1, S1, g1, r1, p1, k1⟩ => toB_fin k1 r1 p1) fun _ _ _ z => z))
/-- a one-place operation -/
def UnD (X : Cx) (f : Value → Sem Value) (m : D → M D) : Prop := UnR X f (fun v H Q => ∃ x P F μ S E, Rel (gX X) P F μ S H ∧ Rep (gX X) F μ x v ∧ Fin (repD (gX X)) (gX X) P F μ (m x S) Q E)
def mUn (m : D → M D) (fa : EM) : EM := fun ρ S => (fa ρ S).bind m
theorem d_un {op : UnaryOp} {m : D → M D} (ho : UnD X (unaryOp op) m) (ha : DE X W a fa) : DE X W (.UnaryOp op a pos) (mUn m fa) :=
  PE.weak (pe_un ho ha) fun σ H Q ⟨P, ρ, F, μ, S, en, rl, k⟩ => tD.run en rl (Fin.imp (Fin.bind (rep := repD (gX X)) k) (fun v H1 ⟨x, F1, μ1, S1, g1, r1, p1, k1⟩ => ⟨x, P, F1, μ1, S1, _, r1, p1, k1⟩) fun _ _ _ z => z)
end

/-! ### and, or, not, if -/
def mAnd (f h : BM) : BM := fun ρ S => (f ρ S).bind fun b S => if b then h ρ S else .ok false S
def mOr (f h : BM) : BM := fun ρ S => (f ρ S).bind fun b S => if b then .ok true S else h ρ S
def mNot (f : BM) : BM := fun ρ S => (f ρ S).bind fun b S => .ok (!b) S
def mAndV (f h : EM) : EM := fun ρ S => (f ρ S).bind fun d S => (toB d S).bind fun b S => if b then h ρ S else .ok (.bl false) S
def mOrV (f h : EM) : EM := fun ρ S => (f ρ S).bind fun d S => (toB d S).bind fun b S => if b then .ok (.bl true) S else h ρ S
def mNotV (f : EM) : EM := fun ρ S => (f ρ S).bind fun d S => (toB d S).bind fun b S => .ok (.bl (!b)) S
def mIf (c : BM) (f h : EM) : EM := fun ρ S => (c ρ S).bind fun b S => if b then f ρ S else h ρ S
theorem toB_bind {γ δ : Type} {rep' : Hp → List Addr → γ → δ → Prop} {g : G} {P F : Hp} {μ : List Addr} {d : D} {S : Store} {v : V} {f : Bool → M γ} {Q : δ → Hp → Prop} {E : XK} (k : Fin rep' g P F μ ((toB d S).bind f) Q E) (p : Rep g F μ d v) :
    ∃ c, v = .bl c ∧ Fin rep' g P F μ (f c S) Q E := by
  cases d <;> first | exact k.elim | skip
  simp only [Rep] at p
  exact ⟨_, p, k⟩
section
variable {X : Cx} {W : WX} {a b c : Expr} {rest : List Expr} {fa fb : EM} {ta tb : BM} {pos : Pos}
theorem dw_and1 (h : DB X W a ta) : DW X W (.BoolOp .And [a] pos) ta := pw_and1 h
theorem dw_or1 (h : DB X W a ta) : DW X W (.BoolOp .Or [a] pos) ta := pw_or1 h
theorem dw_and (h : DB X W a ta) (hb : DW X W (.BoolOp .And (b :: rest) pos) tb) : DW X W (.BoolOp .And (a :: b :: rest) pos) (mAnd ta tb) := by
  refine PW.weak (pw_and h hb) fun σ H Q ⟨P, ρ, F, μ, S, en, rl, k⟩ => ?_
  refine tDB.run en rl (Fin.imp (Fin.bind (rep := repB) k) (fun v H1 ⟨x, F1, μ1, S1, g1, r1, p1, k1⟩ => ?_) fun _ _ _ z => z)
  cases p1
  cases v with
  | true => exact iteT (tDB.run (en.mono g1) r1 k1)
  | false => exact iteF (k1.here r1 rfl)
theorem dw_or (h : DB X W a ta) (hb : DW X W (.BoolOp .Or (b :: rest) pos) tb) : DW X W (.BoolOp .Or (a :: b :: rest) pos) (mOr ta tb) := by
  refine PW.weak (pw_or h hb) fun σ H Q ⟨P, ρ, F, μ, S, en, rl, k⟩ => ?_
  refine tDB.run en rl (Fin.imp (Fin.bind (rep := repB) k) (fun v H1 ⟨x, F1, μ1, S1, g1, r1, p1, k1⟩ => ?_) fun _ _ _ z => z)
  cases p1
  cases v with
  | true => exact iteT (k1.here r1 rfl)
  | false => exact iteF (tDB.run (en.mono g1) r1 k1)
theorem db_bool {e : Expr} (h : DW X W e ta) : DB X W e ta := PW.pt h
theorem db_not (h : DB X W a ta) : DB X W (.UnaryOp .Not a pos) (mNot ta) := by
  refine PT.weak (pt_not h) fun σ H Q ⟨P, ρ, F, μ, S, en, rl, k⟩ => ?_
  refine tDB.run en rl (Fin.imp (Fin.bind (rep := repB) k) (fun v H1 ⟨x, F1, μ1, S1, g1, r1, p1, k1⟩ => ?_) fun _ _ _ z => z)
  cases p1
  exact k1.here r1 rfl
theorem d_one {op} (h : DE X W a fa) : DE X W (.BoolOp op [a] pos) fa := pe_one h
theorem d_and (h : DE X W a fa) (hb : DE X W (.BoolOp .And (b :: rest) pos) fb) : DE X W (.BoolOp .And (a :: b :: rest) pos) (mAndV fa fb) := by
  refine PE.weak (pe_and h hb) fun σ H Q ⟨P, ρ, F, μ, S, en, rl, k⟩ => ?_
  refine tD.run en rl (Fin.imp (Fin.bind (rep := repD (gX X)) k) (fun v H1 ⟨x, F1, μ1, S1, g1, r1, p1, k1⟩ => ?_) fun _ _ _ z => z)
  obtain ⟨c, e, k2⟩ := toB_bind k1 p1
  refine ⟨c, e, ?_⟩
  cases c with
  | true => exact iteT (tD.run (en.mono g1) r1 k2)
  | false => exact iteF (k2.here r1 (by simp only [Rep]))
theorem d_or (h : DE X W a fa) (hb : DE X W (.BoolOp .Or (b :: rest) pos) fb) : DE X W (.BoolOp .Or (a :: b :: rest) pos) (mOrV fa fb) := by
  refine PE.weak (pe_or h hb) fun σ H Q ⟨P, ρ, F, μ, S, en, rl, k⟩ => ?_
  refine tD.run en rl (Fin.imp (Fin.bind (rep := repD (gX X)) k) (fun v H1 ⟨x, F1, μ1, S1, g1, r1, p1, k1⟩ => ?_) fun _ _ _ z => z)
  obtain ⟨c, e, k2⟩ := toB_bind k1 p1
  refine ⟨c, e, ?_⟩
  cases c with
  | true => exact iteT (k2.here r1 (by simp only [Rep]))
  | false => exact iteF (tD.run (en.mono g1) r1 k2)
theorem d_not (h : DE X W a fa) : DE X W (.UnaryOp .Not a pos) (mNotV fa) := by
  refine PE.weak (pe_not h) fun σ H Q ⟨P, ρ, F, μ, S, en, rl, k⟩ => ?_
  refine tD.run en rl (Fin.imp (Fin.bind (rep := repD (gX X)) k) (fun v H1 ⟨x, F1, μ1, S1, g1, r1, p1, k1⟩ => ?_) fun _ _ _ z => z)
  obtain ⟨c, e, k2⟩ := toB_bind k1 p1
  exact ⟨c, e, k2.here r1 (by simp only [Rep])⟩
theorem d_if (hc : DB X W c ta) (ha : DE X W a fa) (hb : DE X W b fb) : DE X W (.IfExp c a b pos) (mIf ta fa fb) := by
  refine PE.weak (pe_ifExp hc ha hb) fun σ H Q ⟨P, ρ, F, μ, S, en, rl, k⟩ => ?_
  refine tDB.run en rl (Fin.imp (Fin.bind (rep := repB) k) (fun v H1 ⟨x, F1, μ1, S1, g1, r1, p1, k1⟩ => ?_) fun _ _ _ z => z)
  cases p1
  cases v with
  | true => exact iteT (tD.run (en.mono g1) r1 k1)
  | false => exact iteF (tD.run (en.mono g1) r1 k1)
end

/-! ### statements -/
inductive Fl where
  | nx | rt (d : D) | bk | ct | ex (e : D)
/-- a statement's result -/
inductive O where
  | go (fl : Fl) (ρ : Env) (S : Store)
  | stuck
abbrev SM := Env → Store → O
/-- an expression in a statement: what it raises goes on as a flow -/
def R.to {α : Type} (r : R α) (ρ : Env) (k : α → Store → O) : O := match r with
  | .ok a S => k a S
  | .exn e S => .go (.ex e) ρ S
  | .stuck => .stuck
@[simp] theorem R.to_ok {α : Type} (a : α) (S : Store) (ρ : Env) (k : α → Store → O) : (R.ok a S).to ρ k = k a S := rfl
@[simp] theorem R.to_exn {α : Type} (e : D) (S : Store) (ρ : Env) (k : α → Store → O) : (R.exn e S : R α).to ρ k = .go (.ex e) ρ S := rfl
@[simp] theorem R.to_stuck {α : Type} (ρ : Env) (k : α → Store → O) : (R.stuck : R α).to ρ k = .stuck := rfl
def Fl.post (g : G) (F : Hp) (μ : List Addr) (fl : Fl) (ρ : Env) (H : Hp) (Dn : Ends) (W : WX) : Prop := match fl with
  | .nx => ∀ σ, EnvR g F μ ρ σ → Dn.nx σ H
  | .bk => ∀ σ, EnvR g F μ ρ σ → Dn.bk σ H
  | .ct => ∀ σ, EnvR g F μ ρ σ → Dn.ct σ H
  | .rt d => ∀ v, Rep g F μ d v → Dn.rt v H
  | .ex e => ∀ σ cls dd, EnvR g F μ ρ σ → XRep g F μ e cls dd → W cls dd σ H
def FinS (g : G) (P F : Hp) (μ : List Addr) (o : O) (Dn : Ends) (W : WX) : Prop := match o with
  | .go fl ρ S => ∀ F' μ' H', Gr F μ F' μ' → Rel g P F' μ' S H' → fl.post g F' μ' ρ H' Dn W
  | .stuck => False
def tDS (g : G) (W : WX) (f : SM) : TS := fun Dn σ H => ∃ P ρ F μ S, EnvR g F μ ρ σ ∧ Rel g P F μ S H ∧ FinS g P F μ (f ρ S) Dn W
abbrev DS (X : Cx) (W : WX) (st : Stmt) (f : SM) : Prop := PS X st (tDS (gX X) W f)
abbrev DSs (X : Cx) (W : WX) (st : List Stmt) (f : SM) : Prop := PSs X st (tDS (gX X) W f)
section
variable {g : G} {P F F1 : Hp} {μ μ1 : List Addr} {o : O} {Dn Dn' : Ends} {W W' : WX} {ρ : Env} {σ : L2.St} {S : Store} {H : Hp}
theorem FinS.gr (gr : Gr F μ F1 μ1) (h : FinS g P F μ o Dn W) : FinS g P F1 μ1 o Dn W := by
  cases o with
  | go fl ρ S => exact fun F' μ' H' g' => h F' μ' H' (gr.trans g')
  | stuck => exact h
theorem tDS.run {f : SM} (e : EnvR g F μ ρ σ) (r : Rel g P F μ S H) (h : FinS g P F μ (f ρ S) Dn W) : tDS g W f Dn σ H := ⟨P, ρ, F, μ, S, e, r, h⟩
theorem FinS.here {fl : Fl} (h : FinS g P F μ (.go fl ρ S) Dn W) (r : Rel g P F μ S H) : fl.post g F μ ρ H Dn W := h F μ H (Gr.refl _ _) r
/-- an expression, then the rest -/
theorem FinS.to {α β : Type} {rep : Hp → List Addr → α → β → Prop} {r : R α} {k : α → Store → O} (en : EnvR g F μ ρ σ) (h : FinS g P F μ (r.to ρ k) Dn W) :
    Fin rep g P F μ r (fun b H1 => ∃ a F1 μ1 S1, Gr F μ F1 μ1 ∧ Rel g P F1 μ1 S1 H1 ∧ rep F1 μ1 a b ∧ FinS g P F1 μ1 (k a S1) Dn W) (fun c d H' => W c d σ H') := by
  cases r with
  | ok a S => exact fun F' μ' H' b g1 g2 g3 => ⟨a, F', μ', S, g1, g2, g3, FinS.gr g1 h⟩
  | exn e S => exact fun F' μ' H' c d g1 g2 g3 => h F' μ' H' g1 g2 σ c d (en.mono g1) g3
  | stuck => exact h
end
/-! #### small ones -/
def mNext : SM := fun ρ S => .go .nx ρ S
def mBreak : SM := fun ρ S => .go .bk ρ S
def mCont : SM := fun ρ S => .go .ct ρ S
def O.then (o : O) (h : SM) : O := match o with
  | .go .nx ρ S => h ρ S
  | o => o
@[simp] theorem O.then_nx (ρ : Env) (S : Store) (h : SM) : (O.go .nx ρ S).then h = h ρ S := rfl
@[simp] theorem O.then_rt (d : D) (ρ : Env) (S : Store) (h : SM) : (O.go (.rt d) ρ S).then h = .go (.rt d) ρ S := rfl
@[simp] theorem O.then_bk (ρ : Env) (S : Store) (h : SM) : (O.go .bk ρ S).then h = .go .bk ρ S := rfl
@[simp] theorem O.then_ct (ρ : Env) (S : Store) (h : SM) : (O.go .ct ρ S).then h = .go .ct ρ S := rfl
@[simp] theorem O.then_ex (e : D) (ρ : Env) (S : Store) (h : SM) : (O.go (.ex e) ρ S).then h = .go (.ex e) ρ S := rfl
@[simp] theorem O.then_stuck (h : SM) : O.stuck.then h = .stuck := rfl
def mSeq (f h : SM) : SM := fun ρ S => (f ρ S).then h
def mDrop (f : EM) : SM := fun ρ S => (f ρ S).to ρ fun _ S => .go .nx ρ S
def mRet (f : EM) : SM := fun ρ S => (f ρ S).to ρ fun d S => .go (.rt d) ρ S
def mRetN : SM := fun ρ S => .go (.rt .non) ρ S
def mIfS (c : BM) (f h : SM) : SM := fun ρ S => (c ρ S).to ρ fun b S => if b then f ρ S else h ρ S
section
variable {X : Cx} {W : WX} {st : Stmt} {rest : List Stmt} {f h : SM} {e : Expr} {fe : EM} {pos : Pos}
theorem ds_nil : DSs X W [] mNext := PSs.weak pss_nil fun Dn σ H ⟨P, ρ, F, μ, S, en, rl, k⟩ => k.here rl σ en
theorem ds_one (h1 : DS X W st f) : DSs X W [st] f := pss_one h1
theorem ds_cons (h1 : DS X W st f) (h2 : DSs X W rest h) : DSs X W (st :: rest) (mSeq f h) := by
  refine PSs.weak (pss_cons h1 h2) fun Dn σ H ⟨P, ρ, F, μ, S, en, rl, k⟩ => ?_
  refine tDS.run en rl ?_
  unfold mSeq at k
  cases q : f ρ S with
  | stuck => rw [q] at k; exact k.elim
  | go fl ρ' S' =>
    rw [q] at k
    intro F' μ' H' g1 r1
    cases fl with
    | nx => exact fun σ' en' => tDS.run en' r1 (FinS.gr g1 k)
    | rt d => exact k F' μ' H' g1 r1
    | bk => exact k F' μ' H' g1 r1
    | ct => exact k F' μ' H' g1 r1
    | ex e => exact k F' μ' H' g1 r1
theorem ds_pass : DS X W (.Pass pos) mNext := PS.weak ps_pass fun Dn σ H ⟨P, ρ, F, μ, S, en, rl, k⟩ => k.here rl σ en
theorem ds_break : DS X W (.Break pos) mBreak := PS.weak ps_break fun Dn σ H ⟨P, ρ, F, μ, S, en, rl, k⟩ => k.here rl σ en
theorem ds_cont : DS X W (.Continue pos) mCont := PS.weak ps_continue fun Dn σ H ⟨P, ρ, F, μ, S, en, rl, k⟩ => k.here rl σ en
theorem ds_expr (he : DE X W e fe) (hs : swapsWith e none pos.line X.env = pure false := by rfl) : DS X W (.Expr e pos) (mDrop fe) := by
  refine PS.weak (ps_expr he hs) fun Dn σ H ⟨P, ρ, F, μ, S, en, rl, k⟩ => ?_
  refine tD.run en rl (Fin.imp (FinS.to (rep := repD (gX X)) en k) (fun v H1 ⟨a, F1, μ1, S1, g1, r1, p1, k1⟩ => ?_) fun _ _ _ z => z)
  exact k1.here r1 σ (en.mono g1)
theorem ds_ret (he : DE X W e fe) : DS X W (.Return (some e) pos) (mRet fe) := by
  refine PS.weak (ps_ret he) fun Dn σ H ⟨P, ρ, F, μ, S, en, rl, k⟩ => ?_
  refine tD.run en rl (Fin.imp (FinS.to (rep := repD (gX X)) en k) (fun v H1 ⟨a, F1, μ1, S1, g1, r1, p1, k1⟩ => ?_) fun _ _ _ z => z)
  exact k1.here r1 v p1
theorem ds_retN : DS X W (.Return none pos) mRetN := PS.weak ps_retN fun Dn σ H ⟨P, ρ, F, μ, S, en, rl, k⟩ => k.here rl .non (by simp only [Rep])
theorem ds_if {c : Expr} {a b : List Stmt} {tc : BM} (hc : DB X W c tc) (ha : DSs X W a f) (hb : DSs X W b h) : DS X W (.If c a b pos) (mIfS tc f h) := by
  refine PS.weak (ps_if hc ha hb) fun Dn σ H ⟨P, ρ, F, μ, S, en, rl, k⟩ => ?_
  refine tDB.run en rl (Fin.imp (FinS.to (rep := repB) en k) (fun v H1 ⟨a, F1, μ1, S1, g1, r1, p1, k1⟩ => ?_) fun _ _ _ z => z)
  cases p1
  cases v with
  | true => exact iteT (tDS.run (en.mono g1) r1 k1)
  | false => exact iteF (tDS.run (en.mono g1) r1 k1)
end
/-! #### targets -/
abbrev GM := D → Env → Store → Option (Env × Store)
def tDG (g : G) (f : GM) : TG := fun v σ H Q => ∃ d P ρ F μ S ρ' S', EnvR g F μ ρ σ ∧ Rel g P F μ S H ∧ Rep g F μ d v ∧ f d ρ S = some (ρ', S') ∧ ∀ F' μ' H' σ', Gr F μ F' μ' → Rel g P F' μ' S' H' → EnvR g F' μ' ρ' σ' → Q σ' H'
def tDGs (g : G) (f : List D → Env → Store → Option (Env × Store)) : TGs := fun vs σ H Q => ∃ ds P ρ F μ S ρ' S', EnvR g F μ ρ σ ∧ Rel g P F μ S H ∧ Reps g F μ ds vs ∧ f ds ρ S = some (ρ', S') ∧ ∀ F' μ' H' σ', Gr F μ F' μ' → Rel g P F' μ' S' H' → EnvR g F' μ' ρ' σ' → Q σ' H'
abbrev DG (X : Cx) (e : Expr) (f : GM) : Prop := PG X e (tDG (gX X) f)
abbrev DGs (X : Cx) (es : List Expr) (f : List D → Env → Store → Option (Env × Store)) : Prop := PGs X es (tDGs (gX X) f)
theorem PG.weak {X : Cx} {e : Expr} {t t' : TG} (h : PG X e t) (w : ∀ v σ H Q, t' v σ H Q → t v σ H Q) : PG X e t' := ⟨fun pins s σ H v u Q I r k => h.run pins s σ H v u Q I r (w v σ H Q k)⟩
theorem PGs.weak {X : Cx} {e : List Expr} {t t' : TGs} (h : PGs X e t) (w : ∀ v σ H Q, t' v σ H Q → t v σ H Q) : PGs X e t' := ⟨fun pins s σ H v u Q I r k => h.run pins s σ H v u Q I r (w v σ H Q k)⟩
def gN (i : Nat) : GM := fun d ρ S => some (ρ.set i (some d), S)
def gNilM : List D → Env → Store → Option (Env × Store) := fun ds ρ S => match ds with
  | [] => some (ρ, S)
  | _ => none
def gConsM (f : GM) (r : List D → Env → Store → Option (Env × Store)) : List D → Env → Store → Option (Env × Store) := fun ds ρ S => match ds with
  | d :: ds => (f d ρ S).bind fun x => r ds x.1 x.2
  | [] => none
def gTupM (n : Nat) (r : List D → Env → Store → Option (Env × Store)) : GM := fun d ρ S => match d with
  | .tup l => if l.length = n then r l ρ S else none
  | .wt l => if l.length = n then r l ρ S else none
  | .lst l => if l.length = n then r l ρ S else none
  | _ => none
def mAsg (fe : EM) (gm : GM) : SM := fun ρ S => (fe ρ S).to ρ fun d S => match gm d ρ S with
  | some (ρ', S') => .go .nx ρ' S'
  | none => .stuck
section
variable {X : Cx} {W : WX} {pos : Pos} {fe : EM} {gm : GM}
theorem dg_name (i : Nat) {x : Str} (hN : X.N.Nodup) (hi : X.N[i]? = some x := by rfl) (hx : Loc X.env.scope x := by first | exact .inl rfl | exact .inr rfl) (hf : X.fn x = true ∨ X.env.scope.names.lookup x = some .local := by first | exact .inl rfl | exact .inr rfl) : DG X (.Name x pos) (gN i) :=
  PG.weak (pg_name hN hi hx hf) fun v σ H Q ⟨d, P, ρ, F, μ, S, ρ', S', en, rl, p, e, k⟩ => by
    cases e
    exact k F μ H _ (Gr.refl _ _) rl (en.set p)
theorem dgs_nil : DGs X [] gNilM := PGs.weak pgs_nil fun v σ H Q ⟨ds, P, ρ, F, μ, S, ρ', S', en, rl, p, e, k⟩ => by
  cases ds with
  | cons _ _ => cases e
  | nil =>
    cases e
    simp only [Reps] at p
    exact ⟨p, k F μ H σ (Gr.refl _ _) rl en⟩
theorem dgs_cons {e : Expr} {es : List Expr} {r : List D → Env → Store → Option (Env × Store)} (h1 : DG X e gm) (h2 : DGs X es r)
    (hs : (assignEach (e :: es) X.env).map (·.2) = assign e X.env :: (assignEach es X.env).map (·.2) := by rfl) : DGs X (e :: es) (gConsM gm r) :=
  PGs.weak (pgs_cons h1 h2 hs) fun v σ H Q ⟨ds, P, ρ, F, μ, S, ρ', S', en, rl, p, e, k⟩ => by
    cases ds with
    | nil => cases e
    | cons d ds =>
      simp only [Reps] at p
      obtain ⟨v, vs, rfl, p1, p2⟩ := p
      unfold gConsM at e
      cases q : gm d ρ S with
      | none => simp [q] at e
      | some x =>
        simp [q] at e
        refine ⟨v, vs, rfl, d, P, ρ, F, μ, S, x.1, x.2, en, rl, p1, q, fun F' μ' H' σ' g1 r1 en1 => ?_⟩
        exact ⟨ds, P, x.1, F', μ', x.2, ρ', S', en1, r1, p2.mono g1, e, fun F2 μ2 H2 σ2 g2 => k F2 μ2 H2 σ2 (g1.trans g2)⟩
theorem pg_or {X : Cx} {e : Expr} {t t' : TG} (h : PG X e t) (h' : PG X e t') : PG X e (fun v σ H Q => t v σ H Q ∨ t' v σ H Q) := ⟨fun pins s σ H v u Q I r k => by
  rcases k with k | k
  · exact h.run pins s σ H v u Q I r k
  · exact h'.run pins s σ H v u Q I r k⟩
theorem dg_tup {es : List Expr} {k n : Nat} {r : List D → Env → Store → Option (Env × Store)} (hc : X.calm = true) (h : DGs X es r)
    (hn : (assignEach es X.env).length = n := by rfl) (hst : (assignEach es X.env).findIdx? (·.1) = none := by rfl) : DG X (.Tuple es k pos) (gTupM n r) :=
  PG.weak (pg_or (pg_tup hc h hn hst) (pg_lst hc h hn hst)) fun v σ H Q ⟨d, P, ρ, F, μ, S, ρ', S', en, rl, p, e, k⟩ => by
    have sb : Gr F μ H μ := ⟨rl.sub, fun _ _ h => h⟩
    cases d <;> first | (cases e; done) | skip
    · rename_i l
      have e : (if l.length = n then r l ρ S else none) = some (ρ', S') := e
      split at e
      · rename_i hl
        simp only [Rep] at p
        obtain ⟨a, xs, rfl, ⟨hs, _⟩, hr⟩ := p
        exact .inl ⟨a, xs, rfl, sqT_mono (g := gX X) sb hs, hr.length.symm.trans hl, l, P, ρ, F, μ, S, ρ', S', en, rl, hr, e, k⟩
      · cases e
    · rename_i l
      have e : (if l.length = n then r l ρ S else none) = some (ρ', S') := e
      split at e
      · rename_i hl
        simp only [Rep] at p
        obtain ⟨a, xs, rfl, hs, hr⟩ := p
        exact .inl ⟨a, xs, rfl, sqT_mono (g := gX X) sb hs, hr.length.symm.trans hl, l, P, ρ, F, μ, S, ρ', S', en, rl, hr, e, k⟩
      · cases e
    · rename_i l
      have e : (if l.length = n then r l ρ S else none) = some (ρ', S') := e
      split at e
      · rename_i hl
        simp only [Rep] at p
        obtain ⟨a, xs, rfl, hs, hr⟩ := p
        exact .inr ⟨a, xs, rfl, sqL_mono (g := gX X) sb hs, hr.length.symm.trans hl, l, P, ρ, F, μ, S, ρ', S', en, rl, hr, e, k⟩
      · cases e
/-- target = value -/
theorem ds_asg {tg e : Expr} (hg : DG X tg gm) (he : DE X W e fe) (hs : swapsWithSole [tg] e pos.line X.env = pure false := by rfl) (hw : swappedStores [tg] e X.env = pure none := by rfl)
    (h1 : (assignEach [tg] X.env).map (·.2) = [assign tg X.env] := by rfl) : DS X W (.Assign [tg] e pos) (mAsg fe gm) := by
  refine PS.weak (ps_asg he hg hs hw h1) fun Dn σ H ⟨P, ρ, F, μ, S, en, rl, k⟩ => ?_
  refine tD.run en rl (Fin.imp (FinS.to (rep := repD (gX X)) en k) (fun v H1 ⟨a, F1, μ1, S1, g1, r1, p1, k1⟩ => ?_) fun _ _ _ z => z)
  cases q : gm a ρ S1 with
  | none => simp only [q] at k1; exact k1.elim
  | some x =>
    simp only [q] at k1
    exact ⟨a, P, ρ, F1, μ1, S1, x.1, x.2, en.mono g1, r1, p1, q, fun F' μ' H' σ' g2 r2 en2 => k1 F' μ' H' g2 r2 σ' en2⟩
/-- name = value -/
theorem ds_set (i : Nat) {x : Str} {e : Expr} {pos' : Pos} (hN : X.N.Nodup) (he : DE X W e fe) (hi : X.N[i]? = some x := by rfl) (hx : Loc X.env.scope x := by first | exact .inl rfl | exact .inr rfl) (hs : swapsWith e (some (.Name x pos')) pos.line X.env = pure false := by rfl)
    (hf : X.fn x = true ∨ X.env.scope.names.lookup x = some .local := by first | exact .inl rfl | exact .inr rfl) : DS X W (.Assign [.Name x pos'] e pos) (mAsg fe (gN i)) := by
  refine PS.weak (ps_set hN hi hx he hs hf) fun Dn σ H ⟨P, ρ, F, μ, S, en, rl, k⟩ => ?_
  refine tD.run en rl (Fin.imp (FinS.to (rep := repD (gX X)) en k) (fun v H1 ⟨a, F1, μ1, S1, g1, r1, p1, k1⟩ => ?_) fun _ _ _ z => z)
  exact k1 F1 μ1 H1 (Gr.refl _ _) r1 _ ((en.mono g1).set p1)
/-- a, b = x, y (plain names) -/
def mPar (i j : Nat) (fa fb : EM) : SM := fun ρ S => ((fa ρ S).bind fun x S => (fb ρ S).bind fun y S => .ok (x, y) S).to ρ fun z S => .go .nx ((ρ.set i (some z.1)).set j (some z.2)) S
theorem ds_par (i j : Nat) {x y : Str} {a b : Expr} {fa fb : EM} {px py pt : Pos} {kt k2 pt2} (hc : X.calm = true) (hN : X.N.Nodup) (ha : DE X W a fa) (hb : DE X W b fb) (hi : X.N[i]? = some x := by rfl) (hj : X.N[j]? = some y := by rfl) (hij : i ≠ j := by decide)
    (hx : X.env.scope.names.lookup x = some .local := by rfl) (hy : X.env.scope.names.lookup y = some .local := by rfl)
    (hw : swappedStores [.Tuple [.Name x px, .Name y py] kt pt] (.Tuple [a, b] k2 pt2) X.env = pure (some [x, y]) := by rfl)
    (hs : swapsWithSole [.Tuple [.Name x px, .Name y py] kt pt] (.Tuple [a, b] k2 pt2) pos.line X.env = pure false := by rfl)
    (hs1 : starEach [b] X.env = (false, eval b X.env) :: starEach [] X.env := by rfl) (hs2 : starEach [a, b] X.env = (false, eval a X.env) :: starEach [b] X.env := by rfl) :
    DS X W (.Assign [.Tuple [.Name x px, .Name y py] kt pt] (.Tuple [a, b] k2 pt2) pos) (mPar i j fa fb) := by
  refine PS.weak (ps_par hc hN hi hj hij hx hy (pa_cons ha (pa_cons hb pa_nil hs1) hs2) hw hs) fun Dn σ H ⟨P, ρ, F, μ, S, en, rl, k⟩ => ?_
  have kk := FinS.to (rep := fun F μ (z : D × D) (w : V × V) => Rep (gX X) F μ z.1 w.1 ∧ Rep (gX X) F μ z.2 w.2) en k
  refine tD.run en rl (Fin.imp (Fin.bind (rep := repD (gX X)) kk) (fun v H1 ⟨x, F1, μ1, S1, g1, r1, p1, k1⟩ => ?_) fun _ _ _ z => z)
  refine tD.run (en.mono g1) r1 (Fin.imp (Fin.bind (rep := repD (gX X)) k1) (fun w H2 ⟨y, F2, μ2, S2, g2, r2, p2, k2⟩ => ?_) fun _ _ _ z => z)
  obtain ⟨z, F3, μ3, S3, g3, r3, ⟨q1, q2⟩, k3⟩ := k2.here (b := (v, w)) r2 ⟨p1.mono g2, p2⟩
  exact ⟨v, w, rfl, k3 F3 μ3 H2 (Gr.refl _ _) r3 _ (((en.mono g3).set q1).set q2)⟩
/-- name op= value -/
def InD (X : Cx) (op : Operator) (m : D → D → M D) : Prop := PIp X op (fun v w H Q => ∃ x y P F μ S E, Rel (gX X) P F μ S H ∧ Rep (gX X) F μ x v ∧ Rep (gX X) F μ y w ∧ Fin (repD (gX X)) (gX X) P F μ (m x y S) Q E)
def mAug (i : Nat) (m : D → D → M D) (fe : EM) : SM := fun ρ S => ((mVar i ρ S).bind fun x S => (fe ρ S).bind fun y S => m x y S).to ρ fun z S => .go .nx (ρ.set i (some z)) S
theorem ds_aug (i : Nat) {x : Str} {e : Expr} {op : Operator} {m : D → D → M D} {pos' : Pos} (hN : X.N.Nodup) (ho : InD X op m) (he : DE X W e fe) (hi : X.N[i]? = some x := by rfl) (hx : Loc X.env.scope x := by first | exact .inl rfl | exact .inr rfl)
    (hf : X.fn x = true ∨ X.env.scope.names.lookup x = some .local := by first | exact .inl rfl | exact .inr rfl) : DS X W (.AugAssign (.Name x pos') op e pos) (mAug i m fe) := by
  refine PS.weak (ps_aug hN hi hx he ho hf) fun Dn σ H ⟨P, ρ, F, μ, S, en, rl, k⟩ => ?_
  unfold mAug mVar at k
  cases q : ρ[i]? with
  | none => simp only [q] at k; exact k.elim
  | some o =>
    cases o with
    | none => simp only [q] at k; exact k.elim
    | some d =>
      simp only [q] at k
      obtain ⟨v, h1, h2⟩ := en.at_ i d q
      refine ⟨v, h1, ?_⟩
      have kk := FinS.to (rep := repD (gX X)) en k
      refine tD.run en rl (Fin.imp (Fin.bind (rep := repD (gX X)) kk) (fun w H1 ⟨y, F1, μ1, S1, g1, r1, p1, k1⟩ => ?_) fun _ _ _ z => z)
      refine ⟨d, y, P, F1, μ1, S1, _, r1, h2.mono g1, p1, Fin.imp k1 (fun u H2 ⟨z, F2, μ2, S2, g2, r2, p2, k2⟩ => ?_) fun _ _ _ z => z⟩
      exact k2 F2 μ2 H2 (Gr.refl _ _) r2 _ ((en.mono g2).set p2)
end

/-! ### defs -/
/-- the promise of a def by its mirror -/
def spD (g : G) (n : Nat) (m : List D → M D) : Sp := fun vs H Q E => vs.length = n ∧ ∃ ds P F μ S, Rel g P F μ S H ∧ Reps g F μ ds vs ∧ Fin (repD g) g P F μ (m ds S) Q E
/-- the def at f does what the mirror does -/
structure FnD (P : Program) (w : World) (K : PySem.W.Frag) (mg : Str → Option Value) (base : Heap) (k : Nat) (f : Addr) (fd : FuncData) (ps : List Str) (m : List D → M D) : Prop where
  run : ∀ (A : Around) (outer : List PySem.Env) (s : Shared) (H : Hp) (args : Args) (us : List Value) (vs : List V) (Q : VK) (E : XK), Room k A → A.guards = some [] → Env0 P w K mg base A outer s H → BindsTo s fd args (ps.zip us) → Vals vs us →
    spD ⟨K, mg⟩ ps.length m vs H Q E → codeAny (model P w) A (.call (.ref f) args) (CR (L2.CX P w) outer P w H s Q E) s
theorem FnD.mono {P : Program} {w : World} {K : PySem.W.Frag} {mg : Str → Option Value} {base : Heap} {j k : Nat} {f : Addr} {fd : FuncData} {ps : List Str} {m : List D → M D} (F : FnD P w K mg base j f fd ps m) (h : j ≤ k) : FnD P w K mg base k f fd ps m :=
  ⟨fun A outer s H args us vs Q E hr => F.run A outer s H args us vs Q E (hr.mono h)⟩
def start0 (n : Nat) (ds : List D) : Env := ds.map some ++ List.replicate (n - ds.length) none
/-- a def's mirror: n slots, its body -/
def mFun (n : Nat) (b : SM) : List D → M D := fun ds S => match b (start0 n ds) S with
  | .go .nx _ S => .ok .non S
  | .go (.rt d) _ S => .ok d S
  | .go (.ex e) _ S => .exn e S
  | _ => .stuck
theorem env_start {g : G} {F : Hp} {μ : List Addr} {N : List Str} {ds : List D} {vs : List V} (r : Reps g F μ ds vs) : EnvR g F μ (start0 N.length ds) (start N vs) := by
  have hl := r.length
  refine ⟨by simp [start0, L2.start, hl], fun i d e => ?_⟩
  unfold start0 at e
  by_cases hi : i < ds.length
  · rw [List.getElem?_append_left (by simpa using hi), List.getElem?_map] at e
    cases q : ds[i]? with
    | none => simp [q] at e
    | some d' =>
      simp [q] at e
      subst e
      obtain ⟨v, h1, h2⟩ := r.get q
      refine ⟨v, ?_, h2⟩
      unfold L2.start
      rw [List.getElem?_append_left (by simpa using (by omega : i < vs.length)), List.getElem?_map, h1]
      rfl
  · rw [List.getElem?_append_right (by simpa using hi)] at e
    simp [List.getElem?_replicate] at e
/-- THE RULE for a def: its body's mirror -/
theorem fn_ofD {P : Program} {w : World} {K : PySem.W.Frag} {mg : Str → Option Value} {base : Heap} {k : Nat} {f : Addr} {x qual : Str} {st : Stmt} {fd : FuncData} {N ps : List Str} {b : SM} (Fn : Fun K x qual st f fd) (Sc : FnScope N ps (defScope st))
    (hbody : ∀ (cdv : Value) (A : Around) (outer : List PySem.Env) (s : Shared) (H : Hp) (E : XK) (W : WX), Room k (A.deeper (envOfC qual (defScope st) s.heap.objs.size f cdv)) → A.guards = some [] →
      Takes (cxOf (L2.CX P w) P w K mg base N qual (defScope st) f cdv A outer s H E) W → DSs (cxOf (L2.CX P w) P w K mg base N qual (defScope st) f cdv A outer s H E) W (defBody st) b) : FnD P w K mg base (k + 1) f fd ps (mFun N.length b) := by
  obtain ⟨oc, od, kV, doc, pm, an, cdv, ct, osl, rfl, lk, hcd⟩ := Fn.ex
  refine ⟨fun A outer s H args us vs Q E hr hgd e0 hb r hsp => ?_⟩
  have hl := hsp.1
  have KX : K.In s.heap := e0.mod.kin.keeps fun b o e => (e0.bs b o e).1
  have lim : s.heap.NoLimit := e0.mod.nolimit.keeps fun b o e => (e0.bs b o e).1
  have hkind : ∀ y ∈ ps.zip us, (defScope st).names.lookup y.1 = some .local ∨ ((defScope st).names.lookup y.1 = some .cell ∧ ((cellsFrom (s.heap.objs.size + 1) (defScope st).names []).lookup y.1).isSome = true) := fun ⟨n, v⟩ hy => by
    rcases Sc.par n (List.of_mem_zip hy).1 with q | q
    · exact .inl q
    · exact .inr ⟨q, PySem.W.cellsFrom_some _ _ _ (.inl q)⟩
  refine codeAny_call_function hr.depth (KX _ _ lk) rfl Sc.co Sc.gen rfl (PySem.W.codeRec_of KX hcd) (hb _ _ _ _ ?_)
  refine wpAny_newFunctionEnv_cells Sc.kind hkind fun env he s1 x => ?_
  subst he
  refine ⟨lim.keeps x.toInCall.keep, codeAny_func ?_⟩
  have tk : Takes (cxOf (L2.CX P w) P w K mg base N qual (defScope st) f cdv A outer s H E) (fun cls d _ H' => E cls d H') := takes_of rfl rfl rfl rfl
  have ht := hbody cdv A outer s H E _ (hr.deeper _) hgd tk
  have I : Inv (cxOf (L2.CX P w) P w K mg base N qual (defScope st) f cdv A outer s H E) [] (start N vs) H s1 := inv_start Sc hr.hd e0 hl r x
  obtain ⟨_, ds, Pv, F, μ, S, rl, rp, fin⟩ := hsp
  refine wpAny_mono (ht.run [] s1 (start N vs) H { nx := fun _ H' => Q .non H', rt := Q } I (tDS.run (env_start rp) rl ?_)) (fun fl s' hs => ?_) fun e s' hs => hs
  · unfold mFun at fin
    cases q : b (start0 N.length ds) S with
    | stuck => rw [q] at fin; exact fin.elim
    | go fl ρ S' =>
      rw [q] at fin
      intro F' μ' H' g1 r1
      cases fl with
      | nx => exact fun σ _ => fin F' μ' H' .non g1 r1 (by simp only [Rep])
      | rt d => exact fun v p => fin F' μ' H' v g1 r1 p
      | ex e => exact fun σ cls dd _ p => fin F' μ' H' cls dd g1 r1 p
      | bk => exact fin.elim
      | ct => exact fin.elim
  · have fin : ∀ {σ' : L2.St} {H' : Hp} {v : V} {u : Value}, Inv (cxOf (L2.CX P w) P w K mg base N qual (defScope st) f cdv A outer s H E) [] σ' H' s' → RelV v u → Q v H' → CE outer P w H s Q u s' :=
      fun {σ' H' v u} J rv q => ⟨v, H', J.os, J.bare, J.base, J.hok, rv, q⟩
    cases fl with
    | ret u =>
      obtain ⟨v, σ', H', J, rv, q⟩ := hs
      exact fin J rv q
    | next =>
      obtain ⟨σ', H', J, q⟩ := hs
      exact fin (v := V.non) (u := Value.none) J rfl q
    | brk =>
      obtain ⟨_, _, _, q⟩ := hs
      exact False.elim q
    | cont =>
      obtain ⟨_, _, _, q⟩ := hs
      exact False.elim q

/-! ### calls -/
section
variable {X : Cx} {W : WX} {k : Nat} {f : Addr} {fd : FuncData} {ps : List Str} {m : List D → M D}
theorem run_fnD {pins : List (Addr × Obj)} {σ : L2.St} {H : Hp} {s : Shared} {Q : VK} {us : List Value} {vs : List V} (F : FnD X.prog X.w X.K X.mg X.base k f fd ps m) (hr : Room k X.A) (hg : X.A.guards = some []) (hb : Binds X.K fd ps []) (tk : Takes X W)
    (I : Inv X pins σ H s) (r : Vals vs us) (h : spD (gX X) ps.length m vs H Q (fun c d H' => W c d σ H')) : wpAny (model X.prog X.w) X.A (call (.ref f) us) (EP X pins σ Q) X.xe s := by
  have hl : us.length = ps.length := by rw [← r.length]; exact h.1
  have b := hb s us I.kIn (by rw [List.append_nil]; exact hl)
  rw [List.append_nil] at b
  refine wpAny_call (codeAny_mono (F.run X.A X.stack s H ⟨us, []⟩ us vs Q _ hr hg I.env0 b r h) fun r s' hq => ?_)
  cases r with
  | error e => exact passAt tk σ pins H s e s' I hq
  | ok fl =>
    cases fl with
    | ret u => exact I.after hq
    | next => exact False.elim hq
    | brk => exact False.elim hq
    | cont => exact False.elim hq
end
/-- the module's name x is a def of n parameters that does what m does -/
structure Cal (P : Program) (w : World) (K : PySem.W.Frag) (mg : Str → Option Value) (base : Heap) (k : Nat) (x : Str) (n : Nat) (m : List D → M D) : Prop where
  ex : ∃ f fd ps, mg x = some (.ref f) ∧ PySem.W.keepIn K (.ref f) = true ∧ Binds K fd ps [] ∧ FnD P w K mg base k f fd ps m ∧ ps.length = n
theorem Cal.mono {P : Program} {w : World} {K : PySem.W.Frag} {mg : Str → Option Value} {base : Heap} {j k n : Nat} {x : Str} {m : List D → M D} (c : Cal P w K mg base j x n m) (h : j ≤ k) : Cal P w K mg base k x n m := by
  obtain ⟨f, fd, ps, h1, h2, h3, h4, h5⟩ := c.ex
  exact ⟨f, fd, ps, h1, h2, h3, h4.mono h, h5⟩
def mCall (n : Nat) (m : List D → M D) (fa : AM) : EM := fun ρ S => (fa ρ S).bind fun ds S => if ds.length = n then m ds S else .stuck
section
variable {X : Cx} {W : WX} {k n : Nat} {x : Str} {m : List D → M D} {e : Expr} {es : List Expr} {fa : AM} {p pos : Pos}
theorem d_call (c : Cal X.prog X.w X.K X.mg X.base k x n m) (hr : Room k X.A) (hg : X.A.guards = some []) (tk : Takes X W) (ha : DA X W (e :: es) fa) (hgl : Gl X x := by rfl) (hdb : (x == ("__debug__" : Str)) = false := by decide)
    (he : starEach (e :: es) X.env = (false, eval e X.env) :: starEach es X.env := by rfl) (hpl : (backTo pos (starEach es X.env)).any (·.1) = false := by rfl) : DE X W (.Call (.Name x p) (e :: es) [] pos) (mCall n m fa) := by
  obtain ⟨f, fd, ps, hm, hk, hb, F, hn⟩ := c.ex
  refine ⟨fun pins s σ H Q I h => ?_⟩
  obtain ⟨P, ρ, Fz, μ, S, en, rl, h⟩ := h
  refine wpAny_Call_Name_kw (ld_glob I hgl hm ?_ hdb)
  refine PySem.W.callWith_K (h₀ := X.base) I.ok.mod.kin hk (thn (ha.run pos pins s σ H _ I (tDA.run en rl (Fin.imp (Fin.bind (rep := repA (gX X)) h) (fun vs H1 k1 => k1) fun _ _ _ z => z))) fun us s1 ⟨vs, H1, I1, r, q⟩ => ⟨I1.kIn, ?_⟩) he hpl
  obtain ⟨ds, F1, μ1, S1, g1, r1, p1, k1⟩ := q
  have hl : ds.length = n := by
    by_cases z : ds.length = n
    · exact z
    · rw [if_neg z] at k1; exact k1.elim
  rw [if_pos hl] at k1
  exact run_fnD F hr hg hb tk I1 r ⟨by rw [← p1.length, hl, hn], ds, P, F1, μ1, S1, r1, p1, k1⟩
end
end DL

/-! The data layer, 3: operators, comparisons. -/
namespace DL
open PySem PySem.Spec PyProof.Rows L2

theorem Rel.gr0 {g : G} {P F : Hp} {μ : List Addr} {S : Store} {H : Hp} (r : Rel g P F μ S H) : Gr F μ H μ := ⟨r.sub, fun _ _ h => h⟩
section
variable {g : G} {P F : Hp} {μ : List Addr} {S : Store} {H : Hp} {E : XK}
theorem rep_int {i : Int} : Rep g F μ (.int i) (.int i) := by simp only [Rep]
theorem rep_bl {i : Bool} : Rep g F μ (.bl i) (.bl i) := by simp only [Rep]
theorem rep_str {i : Str} : Rep g F μ (.str i) (.str i) := by simp only [Rep]
theorem rep_non : Rep g F μ .non .non := by simp only [Rep]
theorem Rep.int {i : Int} {v : V} (h : Rep g F μ (.int i) v) : v = .int i := by simpa only [Rep] using h
theorem Rep.bl {i : Bool} {v : V} (h : Rep g F μ (.bl i) v) : v = .bl i := by simpa only [Rep] using h
theorem Rep.str {i : Str} {v : V} (h : Rep g F μ (.str i) v) : v = .str i := by simpa only [Rep] using h
theorem Rep.non {v : V} (h : Rep g F μ .non v) : v = .non := by simpa only [Rep] using h
theorem Rep.tup (r : Rel g P F μ S H) {l : List D} {v : V} (h : Rep g F μ (.tup l) v) : ∃ a xs, v = .ref a ∧ SqT g.K H a xs ∧ Reps g F μ l xs := by
  simp only [Rep] at h
  obtain ⟨a, xs, e, ⟨h1, _⟩, h2⟩ := h
  exact ⟨a, xs, e, sqT_mono r.gr0 h1, h2⟩
theorem Rep.tupN (r : Rel g P F μ S H) {l : List D} {v : V} (h : Rep g F μ (.tup l) v) : ∃ a xs, v = .ref a ∧ (SqT g.K H a xs ∧ DN g H a) ∧ Reps g F μ l xs := by
  simp only [Rep] at h
  obtain ⟨a, xs, e, ⟨h1, h3⟩, h2⟩ := h
  exact ⟨a, xs, e, ⟨sqT_mono r.gr0 h1, dn_mono r.gr0 h3⟩, h2⟩
theorem Rep.wt (r : Rel g P F μ S H) {l : List D} {v : V} (h : Rep g F μ (.wt l) v) : ∃ a xs, v = .ref a ∧ SqT g.K H a xs ∧ Reps g F μ l xs := by
  simp only [Rep] at h
  obtain ⟨a, xs, e, h1, h2⟩ := h
  exact ⟨a, xs, e, sqT_mono r.gr0 h1, h2⟩
theorem Rep.lst (r : Rel g P F μ S H) {l : List D} {v : V} (h : Rep g F μ (.lst l) v) : ∃ a xs, v = .ref a ∧ SqL g.K H a xs ∧ Reps g F μ l xs := by
  simp only [Rep] at h
  obtain ⟨a, xs, e, h1, h2⟩ := h
  exact ⟨a, xs, e, sqL_mono r.gr0 h1, h2⟩
/-- a place that holds a list -/
theorem Rep.refL (r : Rel g P F μ S H) {n : Nat} {l : List D} {v : V} (h : Rep g F μ (.ref n) v) (e : S[n]? = some (.lst l)) : ∃ a xs, v = .ref a ∧ μ[n]? = some a ∧ H a = some (.lst xs) ∧ Reps g F μ l xs := by
  simp only [Rep] at h
  obtain ⟨p, h1, h2⟩ := h
  rcases r.live n _ p e h1 with ⟨z, _⟩ | ⟨u, f, hu, xs, hx, k⟩
  · cases z
  · subst hx
    exact ⟨p, xs, h2, h1, hu, k⟩
/-- a new tuple, a new list -/
theorem Fin.newT {l : List D} {xs : List V} {p : Addr} {Q : VK} (k : Fin (repD g) g P F μ (.ok (.tup l) S) Q E) (r : Rel g P F μ S H) (rp : Reps g F μ l xs) (hp : H p = none) {ob : Obj} (ho : ob.dict = none) : Q (.ref p) (upd H p (.frz ob (.tup xs))) := by
  obtain ⟨r1, g1⟩ := r.froz (o := .frz ob (.tup xs)) hp
  exact (k.gr g1).here r1 (by simp only [Rep]; exact ⟨p, xs, rfl, ⟨.inl (.inr ⟨_, upd_same⟩), ⟨ob, ho, .inl ⟨_, upd_same⟩⟩⟩, rp.mono g1⟩)
theorem Fin.newL {l : List D} {xs : List V} {p : Addr} {Q : VK} (k : Fin (repD g) g P F μ (.ok (.lst l) S) Q E) (r : Rel g P F μ S H) (rp : Reps g F μ l xs) (hp : H p = none) : Q (.ref p) (upd H p (.lst xs)) := by
  obtain ⟨r1, g1⟩ := r.froz (o := .lst xs) hp
  exact (k.gr g1).here r1 (by simp only [Rep]; exact ⟨p, xs, rfl, .inl (.inl upd_same), rp.mono g1⟩)
end

/-! ### what a list or tuple holds -/
/-- the items of a list (by value or at a place) -/
def lstOf (d : D) (S : Store) : Option (List D) := match d with
  | .lst l => some l
  | .ref n => match S[n]? with
    | some (.lst l) => some l
    | _ => none
  | _ => none
theorem lstOf_rep {g : G} {P F : Hp} {μ : List Addr} {S : Store} {H : Hp} (r : Rel g P F μ S H) {d : D} {l : List D} {v : V} (e : lstOf d S = some l) (h : Rep g F μ d v) : ∃ a xs, v = .ref a ∧ SqL g.K H a xs ∧ Reps g F μ l xs := by
  unfold lstOf at e
  split at e
  · cases e; exact h.lst r
  · split at e
    · cases e
      rename_i q
      obtain ⟨a, xs, h1, _, h2, h3⟩ := h.refL r q
      exact ⟨a, xs, h1, .of h2, h3⟩
    · cases e
  · cases e
def seqOf (d : D) (S : Store) : Option (List D) := match d with
  | .tup l => some l
  | .wt l => some l
  | d => lstOf d S
theorem seqOf_rep {g : G} {P F : Hp} {μ : List Addr} {S : Store} {H : Hp} (r : Rel g P F μ S H) {d : D} {l : List D} {v : V} (e : seqOf d S = some l) (h : Rep g F μ d v) : ∃ a xs, v = .ref a ∧ (SqL g.K H a xs ∨ SqT g.K H a xs) ∧ Reps g F μ l xs := by
  unfold seqOf at e
  split at e
  · cases e
    obtain ⟨a, xs, h1, h2, h3⟩ := h.tup r
    exact ⟨a, xs, h1, .inr h2, h3⟩
  · cases e
    obtain ⟨a, xs, h1, h2, h3⟩ := h.wt r
    exact ⟨a, xs, h1, .inr h2, h3⟩
  · obtain ⟨a, xs, h1, h2, h3⟩ := lstOf_rep r e h
    exact ⟨a, xs, h1, .inl h2, h3⟩
@[simp] theorem lstOf_lst (l : List D) (S : Store) : lstOf (.lst l) S = some l := rfl
@[simp] theorem seqOf_lst (l : List D) (S : Store) : seqOf (.lst l) S = some l := rfl
@[simp] theorem seqOf_tup (l : List D) (S : Store) : seqOf (.tup l) S = some l := rfl
@[simp] theorem seqOf_wt (l : List D) (S : Store) : seqOf (.wt l) S = some l := rfl
@[simp] theorem seqOf_ref (n : Nat) (S : Store) : seqOf (.ref n) S = lstOf (.ref n) S := rfl
theorem lstOf_ref {n : Nat} {S : Store} {l : List D} (h : S[n]? = some (.lst l)) : lstOf (.ref n) S = some l := by simp [lstOf, h]

/-! ### arithmetic -/
def b2 (b : Bool) : Int := if b then 1 else 0
def addD : D → D → M D
  | .int i, .int j, S => .ok (.int (i + j)) S
  | .int i, .bl j, S => .ok (.int (i + b2 j)) S
  | .str x, .str y, S => if x.length + y.length ≤ sizeLine then .ok (.str (x ++ y)) S else .stuck
  | .tup x, .tup y, S => if x.length + y.length ≤ sizeLine then .ok (.tup (x ++ y)) S else .stuck
  | x, y, S => match lstOf x S, lstOf y S with
    | some a, some b => if a.length + b.length ≤ sizeLine then .ok (.lst (a ++ b)) S else .stuck
    | _, _ => .stuck
def subD : D → D → M D
  | .int i, .int j, S => .ok (.int (i - j)) S
  | .bl i, .bl j, S => .ok (.int (b2 i - b2 j)) S
  | _, _, _ => .stuck
def mulD : D → D → M D
  | .int i, .int j, S => if i.natAbs.log2 + j.natAbs.log2 < 1000000 then .ok (.int (i * j)) S else .stuck
  | _, _, _ => .stuck
def fdivD : D → D → M D
  | .int i, .int j, S => if j ≠ 0 ∧ j.natAbs.log2 < 9000 then .ok (.int (i.fdiv j)) S else .stuck
  | _, _, _ => .stuck
def modD : D → D → M D
  | .int i, .int j, S => if j ≠ 0 then .ok (.int (i.fmod j)) S else .stuck
  | _, _, _ => .stuck
def powD : D → D → M D
  | .int i, .int j, S => if 0 ≤ j ∧ j ≤ 1000000 ∧ i.natAbs < 2 ^ 64 then .ok (.int (i ^ j.toNat)) S else .stuck
  | _, _, _ => .stuck
def negD : D → M D
  | .int i, S => .ok (.int (-i)) S
  | _, _ => .stuck
section
variable {X : Cx}
theorem op_catQ : OpR X (binaryOp .Add) (fun x y H Q => ∃ l b xs zs, x = .ref l ∧ y = .ref b ∧ SqL X.K H l xs ∧ SqL X.K H b zs ∧ xs.length + zs.length ≤ sizeLine ∧ ∀ p, H p = none → Q (.ref p) (upd H p (.lst (xs ++ zs)))) := by
  intro pins s σ H x y v u Q I rx ry h
  obtain ⟨l, b, xs, zs, rfl, rfl, hH, hB, hz, q⟩ := h
  cases rx
  cases ry
  obtain ⟨its, r, ⟨o, n, e, hc, hd, hs⟩, z⟩ := I.list hH
  obtain ⟨its2, r2, ⟨o2, n2, e2, hc2, hd2, hs2⟩, z2⟩ := I.list hB
  have l1 := r.length
  have l2 := r2.length
  obtain ⟨oc, od, oda, osl⟩ := o
  obtain ⟨oc2, od2, oda2, osl2⟩ := o2
  dsimp only at hc hd hs hc2 hd2 hs2
  subst hc hd hs hc2 hd2 hs2
  have ea : its.toArray ++ its2.toArray = (its ++ its2).toArray := by simp
  refine concat_meets ⟨_, e, rfl⟩ ⟨_, e2, rfl⟩ noFill_list_add seq_list_add PySem.F.slot_list_add PySem.F.entry_list_add (PySem.F.args_list_add_2 _ _) (list_addW l b its.toArray its2.toArray n n2 none none osl osl2 (by rw [List.size_toArray, List.size_toArray]; omega)) ⟨e, e2, ?_⟩
  rw [ea]
  exact ⟨.ref _, _, I.lnew (t' := s.toks) (r.append r2) (by rw [List.length_append]; omega), rfl, q _ I.fresh⟩
/-- () + t is t itself -/
theorem op_catT0 : OpR X (binaryOp .Add) (fun x y H Q => ∃ l b zs, x = .ref l ∧ y = .ref b ∧ SqT X.K H l [] ∧ SqT X.K H b zs ∧ Q (.ref b) H) := by
  intro pins s σ H x y v u Q I rx ry h
  obtain ⟨l, b, zs, rfl, rfl, hH, hB, q⟩ := h
  cases rx
  cases ry
  obtain ⟨its, r, ⟨o, e, hc, n, hs⟩, z⟩ := I.tuple hH
  obtain ⟨its2, r2, ⟨o2, e2, hc2, n2, hs2⟩, z2⟩ := I.tuple hB
  cases r
  obtain ⟨oc, od, oda, osl⟩ := o
  obtain ⟨oc2, od2, oda2, osl2⟩ := o2
  dsimp only at hc hs hc2 hs2
  subst hc hs hc2 hs2
  refine concat_meets ⟨_, e, rfl⟩ ⟨_, e2, rfl⟩ noFill_tuple_add seq_tuple_add PySem.F.slot_tuple_add PySem.F.entry_tuple_add (PySem.F.args_tuple_add_2 _ _) (tuple_addW0 l b #[] its2.toArray n n2 od od2 osl osl2 rfl) ⟨e, e2, ?_⟩
  exact ⟨.ref _, _, I.tok _, rfl, q⟩
/-- a new tuple, whose object is known -/
theorem tup_laid {pins : List (Addr × Obj)} {σ : L2.St} {H : Hp} {s : Shared} {t' : Nat} {xs : List V} {its : List Value} (I : Inv X pins σ H s) (r : Vals xs its) (z : xs.length ≤ sizeLine) :
    Inv X pins σ (upd H s.heap.objs.size (.frz { cls := .type "tuple", data := .seq its.toArray } (.tup xs))) { s with heap := s.heap.push { cls := .type "tuple", data := .seq its.toArray }, toks := t' } :=
  I.laid (fun _ _ e => Heap.get?_push_of_some _ e) (Nat.le_refl _) ⟨Heap.get?_push_size _ rfl, z, its, r, IsTup.new _ _⟩
theorem op_catN : OpR X (binaryOp .Add) (fun x y H Q => ∃ a b xs ys, x = .ref a ∧ y = .ref b ∧ SqT X.K H a xs ∧ SqT X.K H b ys ∧ xs ≠ [] ∧ xs.length + ys.length ≤ sizeLine ∧ (ys = [] → Q (.ref a) H) ∧ ∀ (p : Addr) (ob : Obj), H p = none → ob.dict = none → Q (.ref p) (upd H p (.frz ob (.tup (xs ++ ys))))) := by
  intro pins s σ H x y v u Q I rx ry ⟨a, b, xs, ys, e1, e2, ha, hb, hx, hz, q1, q2⟩
  subst e1 e2
  cases rx
  cases ry
  obtain ⟨its, r1, p1, _⟩ := I.tuple ha
  obtain ⟨its2, r2, p2, _⟩ := I.tuple hb
  exact HT.cat_tup p1 p2 (fun z => hx (r1.nil_iff.mp z)) (fun z => ⟨.ref a, H, I, rfl, q1 (r2.nil_iff.mp z)⟩)
    (fun _ => ⟨.ref s.heap.objs.size, _, tup_laid (t' := s.toks) I (r1.append r2) (by simpa using hz), rfl, q2 _ _ (I.hok.fresh (Nat.le_refl _)) rfl⟩) (by rw [← r1.length, ← r2.length]; exact hz)
theorem od_sub : OpD X (binaryOp .Sub) subD := by
  intro pins s σ H v w u u' Q I rv rw h
  obtain ⟨x, y, P, F, μ, S, E, rl, rx, ry, k⟩ := h
  unfold subD at k
  split at k
  · exact op_sub pins s σ H _ _ _ _ Q I rv rw ⟨_, _, rx.int, ry.int, k.here rl rep_int⟩
  · have e1 := rx.bl
    have e2 := ry.bl
    subst e1 e2
    cases rv
    cases rw
    exact sub_bool ⟨.int _, H, I.tok _, ⟨_, rfl⟩, k.here rl rep_int⟩
  · exact k.elim
theorem od_mul : OpD X (binaryOp .Mult) mulD := by
  intro pins s σ H v w u u' Q I rv rw h
  obtain ⟨x, y, P, F, μ, S, E, rl, rx, ry, k⟩ := h
  unfold mulD at k
  split at k
  · split at k
    · rename_i hc
      exact op_mulW pins s σ H _ _ _ _ Q I rv rw ⟨_, _, rx.int, ry.int, hc, k.here rl rep_int⟩
    · exact k.elim
  · exact k.elim
theorem op_fdivX : OpR X (binaryOp .FloorDiv) (rI (fun _ j => j ≠ 0 ∧ j.natAbs.log2 < 9000) fun i j => .int (i.fdiv j)) := opI fun i j _ _ _ _ _ hc q => floordiv_int hc.1 q (.inl (PyProof.noPylong_of_log2 hc.2))
theorem od_fdiv : OpD X (binaryOp .FloorDiv) fdivD := by
  intro pins s σ H v w u u' Q I rv rw h
  obtain ⟨x, y, P, F, μ, S, E, rl, rx, ry, k⟩ := h
  unfold fdivD at k
  split at k
  · split at k
    · rename_i hc
      exact op_fdivX pins s σ H _ _ _ _ Q I rv rw ⟨_, _, rx.int, ry.int, hc, k.here rl rep_int⟩
    · exact k.elim
  · exact k.elim
theorem od_mod : OpD X (binaryOp .Mod) modD := by
  intro pins s σ H v w u u' Q I rv rw h
  obtain ⟨x, y, P, F, μ, S, E, rl, rx, ry, k⟩ := h
  unfold modD at k
  split at k
  · split at k
    · rename_i hc
      exact op_modN pins s σ H _ _ _ _ Q I rv rw ⟨_, _, rx.int, ry.int, hc, k.here rl rep_int⟩
    · exact k.elim
  · exact k.elim
theorem od_pow : OpD X (binaryOp .Pow) powD := by
  intro pins s σ H v w u u' Q I rv rw h
  obtain ⟨x, y, P, F, μ, S, E, rl, rx, ry, k⟩ := h
  unfold powD at k
  split at k
  · split at k
    · rename_i hc
      exact op_pow pins s σ H _ _ _ _ Q I rv rw ⟨_, _, rx.int, ry.int, hc, k.here rl rep_int⟩
    · exact k.elim
  · exact k.elim
theorem ud_neg : UnD X (unaryOp .USub) negD := by
  intro pins s σ H v u Q I rv h
  obtain ⟨x, P, F, μ, S, E, rl, rx, k⟩ := h
  unfold negD at k
  split at k
  · exact un_neg pins s σ H _ _ Q I rv ⟨_, rx.int, k.here rl rep_int⟩
  · exact k.elim
theorem od_add : OpD X (binaryOp .Add) addD := by
  intro pins s σ H v w u u' Q I rv rw h
  obtain ⟨x, y, P, F, μ, S, E, rl, rx, ry, k⟩ := h
  unfold addD at k
  split at k
  · exact op_add pins s σ H _ _ _ _ Q I rv rw ⟨_, _, rx.int, ry.int, k.here rl rep_int⟩
  · exact op_add_ib pins s σ H _ _ _ _ Q I rv rw ⟨_, _, rx.int, ry.bl, k.here rl rep_int⟩
  · split at k
    · rename_i hc
      exact op_add_str pins s σ H _ _ _ _ Q I rv rw ⟨_, _, rx.str, ry.str, hc, k.here rl rep_str⟩
    · exact k.elim
  · split at k
    · rename_i hc
      obtain ⟨a, xs, e1, h1, p1⟩ := rx.tup rl
      obtain ⟨b, ys, e2, h2, p2⟩ := ry.tup rl
      have l1 := p1.length
      have l2 := p2.length
      by_cases hx : xs = []
      · subst hx
        rename_i x' y'
        have ex : x' = [] := List.eq_nil_of_length_eq_zero l1
        subst ex
        exact op_catT0 pins s σ H _ _ _ _ Q I rv rw ⟨a, b, ys, e1, e2, h1, h2, k.here rl (by rw [List.nil_append, ← e2]; exact ry)⟩
      · refine op_catN pins s σ H _ _ _ _ Q I rv rw ⟨a, b, xs, ys, e1, e2, h1, h2, hx, by omega, fun hy => ?_, fun p ob hp ho => k.newT rl (p1.append p2) hp ho⟩
        subst hy
        rename_i x' y'
        have ey : y' = [] := List.eq_nil_of_length_eq_zero l2
        subst ey
        exact k.here rl (by rw [List.append_nil, ← e1]; exact rx)
    · exact k.elim
  · split at k
    · rename_i a b ea eb
      split at k
      · rename_i hc
        obtain ⟨a', xs, e1, h1, p1⟩ := lstOf_rep rl ea rx
        obtain ⟨b', ys, e2, h2, p2⟩ := lstOf_rep rl eb ry
        have l1 := p1.length
        have l2 := p2.length
        exact op_catQ pins s σ H _ _ _ _ Q I rv rw ⟨a', b', xs, ys, e1, e2, h1, h2, by omega, fun p hp => k.newL rl (p1.append p2) hp⟩
      · exact k.elim
    · exact k.elim
end

/-! ### comparisons of ints -/
def cmpD (p : Int → Int → Bool) : D → D → M D
  | .int i, .int j, S => .ok (.bl (p i j)) S
  | _, _, _ => .stuck
abbrev ltD : D → D → M D := cmpD fun i j => decide (i < j)
abbrev leD : D → D → M D := cmpD fun i j => decide (i ≤ j)
abbrev gtD : D → D → M D := cmpD fun i j => decide (j < i)
abbrev geD : D → D → M D := cmpD fun i j => decide (j ≤ i)
section
variable {X : Cx}
theorem od_cmp {op : CmpOp} {p : Int → Int → Bool} (h0 : OpR X (compareOp op) (rI0 fun i j => .bl (p i j))) : OpD X (compareOp op) (cmpD p) := by
  intro pins s σ H v w u u' Q I rv rw h
  obtain ⟨x, y, P, F, μ, S, E, rl, rx, ry, k⟩ := h
  unfold cmpD at k
  split at k
  · exact h0 pins s σ H _ _ _ _ Q I rv rw ⟨_, _, rx.int, ry.int, k.here rl rep_bl⟩
  · exact k.elim
theorem od_lt : OpD X (compareOp .Lt) ltD := od_cmp op_lt
theorem od_le : OpD X (compareOp .LtE) leD := od_cmp op_le
theorem od_gt : OpD X (compareOp .Gt) gtD := od_cmp op_gt
theorem od_ge : OpD X (compareOp .GtE) geD := od_cmp op_ge
end

/-! ### equality of data -/
mutual
def toPy : D → PyData
  | .non => .none
  | .bl b => .bool b
  | .int i => .int i
  | .str x => .str x
  | .tup l => .tuple (toPys l)
  | .lst l => .list (toPys l)
  | _ => .none
def toPys : List D → List PyData
  | [] => []
  | d :: ds => toPy d :: toPys ds
end
mutual
/-- plain data, nested less than n deep -/
def plain : Nat → D → Bool
  | _, .non => true
  | _, .bl _ => true
  | _, .int _ => true
  | _, .str x => PyData.strOk x
  | 0, .tup _ => false
  | n + 1, .tup l => plains n l
  | 0, .lst _ => false
  | n + 1, .lst l => plains n l
  | _, _ => false
def plains : Nat → List D → Bool
  | _, [] => true
  | n, d :: ds => plain n d && plains n ds
end
mutual
def eqB : D → D → Bool
  | .non, .non => true
  | .bl a, .bl b => a == b
  | .bl a, .int j => b2 a == j
  | .int i, .bl b => i == b2 b
  | .int i, .int j => i == j
  | .str x, .str y => x == y
  | .tup l, .tup k => eqBs l k
  | .lst l, .lst k => eqBs l k
  | _, _ => false
def eqBs : List D → List D → Bool
  | [], [] => true
  | x :: xs, y :: ys => eqB x y && eqBs xs ys
  | _, _ => false
end
mutual
theorem plain_lay : ∀ (n : Nat) (d : D), plain n d = true → (toPy d).canLay0 = true ∧ (toPy d).depth ≤ n
  | n, .non, _ => ⟨rfl, Nat.zero_le _⟩
  | n, .bl _, _ => ⟨rfl, Nat.zero_le _⟩
  | n, .int _, _ => ⟨rfl, Nat.zero_le _⟩
  | n, .str x, h => ⟨by simpa [plain, toPy, PyData.canLay0] using h, Nat.zero_le _⟩
  | 0, .tup _, h => by simp [plain] at h
  | n + 1, .tup l, h => by
    simp only [plain] at h
    obtain ⟨h1, h2⟩ := plains_lay n l h
    exact ⟨by simpa [toPy, PyData.canLay0] using h1, by simp [toPy, PyData.depth]; exact h2⟩
  | 0, .lst _, h => by simp [plain] at h
  | n + 1, .lst l, h => by
    simp only [plain] at h
    obtain ⟨h1, h2⟩ := plains_lay n l h
    exact ⟨by simpa [toPy, PyData.canLay0] using h1, by simp [toPy, PyData.depth]; exact h2⟩
  | _, .obj .., h => by simp [plain] at h
  | _, .exc .., h => by simp [plain] at h
  | _, .ref .., h => by simp [plain] at h
theorem plains_lay : ∀ (n : Nat) (ds : List D), plains n ds = true → PyData.canLayAll0 (toPys ds) = true ∧ PyData.depthAll (toPys ds) ≤ n
  | n, [], _ => ⟨rfl, Nat.zero_le _⟩
  | n, d :: ds, h => by
    simp only [plains, Bool.and_eq_true] at h
    obtain ⟨h1, h2⟩ := plain_lay n d h.1
    obtain ⟨h3, h4⟩ := plains_lay n ds h.2
    exact ⟨by simp [toPys, PyData.canLayAll0, h1, h3], by simp only [toPys, PyData.depthAll]; omega⟩
end
theorem plain_shaped {d : D} (h : plain 64 d = true) : SeqAt.shaped (toPy d) = true := by
  obtain ⟨h1, h2⟩ := plain_lay 64 d h
  unfold SeqAt.shaped
  simp [h1, h2]
mutual
theorem plain_dp {g : G} {P F : Hp} {μ : List Addr} {S : Store} {H : Hp} (r : Rel g P F μ S H) : ∀ (n : Nat) (d : D) {v : V}, plain n d = true → Rep g F μ d v → Dp g.K H v (toPy d)
  | _, .non, _, _, h => by rw [h.non]; exact .non
  | _, .bl b, _, _, h => by rw [h.bl]; exact .bl b
  | _, .int b, _, _, h => by rw [h.int]; exact .int b
  | _, .str b, _, _, h => by rw [h.str]; exact .str b
  | 0, .tup _, _, h, _ => by simp [plain] at h
  | n + 1, .tup l, _, h, k => by
    simp only [plain] at h
    obtain ⟨a, xs, rfl, hs, hr⟩ := k.tup r
    simp only [toPy]
    exact .tup hs (plains_dp r n l h hr)
  | 0, .lst _, _, h, _ => by simp [plain] at h
  | n + 1, .lst l, _, h, k => by
    simp only [plain] at h
    obtain ⟨a, xs, rfl, hs, hr⟩ := k.lst r
    simp only [toPy]
    exact .lst hs (plains_dp r n l h hr)
  | _, .obj .., _, h, _ => by simp [plain] at h
  | _, .exc .., _, h, _ => by simp [plain] at h
  | _, .ref .., _, h, _ => by simp [plain] at h
theorem plains_dp {g : G} {P F : Hp} {μ : List Addr} {S : Store} {H : Hp} (r : Rel g P F μ S H) : ∀ (n : Nat) (ds : List D) {vs : List V}, plains n ds = true → Reps g F μ ds vs → DpAll g.K H vs (toPys ds)
  | _, [], _, _, k => by simp only [Reps] at k; subst k; exact .nil
  | n, d :: ds, _, h, k => by
    simp only [plains, Bool.and_eq_true] at h
    simp only [Reps] at k
    obtain ⟨v, vs, rfl, k1, k2⟩ := k
    exact .cons (plain_dp r n d h.1 k1) (plains_dp r n ds h.2 k2)
end
mutual
theorem eqv_eqB : ∀ (n m : Nat) (x y : D), plain n x = true → plain m y = true → PyData.eqv (toPy x) (toPy y) = eqB x y
  | n, m, x, y, hx, hy => by
    cases x <;> cases y <;> first
      | (simp [plain] at hx; done)
      | (simp [plain] at hy; done)
      | (simp [toPy, PyData.eqv, eqB, b2]; done)
      | skip
    · rename_i l k
      cases n with
      | zero => simp [plain] at hx
      | succ n =>
        cases m with
        | zero => simp [plain] at hy
        | succ m =>
          simp only [plain] at hx hy
          simp only [toPy, PyData.eqv, eqB]
          exact eqv_eqBs n m l k hx hy
    · rename_i l k
      cases n with
      | zero => simp [plain] at hx
      | succ n =>
        cases m with
        | zero => simp [plain] at hy
        | succ m =>
          simp only [plain] at hx hy
          simp only [toPy, PyData.eqv, eqB]
          exact eqv_eqBs n m l k hx hy
theorem eqv_eqBs : ∀ (n m : Nat) (xs ys : List D), plains n xs = true → plains m ys = true → PyData.eqvAll (toPys xs) (toPys ys) = eqBs xs ys
  | n, m, [], [], _, _ => by simp [toPys, PyData.eqvAll, eqBs]
  | n, m, [], _ :: _, _, _ => by simp [toPys, PyData.eqvAll, eqBs]
  | n, m, _ :: _, [], _, _ => by simp [toPys, PyData.eqvAll, eqBs]
  | n, m, x :: xs, y :: ys, hx, hy => by
    simp only [plains, Bool.and_eq_true] at hx hy
    simp only [toPys, PyData.eqvAll, eqBs, eqv_eqB n m x y hx.1 hy.1, eqv_eqBs n m xs ys hx.2 hy.2]
end
end DL

/-! The data layer, 4: displays, == and in, places, slices, built-ins. -/
namespace DL
open PySem PySem.Spec PyProof.Rows L2

/-! ### displays -/
def mTup (fa : AM) : EM := fun ρ S => (fa ρ S).bind fun l S => if l.length ≤ sizeLine then .ok (.tup l) S else .stuck
def mLst (fa : AM) : EM := fun ρ S => (fa ρ S).bind fun l S => if l.length ≤ sizeLine then .ok (.lst l) S else .stuck
/-- a list that will change: a place of the store -/
def mNew (fa : AM) : EM := fun ρ S => (fa ρ S).bind fun l S => if l.length ≤ sizeLine then .ok (.ref S.length) (S ++ [.lst l]) else .stuck
/-- the list at a place will not change any more -/
def frzD : D → M D
  | .ref n, S => match S[n]? with
    | some (.lst l) => .ok (.lst l) (S.set n .dead)
    | some (.ins c ns ds) => .ok (.obj c ns ds) (S.set n .dead)
    | _ => .stuck
  | _, _ => .stuck
def mFrz (f : EM) : EM := fun ρ S => (f ρ S).bind frzD
section
variable {X : Cx} {W : WX} {es : List Expr} {fa : AM} {pos : Pos} {e : Expr} {fe : EM}
theorem pe_tupN {t : TA} {x1} (h : PA X es t) : PE X (.Tuple es x1 pos) (fun σ H Q => t σ H fun xs H1 => xs.length ≤ sizeLine ∧ ∀ (p : Addr) (ob : Obj), H1 p = none → ob.dict = none → Q (.ref p) (upd H1 p (.frz ob (.tup xs)))) :=
  ⟨fun pins s σ H Q I hq => wpAny_Tuple_spliced (thn (h.run pos pins s σ H _ I hq) fun us s1 ⟨xs, H1, I1, r, z, q⟩ =>
    ⟨by rw [← r.length]; exact z, .ref s1.heap.objs.size, _, tup_laid (t' := s1.toks) I1 r z, rfl, q _ _ (I1.hok.fresh (Nat.le_refl _)) rfl⟩)⟩
theorem d_tup {x1} (h : DA X W es fa) : DE X W (.Tuple es x1 pos) (mTup fa) := by
  refine PE.weak (pe_tupN h) fun σ H Q ⟨P, ρ, F, μ, S, en, rl, k⟩ => ?_
  refine tDA.run en rl (Fin.imp (Fin.bind (rep := repA (gX X)) k) (fun vs H1 ⟨a, F1, μ1, S1, g1, r1, p1, k1⟩ => ?_) fun _ _ _ z => z)
  split at k1
  · rename_i hl
    exact ⟨by rw [← p1.length]; exact hl, fun p ob hp ho => k1.newT r1 p1 hp ho⟩
  · exact k1.elim
theorem d_lst (h : DA X W es fa) : DE X W (.List es pos) (mLst fa) := by
  refine PE.weak (pe_lst h) fun σ H Q ⟨P, ρ, F, μ, S, en, rl, k⟩ => ?_
  refine tDA.run en rl (Fin.imp (Fin.bind (rep := repA (gX X)) k) (fun vs H1 ⟨a, F1, μ1, S1, g1, r1, p1, k1⟩ => ?_) fun _ _ _ z => z)
  split at k1
  · rename_i hl
    exact ⟨by rw [← p1.length]; exact hl, fun p hp => k1.newL r1 p1 hp⟩
  · exact k1.elim
theorem Fin.newR {g : G} {P F : Hp} {μ : List Addr} {S : Store} {H : Hp} {E : XK} {l : List D} {xs : List V} {p : Addr} {Q : VK} (k : Fin (repD g) g P F μ (.ok (.ref S.length) (S ++ [.lst l])) Q E) (r : Rel g P F μ S H) (rp : Reps g F μ l xs) (hp : H p = none) : Q (.ref p) (upd H p (.lst xs)) := by
  have g0 : Gr F μ F (μ ++ [p]) := ⟨fun _ _ h => h, fun n q h => by
    have : n < μ.length := (List.getElem?_eq_some_iff.mp h).1
    rw [List.getElem?_append_left this]; exact h⟩
  obtain ⟨r1, g1, e1⟩ := r.push (u := .lst xs) (o := .lst l) hp ⟨xs, rfl, rp.mono g0⟩
  exact (k.gr g1).here r1 (by simp only [Rep]; exact ⟨p, e1, rfl⟩)
theorem d_new (h : DA X W es fa) : DE X W (.List es pos) (mNew fa) := by
  refine PE.weak (pe_lst h) fun σ H Q ⟨P, ρ, F, μ, S, en, rl, k⟩ => ?_
  refine tDA.run en rl (Fin.imp (Fin.bind (rep := repA (gX X)) k) (fun vs H1 ⟨a, F1, μ1, S1, g1, r1, p1, k1⟩ => ?_) fun _ _ _ z => z)
  split at k1
  · rename_i hl
    exact ⟨by rw [← p1.length]; exact hl, fun p hp => k1.newR r1 p1 hp⟩
  · exact k1.elim
theorem frz_fin {g : G} {P F : Hp} {μ : List Addr} {S : Store} {H : Hp} {E : XK} {d : D} {v : V} {Q : VK} (k : Fin (repD g) g P F μ (frzD d S) Q E) (r : Rel g P F μ S H) (p : Rep g F μ d v) : Q v H := by
  unfold frzD at k
  split at k
  · rename_i n
    simp only [Rep] at p
    obtain ⟨a, h1, rfl⟩ := p
    split at k
    · rename_i l q
      rcases r.live n _ a q h1 with ⟨z, _⟩ | ⟨u, hF, hu, _⟩
      · cases z
      · obtain ⟨r2, g2, xs, e2, p2⟩ := r.freeze q (by intro z; cases z) h1 hu
        subst e2
        exact (k.gr g2).here r2 (by simp only [Rep]; exact ⟨a, xs, rfl, .inl (.inl upd_same), p2.mono g2⟩)
    · rename_i c ns ds q
      rcases r.live n _ a q h1 with ⟨z, _⟩ | ⟨u, hF, hu, _⟩
      · cases z
      · obtain ⟨r2, g2, C, dx, xs, e0, e2, p2, hl⟩ := r.freeze q (by intro z; cases z) h1 hu
        subst e2
        exact (k.gr g2).here r2 (by simp only [Rep]; exact ⟨a, C, dx, xs, rfl, e0, upd_same, p2.mono g2, hl⟩)
    · exact k.elim
  · exact k.elim
theorem d_frz (h : DE X W e fe) : DE X W e (mFrz fe) := by
  refine PE.weak h fun σ H Q ⟨P, ρ, F, μ, S, en, rl, k⟩ => ?_
  exact tD.run en rl (Fin.imp (Fin.bind (rep := repD (gX X)) k) (fun vs H1 ⟨a, F1, μ1, S1, g1, r1, p1, k1⟩ => frz_fin k1 r1 p1) fun _ _ _ z => z)
end

/-! ### == != -/
/-- a list at a place, as the list that it is now -/
def derD (d : D) (S : Store) : D := match d with
  | .ref n => match S[n]? with
    | some (.lst l) => .lst l
    | _ => .ref n
  | d => d
theorem derD_ref {n : Nat} {S : Store} {l : List D} (q : S[n]? = some (.lst l)) : derD (.ref n) S = .lst l := by simp [derD, q]
theorem der_dp {g : G} {P F : Hp} {μ : List Addr} {S : Store} {H : Hp} (r : Rel g P F μ S H) {d : D} {v : V} (h : plain 64 (derD d S) = true) (p : Rep g F μ d v) : Dp g.K H v (toPy (derD d S)) := by
  cases d with
  | ref n =>
    cases q : S[n]? with
    | none => simp [derD, q, plain] at h
    | some o =>
      cases o with
      | lst l =>
        rw [derD_ref q] at h ⊢
        obtain ⟨a, xs, rfl, _, h2, h3⟩ := p.refL r q
        simp only [plain] at h
        simp only [toPy]
        exact .lst (.of h2) (plains_dp r 63 l h h3)
      | ins _ _ _ => simp [derD, q, plain] at h
      | dct _ _ => simp [derD, q, plain] at h
      | dead => simp [derD, q, plain] at h
  | non => exact plain_dp r 64 _ h p
  | bl _ => exact plain_dp r 64 _ h p
  | int _ => exact plain_dp r 64 _ h p
  | str _ => exact plain_dp r 64 _ h p
  | tup _ => exact plain_dp r 64 _ h p
  | lst _ => exact plain_dp r 64 _ h p
  | obj _ _ _ => simp [derD, plain] at h
  | exc _ _ _ => simp [derD, plain] at h
  | wt _ => simp [derD, plain] at h
@[simp] theorem derD_tup (l : List D) (S : Store) : derD (.tup l) S = .tup l := rfl
@[simp] theorem derD_lst (l : List D) (S : Store) : derD (.lst l) S = .lst l := rfl
@[simp] theorem derD_int (i : Int) (S : Store) : derD (.int i) S = .int i := rfl
@[simp] theorem derD_str (i : Str) (S : Store) : derD (.str i) S = .str i := rfl
@[simp] theorem derD_bl (i : Bool) (S : Store) : derD (.bl i) S = .bl i := rfl
@[simp] theorem derD_non (S : Store) : derD .non S = .non := rfl
def eqD (x y : D) : M D := fun S => match x, y with
  | .str a, .str b => .ok (.bl (a == b)) S
  | x, y => if plain 64 (derD x S) && plain 64 (derD y S) then .ok (.bl (eqB (derD x S) (derD y S))) S else .stuck
def neD (x y : D) : M D := fun S => match x, y with
  | .str a, .str b => .ok (.bl (!(a == b))) S
  | x, y => if plain 64 (derD x S) && plain 64 (derD y S) then .ok (.bl (!eqB (derD x S) (derD y S))) S else .stuck
/-- x in y -/
def inB (x : D) (l : List D) : Bool := l.any fun z => eqB z x
def oneOf (x : Str) : Option Nat := match x.cps.toList with
  | [c] => some c
  | _ => none
theorem oneOf_eq {x : Str} {c : Nat} (h : oneOf x = some c) : x = ⟨#[c]⟩ := by
  unfold oneOf at h
  split at h
  · rename_i c' q
    cases h
    obtain ⟨a⟩ := x
    simp only at q
    have : a = #[c] := by rw [← Array.toList_inj, q]
    rw [this]
  · cases h
def inD (x y : D) : M D := fun S => match seqOf y S with
  | some l => if plain 64 (derD x S) && plains 63 l then .ok (.bl (inB (derD x S) l)) S else .stuck
  | none => match x, y with
    | .str x, .str y => match oneOf x with
      | some c => .ok (.bl (decide (c ∈ y.cps.toList))) S
      | none => .stuck
    | _, _ => .stuck
def niD (x y : D) : M D := fun S => (inD x y S).bind fun d S => match d with
  | .bl b => .ok (.bl (!b)) S
  | _ => .stuck
theorem eqv_any {x : D} : ∀ {l : List D}, plain 64 x = true → plains 63 l = true → ((toPys l).any fun z => PyData.eqv z (toPy x)) = inB x l
  | [], _, _ => by simp [toPys, inB]
  | y :: l, hx, h => by
    simp only [plains, Bool.and_eq_true] at h
    have ih := eqv_any (l := l) hx h.2
    simp only [inB] at ih ⊢
    simp only [toPys, List.any_cons, ih, eqv_eqB 63 64 y x h.1 hx]
theorem plains_shaped {l : List D} (h : plains 63 l = true) : SeqAt.shaped (.list (toPys l)) = true ∧ SeqAt.shaped (.tuple (toPys l)) = true := by
  have a := plain_shaped (d := .lst l) (by simpa [plain] using h)
  have b := plain_shaped (d := .tup l) (by simpa [plain] using h)
  simp only [toPy] at a b
  exact ⟨a, b⟩
section
variable {X : Cx}
theorem od_eq (hu : X.A.units + 64 < cLine) : OpD X (compareOp .Eq) eqD := by
  intro pins s σ H v w u u' Q I rv rw h
  obtain ⟨x, y, P, F, μ, S, E, rl, rx, ry, k⟩ := h
  unfold eqD at k
  split at k
  · exact op_eq pins s σ H _ _ _ _ Q I rv rw ⟨by rw [rx.str, ry.str]; rfl, by rw [rx.str, ry.str, dec_str]; exact k.here rl rep_bl⟩
  split at k
  · rename_i hp
    simp only [Bool.and_eq_true] at hp
    refine op_eqD hu pins s σ H _ _ _ _ Q I rv rw ⟨_, _, der_dp rl hp.1 rx, der_dp rl hp.2 ry, plain_shaped hp.1, plain_shaped hp.2, ?_⟩
    rw [eqv_eqB 64 64 _ _ hp.1 hp.2]
    exact k.here rl rep_bl
  · exact k.elim
theorem od_ne (hu : X.A.units + 64 < cLine) : OpD X (compareOp .NotEq) neD := by
  intro pins s σ H v w u u' Q I rv rw h
  obtain ⟨x, y, P, F, μ, S, E, rl, rx, ry, k⟩ := h
  unfold neD at k
  split at k
  · exact op_ne pins s σ H _ _ _ _ Q I rv rw ⟨by rw [rx.str, ry.str]; rfl, by rw [rx.str, ry.str, dec_str]; exact k.here rl rep_bl⟩
  split at k
  · rename_i hp
    simp only [Bool.and_eq_true] at hp
    refine op_neD hu pins s σ H _ _ _ _ Q I rv rw ⟨_, _, der_dp rl hp.1 rx, der_dp rl hp.2 ry, plain_shaped hp.1, plain_shaped hp.2, ?_⟩
    rw [eqv_eqB 64 64 _ _ hp.1 hp.2]
    exact k.here rl rep_bl
  · exact k.elim
def isNon : D → Bool
  | .non => true
  | _ => false
def isND (x y : D) : M D := fun S => if isNon y then .ok (.bl (isNon x)) S else .stuck
def notND (x y : D) : M D := fun S => if isNon y then .ok (.bl (!isNon x)) S else .stuck
theorem rep_ref {g : G} {F : Hp} {μ : List Addr} {d : D} {v : V} (h : Rep g F μ d v) : decide (v = .non) = isNon d := by
  cases d <;> simp only [Rep] at h <;> first
    | (subst h; rfl)
    | (obtain ⟨a, _, rfl, _⟩ := h; rfl)
    | (obtain ⟨a, _, _, _, rfl, _⟩ := h; rfl)
    | (obtain ⟨a, _, rfl⟩ := h; rfl)
theorem isNon_rep {g : G} {F : Hp} {μ : List Addr} {d : D} {v : V} (h : Rep g F μ d v) (e : isNon d = true) : v = .non := by
  rw [← rep_ref h] at e
  exact of_decide_eq_true e
theorem od_isN : OpD X (compareOp .Is) isND := by
  intro pins s σ H v w u u' Q I rv rw h
  obtain ⟨x, y, P, F, μ, S, E, rl, rx, ry, k⟩ := h
  unfold isND at k
  split at k
  · rename_i e
    refine op_isN pins s σ H _ _ _ _ Q I rv rw ⟨isNon_rep ry e, ?_⟩
    rw [rep_ref rx]
    exact k.here rl rep_bl
  · exact k.elim
theorem od_notN : OpD X (compareOp .IsNot) notND := by
  intro pins s σ H v w u u' Q I rv rw h
  obtain ⟨x, y, P, F, μ, S, E, rl, rx, ry, k⟩ := h
  unfold notND at k
  split at k
  · rename_i e
    refine op_notN pins s σ H _ _ _ _ Q I rv rw ⟨isNon_rep ry e, ?_⟩
    rw [rep_ref rx]
    exact k.here rl rep_bl
  · exact k.elim
/-- in over a list; over a tuple -/
theorem op_inTD (hu : X.A.units + 65 < cLine) : OpR X (compareOp .In) (fun x y H Q => ∃ d ds, Dp X.K H x d ∧ Dp X.K H y (.tuple ds) ∧ SeqAt.shaped d = true ∧ SeqAt.shaped (.tuple ds) = true ∧ Q (.bl (ds.any fun z => PyData.eqv z d)) H) := by
  intro pins s σ H x y v u Q I rx ry h
  obtain ⟨d, ds, hd, he, sd, se, q⟩ := h
  obtain ⟨as, r1⟩ := Dp.reads I d x v hd rx
  obtain ⟨bs, r2⟩ := Dp.reads I (.tuple ds) y u he ry
  exact SeqAt.in_tuple_reads r2 r1 (SeqAt.canLay_of_shaped se) (SeqAt.canLay_of_shaped sd) (by have := SeqAt.depth_of_shaped sd; omega) ⟨.bl _, H, I, rfl, q⟩
theorem op_niTD (hu : X.A.units + 65 < cLine) : OpR X (compareOp .NotIn) (fun x y H Q => ∃ d ds, Dp X.K H x d ∧ Dp X.K H y (.tuple ds) ∧ SeqAt.shaped d = true ∧ SeqAt.shaped (.tuple ds) = true ∧ Q (.bl (!ds.any fun z => PyData.eqv z d)) H) := by
  intro pins s σ H x y v u Q I rx ry h
  obtain ⟨d, ds, hd, he, sd, se, q⟩ := h
  obtain ⟨as, r1⟩ := Dp.reads I d x v hd rx
  obtain ⟨bs, r2⟩ := Dp.reads I (.tuple ds) y u he ry
  exact SeqAt.notIn_tuple_reads r2 r1 (SeqAt.canLay_of_shaped se) (SeqAt.canLay_of_shaped sd) (by have := SeqAt.depth_of_shaped sd; omega) ⟨.bl _, H, I, rfl, q⟩
theorem seq_dp {g : G} {P F : Hp} {μ : List Addr} {S : Store} {H : Hp} (r : Rel g P F μ S H) {d : D} {l : List D} {v : V} (e : seqOf d S = some l) (h : plains 63 l = true) (p : Rep g F μ d v) :
    Dp g.K H v (.list (toPys l)) ∨ Dp g.K H v (.tuple (toPys l)) := by
  obtain ⟨a, xs, rfl, hs, hr⟩ := seqOf_rep r e p
  rcases hs with hs | hs
  · exact .inl (.lst hs (plains_dp r 63 l h hr))
  · exact .inr (.tup hs (plains_dp r 63 l h hr))
theorem od_in (hu : X.A.units + 65 < cLine) : OpD X (compareOp .In) inD := by
  intro pins s σ H v w u u' Q I rv rw h
  obtain ⟨x, y, P, F, μ, S, E, rl, rx, ry, k⟩ := h
  unfold inD at k
  split at k
  · rename_i l e
    split at k
    · rename_i hp
      simp only [Bool.and_eq_true] at hp
      obtain ⟨s1, s2⟩ := plains_shaped hp.2
      rcases seq_dp rl e hp.2 ry with q | q
      · refine op_inD hu pins s σ H _ _ _ _ Q I rv rw ⟨_, _, der_dp rl hp.1 rx, q, plain_shaped hp.1, s1, ?_⟩
        rw [eqv_any hp.1 hp.2]
        exact k.here rl rep_bl
      · refine op_inTD hu pins s σ H _ _ _ _ Q I rv rw ⟨_, _, der_dp rl hp.1 rx, q, plain_shaped hp.1, s2, ?_⟩
        rw [eqv_any hp.1 hp.2]
        exact k.here rl rep_bl
    · exact k.elim
  · split at k
    · split at k
      · rename_i c q
        exact op_in_sign pins s σ H _ _ _ _ Q I rv rw ⟨c, _, by rw [rx.str, oneOf_eq q], ry.str, k.here rl rep_bl⟩
      · exact k.elim
    · exact k.elim
theorem od_ni (hu : X.A.units + 65 < cLine) : OpD X (compareOp .NotIn) niD := by
  intro pins s σ H v w u u' Q I rv rw h
  obtain ⟨x, y, P, F, μ, S, E, rl, rx, ry, k⟩ := h
  unfold niD inD at k
  split at k
  · rename_i l e
    split at k
    · rename_i hp
      simp only [Bool.and_eq_true] at hp
      obtain ⟨s1, s2⟩ := plains_shaped hp.2
      rcases seq_dp rl e hp.2 ry with q | q
      · refine op_notInD hu pins s σ H _ _ _ _ Q I rv rw ⟨_, _, der_dp rl hp.1 rx, q, plain_shaped hp.1, s1, ?_⟩
        rw [eqv_any hp.1 hp.2]
        exact k.here rl rep_bl
      · refine op_niTD hu pins s σ H _ _ _ _ Q I rv rw ⟨_, _, der_dp rl hp.1 rx, q, plain_shaped hp.1, s2, ?_⟩
        rw [eqv_any hp.1 hp.2]
        exact k.here rl rep_bl
    · exact k.elim
  · split at k
    · split at k
      · rename_i c q
        exact op_notIn_sign pins s σ H _ _ _ _ Q I rv rw ⟨c, _, by rw [rx.str, oneOf_eq q], ry.str, k.here rl rep_bl⟩
      · exact k.elim
    · exact k.elim
end
end DL

/-! The data layer, 5: places, slices, built-in functions. -/
namespace DL
open PySem PySem.Spec PyProof.Rows L2

/-! ### x[i] -/
theorem Reps.atI {g : G} {F : Hp} {μ : List Addr} {ds : List D} {vs : List V} {i : Int} {d : D} (h : Reps g F μ ds vs) (e : L2.atI ds i = some d) : ∃ v, L2.atI vs i = some v ∧ Rep g F μ d v := by
  unfold L2.atI at e ⊢
  rw [← h.length]
  cases q : ixN ds.length i with
  | none => rw [q] at e; cases e
  | some j =>
    rw [q] at e
    exact h.get e
def ixD (x y : D) : M D := fun S => match y with
  | .int i => match seqOf x S with
    | some l => match L2.atI l i with
      | some d => .ok d S
      | none => .stuck
    | none => match x with
      | .str z => match L2.atI z.cps.toList i with
        | some c => if z.length ≤ sizeLine then .ok (.str ⟨#[c]⟩) S else .stuck
        | none => .stuck
      | _ => .stuck
  | _ => .stuck
section
variable {X : Cx} {W : WX} {a b : Expr} {fa fb : EM} {pos : Pos}
theorem d_ix (ha : DE X W a fa) (hb : DE X W b fb) (hs : PlainIx b := by exact fun _ _ => rfl) : DE X W (.Subscript a b pos) (mOp ixD fa fb) := by
  refine PE.weak (pe_ix ix_seq ha hb hs) fun σ H Q h => ?_
  obtain ⟨P, ρ, F, μ, S, en, rl, k⟩ := h
  refine tD.run en rl (Fin.imp (Fin.bind (rep := repD (gX X)) k) (fun v H1 ⟨x, F1, μ1, S1, g1, r1, p1, k1⟩ => ?_) fun _ _ _ z => z)
  refine tD.run (en.mono g1) r1 (Fin.imp (Fin.bind (rep := repD (gX X)) k1) (fun w H2 ⟨y, F2, μ2, S2, g2, r2, p2, k2⟩ => ?_) fun _ _ _ z => z)
  have px := p1.mono g2
  unfold ixD at k2
  split at k2
  · split at k2
    · rename_i i _ l e
      split at k2
      · rename_i d q
        obtain ⟨a', xs, ea, hs', hr⟩ := seqOf_rep r2 e px
        obtain ⟨v', h1, h2⟩ := hr.atI q
        rcases hs' with hs' | hs'
        · exact .inl ⟨a', xs, i, v', ea, p2.int, hs', h1, k2.here r2 h2⟩
        · exact .inr (.inl ⟨a', xs, i, v', ea, p2.int, hs', h1, k2.here r2 h2⟩)
      · exact k2.elim
    · split at k2
      · split at k2
        · rename_i c q
          split at k2
          · rename_i hl
            exact .inr (.inr ⟨_, _, c, px.str, p2.int, hl, q, k2.here r2 rep_str⟩)
          · exact k2.elim
        · exact k2.elim
      · exact k2.elim
  · exact k2.elim
end

/-! ### slices -/
abbrev PM := Env → M (Option Int)
def mNoP : PM := fun _ S => .ok none S
def mPart (f : EM) : PM := fun ρ S => (f ρ S).bind fun d S => match d with
  | .int i => .ok (some i) S
  | _ => .stuck
abbrev repO : Hp → List Addr → Option Int → Option Int → Prop := fun _ _ a b => a = b
def tDO (g : G) (W : WX) (f : PM) : TO := fun σ H Q => ∃ P ρ F μ S, EnvR g F μ ρ σ ∧ Rel g P F μ S H ∧ Fin repO g P F μ (f ρ S) Q (fun c d H' => W c d σ H')
abbrev DO (X : Cx) (W : WX) (e : Option Expr) (f : PM) : Prop := PO X e (tDO (gX X) W f)
def cutD (xs : List D) (lo hi : Option Int) : List D := (xs.drop (HT.sIx xs.length 0 lo)).take (HT.sIx xs.length xs.length hi - HT.sIx xs.length 0 lo)
theorem Reps.cut {g : G} {F : Hp} {μ : List Addr} {ds : List D} {vs : List V} (h : Reps g F μ ds vs) (lo hi : Option Int) : Reps g F μ (cutD ds lo hi) (cutV vs lo hi) := by
  unfold cutD cutV
  rw [← h.length]
  exact (h.drop _).take _
def slD (x : D) (lo hi : Option Int) : M D := fun S => match x with
  | .tup l => .ok (.tup (cutD l lo hi)) S
  | .str z => if z.length ≤ sizeLine then .ok (.str (cutS z lo hi)) S else .stuck
  | x => match lstOf x S with
    | some l => .ok (.lst (cutD l lo hi)) S
    | none => .stuck
def mSl (fe : EM) (fl fh : PM) : EM := fun ρ S => (fe ρ S).bind fun x S => (fl ρ S).bind fun l S => (fh ρ S).bind fun h S => slD x l h S
theorem cutD_whole {xs : List D} {lo hi : Option Int} (h : HT.sIx xs.length 0 lo = 0 ∧ HT.sIx xs.length xs.length hi = xs.length) : cutD xs lo hi = xs := by
  unfold cutD
  rw [h.1, h.2]
  simp
section
variable {X : Cx} {W : WX} {e : Expr} {fe : EM} {lo hi : Option Expr} {fl fh : PM} {pos p2 : Pos}
theorem do_none : DO X W none mNoP := by
  refine ⟨fun pins s σ H Q I h => ?_⟩
  obtain ⟨P, ρ, F, μ, S, en, rl, k⟩ := h
  exact po_none.run pins s σ H Q I (k.here rl rfl)
theorem do_some (h : DE X W e fe) : DO X W (some e) (mPart fe) := by
  refine ⟨fun pins s σ H Q I hw => ?_⟩
  refine (po_some h).run pins s σ H Q I ?_
  obtain ⟨P, ρ, F, μ, S, en, rl, k⟩ := hw
  refine tD.run en rl (Fin.imp (Fin.bind (rep := repD (gX X)) k) (fun v H1 ⟨x, F1, μ1, S1, g1, r1, p1, k1⟩ => ?_) fun _ _ _ z => z)
  cases x <;> first | exact k1.elim | skip
  exact ⟨_, p1.int, k1.here r1 rfl⟩
/-- a part of a tuple -/
theorem sl_tupN : SlR X (fun x lo hi H Q => ∃ a xs, x = .ref a ∧ SqT X.K H a xs ∧ (HT.sIx xs.length 0 lo = 0 ∧ HT.sIx xs.length xs.length hi = xs.length → Q (.ref a) H) ∧ ∀ (p : Addr) (ob : Obj), H p = none → ob.dict = none → Q (.ref p) (upd H p (.frz ob (.tup (cutV xs lo hi))))) := by
  intro pins s σ H x v vl vu lo hi sl Q I rx hs pl pu ⟨a, xs, e, hx, q1, q2⟩
  by_cases hw : HT.sIx xs.length 0 lo = 0 ∧ HT.sIx xs.length xs.length hi = xs.length
  · exact sl_tupA pins s σ H x v vl vu lo hi sl Q I rx hs pl pu ⟨a, xs, e, hx, q1, fun z => absurd hw z⟩
  · subst e
    cases rx
    obtain ⟨its, r, ht, hz⟩ := I.tuple hx
    have hlen : its.toArray.size = xs.length := List.size_toArray .. ▸ r.length.symm
    refine ⟨"tuple", _, PyProof.Rows.slot_tuple_getitem.lookup, ht.typeIs, HT.getItem_tuple_cut ht hs pl pu (hlen ▸ hw) ?_ (hlen ▸ hz)⟩
    rw [hlen]
    exact ⟨.ref s.heap.objs.size, _, tup_laid (t' := s.toks) I ((r.drop _).take _) (Nat.le_trans (cutV_length xs lo hi) hz), rfl, q2 _ _ (I.hok.fresh (Nat.le_refl _)) rfl⟩
/-- tuple(l) -/
theorem call_tupN : CallR X (.type "tuple") (fun xs H Q => ∃ p ys, xs = [.ref p] ∧ SqL X.K H p ys ∧ ∀ (l : Addr) (ob : Obj), H l = none → ob.dict = none → Q (.ref l) (upd H l (.frz ob (.tup ys)))) := by
  intro pins s σ H xs us Q I r ⟨p, ys, e, hq, q⟩
  subst e
  obtain ⟨u, rfl, rx⟩ := vals1 r
  cases rx
  obtain ⟨its, r', pl, hz⟩ := I.list hq
  refine call_tuple_list pl.isList (fun h' kp => ?_) (by have := r'.length; simp only [List.size_toArray]; omega)
  have I1 : Inv X pins σ H { s with heap := h' } := I.kept (t' := s.toks) kp
  exact ⟨.ref h'.objs.size, _, tup_laid (t' := s.toks) I1 r' hz, rfl, q _ _ (I1.hok.fresh (Nat.le_refl _)) rfl⟩
theorem d_sl (he : DE X W e fe) (hl : DO X W lo fl) (hh : DO X W hi fh) : DE X W (.Subscript e (.Slice lo hi none p2) pos) (mSl fe fl fh) := by
  refine PE.weak (pe_slice (sl_tupN.or (sl_list.or sl_str)) he hl hh) fun σ H Q ⟨P, ρ, F, μ, S, en, rl, k⟩ => ?_
  refine tD.run en rl (Fin.imp (Fin.bind (rep := repD (gX X)) k) (fun v H1 ⟨x, F1, μ1, S1, g1, r1, p1, k1⟩ => ?_) fun _ _ _ z => z)
  refine ⟨P, ρ, F1, μ1, S1, en.mono g1, r1, Fin.imp (Fin.bind (rep := repO) k1) (fun l H2 ⟨l', F2, μ2, S2, g2, r2, p2, k2⟩ => ?_) fun _ _ _ z => z⟩
  refine ⟨P, ρ, F2, μ2, S2, (en.mono g1).mono g2, r2, Fin.imp (Fin.bind (rep := repO) k2) (fun h H3 ⟨h', F3, μ3, S3, g3, r3, p3, k3⟩ => ?_) fun _ _ _ z => z⟩
  cases p2
  cases p3
  have px := (p1.mono g2).mono g3
  unfold slD at k3
  split at k3
  · obtain ⟨a, xs, ea, hs, hr⟩ := px.tup r3
    have hl := hr.length
    refine .inl ⟨a, xs, ea, hs, fun hw => ?_, fun p ob hp ho => k3.newT r3 (hr.cut l h) hp ho⟩
    rw [cutD_whole (by rw [hl]; exact hw)] at k3
    exact k3.here r3 (by rw [← ea]; exact px)
  · split at k3
    · rename_i hl
      exact .inr (.inr ⟨_, px.str, hl, k3.here r3 rep_str⟩)
    · exact k3.elim
  · split at k3
    · rename_i ll q
      obtain ⟨a, xs, ea, hs, hr⟩ := lstOf_rep r3 q px
      exact .inr (.inl ⟨a, xs, ea, hs, fun p hp => k3.newL r3 (hr.cut l h) hp⟩)
    · exact k3.elim
/-- xs[::-1] -/
def revD (x : D) : M D := fun S => match lstOf x S with
  | some l => .ok (.lst l.reverse) S
  | none => .stuck
theorem d_rev {k : Nat} {p1 p2 p3 : Pos} (he : DE X W e fe) : DE X W (.Subscript e (.Slice none none (some (.UnaryOp .USub (.Constant (.int 1) k p1) p2)) p3) pos) (mUn revD fe) := by
  refine PE.weak (pe_revL he) fun σ H Q ⟨P, ρ, F, μ, S, en, rl, k⟩ => ?_
  refine tD.run en rl (Fin.imp (Fin.bind (rep := repD (gX X)) k) (fun v H1 ⟨x, F1, μ1, S1, g1, r1, p1, k1⟩ => ?_) fun _ _ _ z => z)
  unfold revD at k1
  split at k1
  · rename_i l q
    obtain ⟨a, xs, ea, hs, hr⟩ := lstOf_rep r1 q p1
    exact ⟨a, xs, ea, hs, fun p hp => k1.newL r1 hr.reverse hp⟩
  · exact k1.elim
end

/-! ### built-in functions and types, called -/
def CallD (X : Cx) (f : Value) (m : List D → M D) : Prop := CallR X f (fun vs H Q => ∃ ds P F μ S E, Rel (gX X) P F μ S H ∧ Reps (gX X) F μ ds vs ∧ Fin (repD (gX X)) (gX X) P F μ (m ds S) Q E)
def mCB (m : List D → M D) (fa : AM) : EM := fun ρ S => (fa ρ S).bind m
section
variable {X : Cx} {W : WX} {x : Str} {p pos : Pos} {e : Expr} {es : List Expr} {fa : AM} {id T : String} {m : List D → M D}
theorem cb_run : ∀ σ H Q, tD (gX X) W (mCB m fa) σ H Q → tCB (fun vs H Q => ∃ ds P F μ S E, Rel (gX X) P F μ S H ∧ Reps (gX X) F μ ds vs ∧ Fin (repD (gX X)) (gX X) P F μ (m ds S) Q E) (tDA (gX X) W fa) σ H Q := fun σ H Q ⟨P, ρ, F, μ, S, en, rl, k⟩ =>
  tDA.run en rl (Fin.imp (Fin.bind (rep := repA (gX X)) k) (fun v H1 ⟨ds, F1, μ1, S1, g1, r1, p1, k1⟩ => ⟨ds, P, F1, μ1, S1, _, r1, p1, k1⟩) fun _ _ _ z => z)
theorem d_callB (hc : CallD X (.builtin id) m) (hm : X.mg x = none) (ha : DA X W (e :: es) fa) (hg : Gl X x := by rfl) (hv : bootBuiltins x = some (.builtin id) := by decide +kernel) (hn : x ≠ "__name__" := by decide) (hdb : (x == ("__debug__" : Str)) = false := by decide)
    (he : starEach (e :: es) X.env = (false, eval e X.env) :: starEach es X.env := by rfl) (hpl : (backTo pos (starEach es X.env)).any (·.1) = false := by rfl) : DE X W (.Call (.Name x p) (e :: es) [] pos) (mCB m fa) :=
  PE.weak (pe_callB hc hg hm hv ha hn hdb he hpl) cb_run
theorem d_callT (hc : CallD X (.type T) m) (hm : X.mg x = none) (ha : DA X W (e :: es) fa) (hg : Gl X x := by rfl) (hv : bootBuiltins x = some (.type T) := by decide +kernel) (hn : x ≠ "__name__" := by decide) (hdb : (x == ("__debug__" : Str)) = false := by decide)
    (he : starEach (e :: es) X.env = (false, eval e X.env) :: starEach es X.env := by rfl) (hpl : (backTo pos (starEach es X.env)).any (·.1) = false := by rfl) : DE X W (.Call (.Name x p) (e :: es) [] pos) (mCB m fa) :=
  PE.weak (pe_callTy hc hg hm hv ha hn hdb he hpl) cb_run
end
/-- one argument -/
def one (m : D → M D) : List D → M D := fun ds S => match ds with
  | [d] => m d S
  | _ => .stuck
def two (m : D → D → M D) : List D → M D := fun ds S => match ds with
  | [x, y] => m x y S
  | _ => .stuck
@[simp] theorem one_eq (m : D → M D) (d : D) (S : Store) : one m [d] S = m d S := rfl
@[simp] theorem two_eq (m : D → D → M D) (x y : D) (S : Store) : two m [x, y] S = m x y S := rfl
theorem one_fin {g : G} {P F : Hp} {μ : List Addr} {S : Store} {E : XK} {m : D → M D} {ds : List D} {vs : List V} {Q : VK} (k : Fin (repD g) g P F μ (one m ds S) Q E) (p : Reps g F μ ds vs) : ∃ d v, vs = [v] ∧ Rep g F μ d v ∧ Fin (repD g) g P F μ (m d S) Q E := by
  unfold one at k
  split at k
  · rename_i d
    simp only [Reps] at p
    obtain ⟨v, _, rfl, h1, rfl⟩ := p
    exact ⟨d, v, rfl, h1, k⟩
  · exact k.elim
theorem two_fin {g : G} {P F : Hp} {μ : List Addr} {S : Store} {E : XK} {m : D → D → M D} {ds : List D} {vs : List V} {Q : VK} (k : Fin (repD g) g P F μ (two m ds S) Q E) (p : Reps g F μ ds vs) : ∃ d e v w, vs = [v, w] ∧ Rep g F μ d v ∧ Rep g F μ e w ∧ Fin (repD g) g P F μ (m d e S) Q E := by
  unfold two at k
  split at k
  · rename_i d e
    simp only [Reps] at p
    obtain ⟨v, _, rfl, h1, w, _, rfl, h2, rfl⟩ := p
    exact ⟨d, e, v, w, rfl, h1, h2, k⟩
  · exact k.elim
def lenD (x : D) : M D := fun S => match seqOf x S with
  | some l => .ok (.int l.length) S
  | none => match x with
    | .str z => if z.length ≤ sizeLine then .ok (.int z.length) S else .stuck
    | _ => .stuck
def absD : D → M D
  | .int i, S => .ok (.int (if i < 0 then -i else i)) S
  | _, _ => .stuck
def minD : D → D → M D
  | .int i, .int j, S => .ok (.int (if j < i then j else i)) S
  | _, _, _ => .stuck
def maxD : D → D → M D
  | .int i, .int j, S => .ok (.int (if j > i then j else i)) S
  | _, _, _ => .stuck
def intD : D → M D
  | .int i, S => .ok (.int i) S
  | .bl b, S => .ok (.int (b2 b)) S
  | .str z, S => match PySem.intText? z with
    | some n => if z.length ≤ 640 then .ok (.int n) S else .stuck
    | none => .stuck
  | _, _ => .stuck
def strD : D → M D
  | .int i, S => if i.natAbs.log2 < 1920 then .ok (.str (toString i)) S else .stuck
  | _, _ => .stuck
/-- list(x), tuple(x) -/
def listD (x : D) : M D := fun S => match seqOf x S with
  | some l => .ok (.lst l) S
  | none => .stuck
def tupleD (x : D) : M D := fun S => match x with
  | .wt _ => .stuck
  | x => match seqOf x S with
    | some l => .ok (.tup l) S
    | none => .stuck
def blOf : D → Option Bool
  | .bl b => some b
  | _ => none
def blsOf : List D → Option (List Bool)
  | [] => some []
  | d :: ds => match blOf d, blsOf ds with
    | some b, some bs => some (b :: bs)
    | _, _ => none
theorem blsOf_rep {g : G} {F : Hp} {μ : List Addr} : ∀ {ds : List D} {bs : List Bool} {vs : List V}, blsOf ds = some bs → Reps g F μ ds vs → vs = bs.map V.bl
  | [], _, _, e, p => by
    cases e
    simp only [Reps] at p
    rw [p]; rfl
  | d :: ds, bs, vs, e, p => by
    simp only [Reps] at p
    obtain ⟨v, vs, rfl, p1, p2⟩ := p
    unfold blsOf at e
    split at e
    · rename_i b bs' q1 q2
      cases e
      cases d <;> first | (cases q1; done) | skip
      cases q1
      rw [p1.bl, blsOf_rep q2 p2]
      rfl
    · cases e
def allD (x : D) : M D := fun S => match lstOf x S with
  | some l => match blsOf l with
    | some bs => .ok (.bl (bs.all id)) S
    | none => .stuck
  | none => .stuck
def anyD (x : D) : M D := fun S => match lstOf x S with
  | some l => match blsOf l with
    | some bs => .ok (.bl (bs.any id)) S
    | none => .stuck
  | none => .stuck
section
variable {X : Cx}
theorem cd_len : CallD X (.builtin "len") (one lenD) := by
  intro pins s σ H vs us Q I rv h
  obtain ⟨ds, P, F, μ, S, E, rl, rx, k⟩ := h
  obtain ⟨d, v, rfl, p, k⟩ := one_fin k rx
  unfold lenD at k
  split at k
  · rename_i l e
    obtain ⟨a, xs, ea, hs, hr⟩ := seqOf_rep rl e p
    refine call_len pins s σ H _ us Q I rv ⟨v, l.length, rfl, ?_, k.here rl rep_int⟩
    subst ea
    rcases hs with hs | hs
    · exact .inl ⟨xs, hs, hr.length⟩
    · exact .inr ⟨xs, hs, hr.length⟩
  · split at k
    · split at k
      · rename_i hl
        refine call_len pins s σ H _ us Q I rv ⟨v, _, rfl, ?_, k.here rl rep_int⟩
        rw [p.str]
        exact ⟨hl, rfl⟩
      · exact k.elim
    · exact k.elim
theorem cd_abs : CallD X (.builtin "abs") (one absD) := by
  intro pins s σ H vs us Q I rv h
  obtain ⟨ds, P, F, μ, S, E, rl, rx, k⟩ := h
  obtain ⟨d, v, rfl, p, k⟩ := one_fin k rx
  unfold absD at k
  split at k
  · exact call_abs pins s σ H _ us Q I rv ⟨_, by rw [p.int], k.here rl rep_int⟩
  · exact k.elim
theorem cd_min (hc : X.calm = true) : CallD X (.builtin "min") (two minD) := by
  intro pins s σ H vs us Q I rv h
  obtain ⟨ds, P, F, μ, S, E, rl, rx, k⟩ := h
  obtain ⟨d, e, v, w, rfl, p, q, k⟩ := two_fin k rx
  unfold minD at k
  split at k
  · exact call_min2 hc pins s σ H _ us Q I rv ⟨_, _, by rw [p.int, q.int], k.here rl rep_int⟩
  · exact k.elim
theorem cd_max (hc : X.calm = true) : CallD X (.builtin "max") (two maxD) := by
  intro pins s σ H vs us Q I rv h
  obtain ⟨ds, P, F, μ, S, E, rl, rx, k⟩ := h
  obtain ⟨d, e, v, w, rfl, p, q, k⟩ := two_fin k rx
  unfold maxD at k
  split at k
  · exact call_max2 hc pins s σ H _ us Q I rv ⟨_, _, by rw [p.int, q.int], k.here rl rep_int⟩
  · exact k.elim
theorem cd_int : CallD X (.type "int") (one intD) := by
  intro pins s σ H vs us Q I rv h
  obtain ⟨ds, P, F, μ, S, E, rl, rx, k⟩ := h
  obtain ⟨d, v, rfl, p, k⟩ := one_fin k rx
  unfold intD at k
  split at k
  · exact call_int1 pins s σ H _ us Q I rv (.inl ⟨_, by rw [p.int], k.here rl rep_int⟩)
  · exact call_int1 pins s σ H _ us Q I rv (.inr ⟨_, by rw [p.bl], k.here rl rep_int⟩)
  · split at k
    · rename_i n q
      split at k
      · rename_i hl
        exact call_int_str pins s σ H _ us Q I rv ⟨_, n, by rw [p.str], q, hl, k.here rl rep_int⟩
      · exact k.elim
    · exact k.elim
  · exact k.elim
theorem cd_str : CallD X (.type "str") (one strD) := by
  intro pins s σ H vs us Q I rv h
  obtain ⟨ds, P, F, μ, S, E, rl, rx, k⟩ := h
  obtain ⟨d, v, rfl, p, k⟩ := one_fin k rx
  unfold strD at k
  split at k
  · split at k
    · rename_i hz
      exact call_str_int pins s σ H _ us Q I rv ⟨_, by rw [p.int], hz, k.here rl rep_str⟩
    · exact k.elim
  · exact k.elim
theorem cd_list : CallD X (.type "list") (one listD) := by
  intro pins s σ H vs us Q I rv h
  obtain ⟨ds, P, F, μ, S, E, rl, rx, k⟩ := h
  obtain ⟨d, v, rfl, p, k⟩ := one_fin k rx
  unfold listD at k
  split at k
  · rename_i l e
    obtain ⟨a, xs, ea, hs, hr⟩ := seqOf_rep rl e p
    exact call_list_of pins s σ H _ us Q I rv ⟨a, xs, by rw [ea], hs, fun l hl => k.newL rl hr hl⟩
  · exact k.elim
theorem cd_tuple : CallD X (.type "tuple") (one tupleD) := by
  intro pins s σ H vs us Q I rv h
  obtain ⟨ds, P, F, μ, S, E, rl, rx, k⟩ := h
  obtain ⟨d, v, rfl, p, k⟩ := one_fin k rx
  unfold tupleD at k
  split at k
  · exact k.elim
  split at k
  · rename_i l e
    cases d with
    | tup l' =>
      cases e
      obtain ⟨a, xs, ea, hs, hr⟩ := p.tup rl
      exact call_tuple_of pins s σ H _ us Q I rv ⟨a, xs, by rw [ea], .inr ⟨hs, k.here rl (by rw [← ea]; exact p)⟩⟩
    | lst l' =>
      cases e
      obtain ⟨a, xs, ea, hs, hr⟩ := p.lst rl
      exact call_tupN pins s σ H _ us Q I rv ⟨a, xs, by rw [ea], hs, fun l ob hl ho => k.newT rl hr hl ho⟩
    | ref n =>
      obtain ⟨a, xs, ea, hs, hr⟩ := lstOf_rep rl (show lstOf (.ref n) S = some l from e) p
      exact call_tupN pins s σ H _ us Q I rv ⟨a, xs, by rw [ea], hs, fun l ob hl ho => k.newT rl hr hl ho⟩
    | wt l' => exact ((by assumption : ∀ (z : List D), D.wt l' = D.wt z → False) _ rfl).elim
    | _ => cases e
  · exact k.elim
theorem cd_all (hc : X.calm = true) : CallD X (.builtin "all") (one allD) := by
  intro pins s σ H vs us Q I rv h
  obtain ⟨ds, P, F, μ, S, E, rl, rx, k⟩ := h
  obtain ⟨d, v, rfl, p, k⟩ := one_fin k rx
  unfold allD at k
  split at k
  · rename_i l e
    obtain ⟨a, xs, ea, hs, hr⟩ := lstOf_rep rl e p
    split at k
    · rename_i bs q
      have := blsOf_rep q hr
      exact cr_all hc pins s σ H _ us Q I rv ⟨a, bs, by rw [ea], by rw [← this]; exact hs, k.here rl rep_bl⟩
    · exact k.elim
  · exact k.elim
theorem cd_any (hc : X.calm = true) : CallD X (.builtin "any") (one anyD) := by
  intro pins s σ H vs us Q I rv h
  obtain ⟨ds, P, F, μ, S, E, rl, rx, k⟩ := h
  obtain ⟨d, v, rfl, p, k⟩ := one_fin k rx
  unfold anyD at k
  split at k
  · rename_i l e
    obtain ⟨a, xs, ea, hs, hr⟩ := lstOf_rep rl e p
    split at k
    · rename_i bs q
      have := blsOf_rep q hr
      exact cr_any hc pins s σ H _ us Q I rv ⟨a, bs, by rw [ea], by rw [← this]; exact hs, k.here rl rep_bl⟩
    · exact k.elim
  · exact k.elim
mutual
theorem plain_noDict : ∀ (d : D), (toPy d).hasDict = false
  | .non => rfl
  | .bl _ => rfl
  | .int _ => rfl
  | .str _ => rfl
  | .tup l => by simp only [toPy, PyData.hasDict]; exact plains_noDict l
  | .wt l => rfl
  | .lst l => by simp only [toPy, PyData.hasDict]; exact plains_noDict l
  | .obj .. => rfl
  | .exc .. => rfl
  | .ref .. => rfl
theorem plains_noDict : ∀ (ds : List D), PyData.hasDictAll (toPys ds) = false
  | [] => rfl
  | d :: ds => by simp only [toPys, PyData.hasDictAll, plain_noDict d, plains_noDict ds]; rfl
end
theorem plain_up : ∀ {n : Nat} {d : D}, plain n d = true → plain (n + 1) d = true := fun {n d} h => by
  have key : (∀ (d : D) (n : Nat), plain n d = true → plain (n + 1) d = true) := fun d => by
    refine D.rec (motive_1 := fun d => ∀ n, plain n d = true → plain (n + 1) d = true) (motive_2 := fun ds => ∀ n, plains n ds = true → plains (n + 1) ds = true) ?_ ?_ ?_ ?_ ?_ ?_ ?_ ?_ ?_ ?_ ?_ ?_ d
    · intro n _; rfl
    · intro b n _; rfl
    · intro i n _; rfl
    · intro x n h; simpa [plain] using h
    · intro l ih n h
      cases n with
      | zero => simp [plain] at h
      | succ n => simp only [plain] at h ⊢; exact ih n h
    · intro l _ n h; simp [plain] at h
    · intro l ih n h
      cases n with
      | zero => simp [plain] at h
      | succ n => simp only [plain] at h ⊢; exact ih n h
    · intro c ns ds _ n h; simp [plain] at h
    · intro c ns ds _ n h; simp [plain] at h
    · intro k n h; simp [plain] at h
    · intro n _; simp [plains]
    · intro d ds h1 h2 n h
      simp only [plains, Bool.and_eq_true] at h ⊢
      exact ⟨h1 n h.1, h2 n h.2⟩
  exact key d n h
end
end DL

/-! The data layer, 6: what is walked; for, while, comprehensions. -/
namespace DL
open PySem PySem.Spec PyProof.Rows L2

/-- the iterator J gives the items ds, while F stands -/
structure WalkD (g : G) (F : Hp) (μ : List Addr) (ds : List D) (J : It) : Prop where
  goes : ∀ (P F' : Hp) (μ' : List Addr) (S : Store) (H : Hp) (i : Nat), Gr F μ F' μ' → Rel g P F' μ' S H → i < ds.length → J.go i H
  stops : ∀ (P F' : Hp) (μ' : List Addr) (S : Store) (H : Hp), Gr F μ F' μ' → Rel g P F' μ' S H → J.stop ds.length H
  yields : ∀ (P F' : Hp) (μ' : List Addr) (S : Store) (H : Hp) (i : Nat) (d : D) (x : V) (H' : Hp), Gr F μ F' μ' → Rel g P F' μ' S H → ds[i]? = some d → J.yld i H x H' → ∃ F2, Gr F' μ' F2 μ' ∧ Rel g P F2 μ' S H' ∧ Rep g F2 μ' d x
abbrev IM := Env → M (List D)
abbrev repI (g : G) : Hp → List Addr → List D → It → Prop := fun F μ ds J => WalkD g F μ ds J
def tDI (g : G) (W : WX) (f : IM) : TI := fun σ H R => ∃ P ρ F μ S, EnvR g F μ ρ σ ∧ Rel g P F μ S H ∧ Fin (repI g) g P F μ (f ρ S) R (fun c d H' => W c d σ H')
abbrev DI (X : Cx) (W : WX) (tg e : Expr) (f : IM) : Prop := PI X tg e (tDI (gX X) W f)
theorem PI.weak {X : Cx} {tg e : Expr} {t t' : TI} (h : PI X tg e t) (w : ∀ σ H Q, t' σ H Q → t σ H Q) : PI X tg e t' := ⟨fun pins s σ H Q I k => h.run pins s σ H Q I (w σ H Q k)⟩
section
variable {g : G} {F : Hp} {μ : List Addr} {ds : List D} {xs : List V} {a : Addr}
theorem walkD_list (hs : SqL g.K F a xs) (hr : Reps g F μ ds xs) : WalkD g F μ ds (Itl g.K a) where
  goes := fun P F' μ' S H i g1 r hi => by
    have hi' : i < xs.length := by rw [← hr.length]; exact hi
    exact ⟨xs, xs[i], sqL_mono r.gr0 (sqL_mono g1 hs), by simp [hi']⟩
  stops := fun P F' μ' S H g1 r => ⟨xs, sqL_mono r.gr0 (sqL_mono g1 hs), Nat.le_of_eq hr.length.symm⟩
  yields := fun P F' μ' S H i d x H' g1 r e y => by
    obtain ⟨v, h1, h2⟩ := hr.get e
    have := y.2 xs (sqL_mono r.gr0 (sqL_mono g1 hs))
    rw [h1] at this; cases this
    rw [y.1]
    exact ⟨F', Gr.refl _ _, r, h2.mono g1⟩
theorem walkD_tup (hs : SqT g.K F a xs) (hr : Reps g F μ ds xs) : WalkD g F μ ds (Itt g.K a) where
  goes := fun P F' μ' S H i g1 r hi => by
    have hi' : i < xs.length := by rw [← hr.length]; exact hi
    exact ⟨xs, xs[i], sqT_mono r.gr0 (sqT_mono g1 hs), by simp [hi']⟩
  stops := fun P F' μ' S H g1 r => ⟨xs, sqT_mono r.gr0 (sqT_mono g1 hs), Nat.le_of_eq hr.length.symm⟩
  yields := fun P F' μ' S H i d x H' g1 r e y => by
    obtain ⟨v, h1, h2⟩ := hr.get e
    have := y.2 xs (sqT_mono r.gr0 (sqT_mono g1 hs))
    rw [h1] at this; cases this
    rw [y.1]
    exact ⟨F', Gr.refl _ _, r, h2.mono g1⟩
def rangeL (lo : Int) (n : Nat) : List D := (List.range n).map fun i => D.int (lo + (i : Nat))
theorem rangeL_get {lo : Int} {n i : Nat} {d : D} (h : (rangeL lo n)[i]? = some d) : d = .int (lo + (i : Nat)) := by
  unfold rangeL at h
  rw [List.getElem?_map] at h
  cases q : (List.range n)[i]? with
  | none => rw [q] at h; cases h
  | some j =>
    rw [q] at h
    have : j = i := by
      obtain ⟨hi, e⟩ := List.getElem?_eq_some_iff.mp q
      simpa using e.symm
    subst this
    cases h; rfl
theorem walkD_range {lo : Int} {n : Nat} : WalkD g F μ (rangeL lo n) (Itr lo n) where
  goes := fun P F' μ' S H i g1 r hi => by
    show i < n
    simpa [rangeL] using hi
  stops := fun P F' μ' S H g1 r => by
    show n ≤ (rangeL lo n).length
    simp [rangeL]
  yields := fun P F' μ' S H i d x H' g1 r e y => by
    rw [rangeL_get e, y.2, y.1]
    exact ⟨F', Gr.refl _ _, r, rep_int⟩
/-- a new pair a turn -/
theorem walkD_pair {J : It} {l : List (List D)} (hg : ∀ (F' : Hp) (H : Hp), (∀ a o, F a = some o → F' a = some o) → (∀ a o, F' a = some o → H a = some o) → (∀ i, i < l.length → J.go i H) ∧ J.stop l.length H ∧
      ∀ i x H' ds, l[i]? = some ds → J.yld i H x H' → ∃ T xs, x = .ref T ∧ H T = none ∧ H' = upd H T (.tup xs) ∧ Reps g F μ ds xs) : WalkD g F μ (l.map D.wt) J where
  goes := fun P F' μ' S H i g1 r hi => (hg F' H g1.f r.sub).1 i (by simpa using hi)
  stops := fun P F' μ' S H g1 r => by rw [List.length_map]; exact (hg F' H g1.f r.sub).2.1
  yields := fun P F' μ' S H i d x H' g1 r e y => by
    rw [List.getElem?_map] at e
    cases q : l[i]? with
    | none => rw [q] at e; cases e
    | some ds =>
      rw [q] at e
      cases e
      obtain ⟨T, xs, rfl, hT, rfl, hr⟩ := (hg F' H g1.f r.sub).2.2 i x H' ds q y
      obtain ⟨r1, g2⟩ := r.froz (o := .tup xs) hT
      exact ⟨_, g2, r1, by simp only [Rep]; exact ⟨T, xs, rfl, .inl (.inl upd_same), (hr.mono g1).mono g2⟩⟩
end
/-- enumerate -/
def enumL : Nat → List D → List (List D)
  | _, [] => []
  | n, d :: ds => [.int (n : Nat), d] :: enumL (n + 1) ds
theorem enumL_len : ∀ (n : Nat) (ds : List D), (enumL n ds).length = ds.length
  | _, [] => rfl
  | n, d :: ds => by simp [enumL, enumL_len (n + 1) ds]
theorem enumL_get : ∀ {n : Nat} {ds : List D} {i : Nat} {x : List D}, (enumL n ds)[i]? = some x → ∃ d, ds[i]? = some d ∧ x = [.int ((n + i : Nat) : Int), d]
  | n, [], i, x, h => by simp [enumL] at h
  | n, d :: ds, i, x, h => by
    cases i with
    | zero => simp [enumL] at h; exact ⟨d, rfl, by simp [← h]⟩
    | succ i =>
      simp only [enumL, List.getElem?_cons_succ] at h
      obtain ⟨e, h1, h2⟩ := enumL_get h
      exact ⟨e, by simpa using h1, by rw [h2, show n + 1 + i = n + (i + 1) by omega]⟩
def zipL : List D → List D → List (List D)
  | x :: xs, y :: ys => [x, y] :: zipL xs ys
  | _, _ => []
theorem zipL_len : ∀ (xs ys : List D), (zipL xs ys).length = min xs.length ys.length
  | [], _ => by simp [zipL]
  | _ :: _, [] => by simp [zipL]
  | x :: xs, y :: ys => by simp only [zipL, List.length_cons, zipL_len xs ys]; omega
theorem zipL_get : ∀ {xs ys : List D} {i : Nat} {z : List D}, (zipL xs ys)[i]? = some z → ∃ x y, xs[i]? = some x ∧ ys[i]? = some y ∧ z = [x, y]
  | [], _, i, z, h => by simp [zipL] at h
  | _ :: _, [], i, z, h => by simp [zipL] at h
  | x :: xs, y :: ys, i, z, h => by
    cases i with
    | zero => simp [zipL] at h; exact ⟨x, y, rfl, rfl, h.symm⟩
    | succ i =>
      simp only [zipL, List.getElem?_cons_succ] at h
      obtain ⟨a, b, h1, h2, h3⟩ := zipL_get h
      exact ⟨a, b, by simpa using h1, by simpa using h2, h3⟩
section
variable {g : G} {F : Hp} {μ : List Addr} {ds es : List D} {xs ys : List V} {a b : Addr}
theorem walkD_enum (hs : SqL g.K F a xs) (hr : Reps g F μ ds xs) : WalkD g F μ ((enumL 0 ds).map D.wt) (Ite g.K a) := by
  refine walkD_pair fun F' H h1 h2 => ?_
  have hx : SqL g.K H a xs := sqL_mono (μ := μ) (μ' := μ) ⟨fun c o e => h2 c o (h1 c o e), fun _ _ z => z⟩ hs
  have w : Walk (Ite g.K a) xs.length (fun H => SqL g.K H a xs) (YPair (fun i => some (.int (i : Nat))) (fun i => xs[i]?)) := walk_enum
  refine ⟨fun i hi => w.goes i H (by rw [← hr.length, ← enumL_len 0]; exact hi) hx, ?_, fun i x H' z e y => ?_⟩
  · rw [enumL_len, hr.length]; exact w.stops H hx
  · obtain ⟨d, e1, rfl⟩ := enumL_get e
    obtain ⟨v, e2, e3⟩ := hr.get e1
    obtain ⟨T, u, u', h3, h4, h5, h6, h7⟩ := w.yields i H x H' ((List.getElem?_eq_some_iff.mp e2).1) hx y
    cases h6
    have h7 : xs[i]? = some u' := h7
    rw [e2] at h7; cases h7
    refine ⟨T, _, h3, h4, h5, reps_cons ?_ (reps_cons e3 reps_nil)⟩
    rw [Nat.zero_add]; exact rep_int
theorem walkD_zipL (hs : SqL g.K F a xs) (hr : Reps g F μ ds xs) (hs2 : SqL g.K F b ys) (hr2 : Reps g F μ es ys) : WalkD g F μ ((zipL ds es).map D.wt) (Itz g.K a b) := by
  refine walkD_pair fun F' H h1 h2 => ?_
  have gr : Gr F μ H μ := ⟨fun c o e => h2 c o (h1 c o e), fun _ _ z => z⟩
  have hx := sqL_mono (g := g) gr hs
  have hy := sqL_mono (g := g) gr hs2
  have w := walk_zip (K := g.K) (a := a) (b := b) (xs := xs) (ys := ys) (n := (zipL ds es).length) (by rw [zipL_len, hr.length, hr2.length])
  refine ⟨fun i hi => w.goes i H hi ⟨hx, hy⟩, w.stops H ⟨hx, hy⟩, fun i x H' z e y => ?_⟩
  obtain ⟨d, d2, e1, e1', rfl⟩ := zipL_get e
  obtain ⟨v, e2, e3⟩ := hr.get e1
  obtain ⟨v2, e2', e3'⟩ := hr2.get e1'
  obtain ⟨T, u, u', h3, h4, h5, h6, h7⟩ := w.yields i H x H' ((List.getElem?_eq_some_iff.mp e).1) ⟨hx, hy⟩ y
  have h6 : xs[i]? = some u := h6
  have h7 : ys[i]? = some u' := h7
  rw [e2] at h6; cases h6
  rw [e2'] at h7; cases h7
  exact ⟨T, _, h3, h4, h5, reps_cons e3 (reps_cons e3' reps_nil)⟩
theorem walkD_zipT (hs : SqT g.K F a xs) (hr : Reps g F μ ds xs) (hs2 : SqT g.K F b ys) (hr2 : Reps g F μ es ys) : WalkD g F μ ((zipL ds es).map D.wt) (RZ.ItzT g.K a b) := by
  refine walkD_pair fun F' H h1 h2 => ?_
  have gr : Gr F μ H μ := ⟨fun c o e => h2 c o (h1 c o e), fun _ _ z => z⟩
  have hx := sqT_mono (g := g) gr hs
  have hy := sqT_mono (g := g) gr hs2
  refine ⟨fun i hi => ?_, ?_, fun i x H' z e y => ?_⟩
  · rw [zipL_len, hr.length, hr2.length] at hi
    have q1 : i < xs.length := by omega
    have q2 : i < ys.length := by omega
    exact ⟨xs, ys, xs[i], ys[i], hx, hy, by simp [q1], by simp [q2]⟩
  · exact ⟨xs, ys, hx, hy, by rw [zipL_len, hr.length, hr2.length]; omega⟩
  · obtain ⟨d, d2, e1, e1', rfl⟩ := zipL_get e
    obtain ⟨v, e2, e3⟩ := hr.get e1
    obtain ⟨v2, e2', e3'⟩ := hr2.get e1'
    obtain ⟨T, u, u', h3, h4, h5, h6, h7⟩ := y
    have h6 := h6 xs hx
    have h7 := h7 ys hy
    rw [e2] at h6; cases h6
    rw [e2'] at h7; cases h7
    exact ⟨T, _, h3, h4, h5, reps_cons e3 (reps_cons e3' reps_nil)⟩
end
/-- the items of a value -/
def itemsD : D → M (List D)
  | .tup l, S => .ok l S
  | .lst l, S => .ok l S
  | _, _ => .stuck
def mIt (fe : EM) : IM := fun ρ S => (fe ρ S).bind itemsD
def mRange1 (fa : EM) : IM := fun ρ S => (fa ρ S).bind fun d S => match d with
  | .int j => if -(2 ^ 62) ≤ j ∧ j < 2 ^ 62 then .ok (rangeL 0 j.toNat) S else .stuck
  | _ => .stuck
def mRange2 (fa fb : EM) : IM := fun ρ S => (fa ρ S).bind fun d S => (fb ρ S).bind fun e S => match d, e with
  | .int i, .int j => if -(2 ^ 62) ≤ i ∧ i < 2 ^ 62 ∧ -(2 ^ 62) ≤ j ∧ j < 2 ^ 62 then .ok (rangeL i (j - i).toNat) S else .stuck
  | _, _ => .stuck
def mEnum (fe : EM) : IM := fun ρ S => (fe ρ S).bind fun d S => match d with
  | .lst l => .ok ((enumL 0 l).map D.wt) S
  | _ => .stuck
def mZip (fa fb : EM) : IM := fun ρ S => (fa ρ S).bind fun d S => (fb ρ S).bind fun e S => match d, e with
  | .lst l, .lst k => .ok ((zipL l k).map D.wt) S
  | .tup l, .tup k => .ok ((zipL l k).map D.wt) S
  | _, _ => .stuck
section
variable {X : Cx} {W : WX} {tg e e2 : Expr} {fe fe2 : EM} {p pos tpos : Pos}
theorem di_seq (h : DE X W e fe) : DI X W tg e (mIt fe) := by
  refine ⟨fun pins s σ H R I k => ?_⟩
  obtain ⟨P, ρ, F, μ, S, en, rl, k⟩ := k
  cases q : fe ρ S with
  | stuck => simp only [mIt, q] at k; exact k.elim
  | exn x S1 =>
    refine (pi_list (tg := tg) h).run pins s σ H R I (tD.run en rl ?_)
    rw [q]
    simp only [mIt, q] at k
    exact k
  | ok d S1 =>
    cases d <;> first | (simp only [mIt, q] at k; exact k.elim) | skip
    · rename_i l
      simp only [mIt, q] at k
      refine (pi_tup (tg := tg) h).run pins s σ H R I (tD.run en rl ?_)
      rw [q]
      intro F' μ' H' v g1 r1 p1
      simp only [Rep] at p1
      obtain ⟨a, xs, ea, ⟨hs, _⟩, hr⟩ := p1
      exact ⟨a, ea, ⟨xs, sqT_mono (g := gX X) r1.gr0 hs⟩, k F' μ' H' _ g1 r1 (walkD_tup hs hr)⟩
    · rename_i l
      simp only [mIt, q] at k
      refine (pi_list (tg := tg) h).run pins s σ H R I (tD.run en rl ?_)
      rw [q]
      intro F' μ' H' v g1 r1 p1
      simp only [Rep] at p1
      obtain ⟨a, xs, ea, hs, hr⟩ := p1
      exact ⟨a, ea, ⟨xs, sqL_mono (g := gX X) r1.gr0 hs⟩, k F' μ' H' _ g1 r1 (walkD_list hs hr)⟩
theorem di_range1 (hm : X.mg "range" = none) (h : DE X W e fe) (hg : Gl X "range" := by rfl) (hs : starEach [e] X.env = [(false, eval e X.env)] := by rfl) : DI X W tg (.Call (.Name "range" p) [e] [] pos) (mRange1 fe) := by
  refine PI.weak (pi_range1 hg hm (pa_cons h pa_nil hs) hs) fun σ H R ⟨P, ρ, F, μ, S, en, rl, k⟩ => ?_
  refine tD.run en rl (Fin.imp (Fin.bind (rep := repD (gX X)) k) (fun v H1 ⟨d, F1, μ1, S1, g1, r1, p1, k1⟩ => ?_) fun _ _ _ z => z)
  cases d <;> first | exact k1.elim | skip
  rename_i j
  simp only at k1
  split at k1
  · rename_i hj
    exact ⟨j, by rw [p1.int], hj.1, hj.2, k1.here r1 walkD_range⟩
  · exact k1.elim
theorem di_range2 (hm : X.mg "range" = none) (h : DE X W e fe) (h2 : DE X W e2 fe2) (hg : Gl X "range" := by rfl) (hs : starEach [e, e2] X.env = [(false, eval e X.env), (false, eval e2 X.env)] := by rfl) (hs2 : starEach [e2] X.env = [(false, eval e2 X.env)] := by rfl) :
    DI X W tg (.Call (.Name "range" p) [e, e2] [] pos) (mRange2 fe fe2) := by
  refine PI.weak (pi_range2 hg hm (pa_cons h (pa_cons h2 pa_nil hs2) (by rw [hs, hs2])) hs hs2) fun σ H R ⟨P, ρ, F, μ, S, en, rl, k⟩ => ?_
  refine tD.run en rl (Fin.imp (Fin.bind (rep := repD (gX X)) k) (fun v H1 ⟨d, F1, μ1, S1, g1, r1, p1, k1⟩ => ?_) fun _ _ _ z => z)
  refine tD.run (en.mono g1) r1 (Fin.imp (Fin.bind (rep := repD (gX X)) k1) (fun v2 H2 ⟨d2, F2, μ2, S2, g2, r2, p2, k2⟩ => ?_) fun _ _ _ z => z)
  cases d with
  | int i =>
    cases d2 with
    | int j =>
      simp only at k2
      split at k2
      · rename_i hj
        exact ⟨i, j, by rw [p1.int, p2.int], hj, k2.here r2 walkD_range⟩
      · exact k2.elim
    | _ => exact k2.elim
  | _ => exact k2.elim
theorem di_enum {elts : List Expr} {kk : Nat} (hm : X.mg "enumerate" = none) (h : DE X W e fe) (hg : Gl X "enumerate" := by rfl) (hs : starEach [e] X.env = [(false, eval e X.env)] := by rfl) :
    DI X W (.Tuple elts kk tpos) (.Call (.Name "enumerate" p) [e] [] pos) (mEnum fe) := by
  refine PI.weak (pi_enum hg hm (pa_cons h pa_nil hs) hs) fun σ H R ⟨P, ρ, F, μ, S, en, rl, k⟩ => ?_
  refine tD.run en rl (Fin.imp (Fin.bind (rep := repD (gX X)) k) (fun v H1 ⟨d, F1, μ1, S1, g1, r1, p1, k1⟩ => ?_) fun _ _ _ z => z)
  cases d <;> first | exact k1.elim | skip
  simp only [Rep] at p1
  obtain ⟨a, xs, ea, hs, hr⟩ := p1
  exact ⟨a, xs, by rw [ea], sqL_mono (g := gX X) r1.gr0 hs, k1.here r1 (walkD_enum hs hr)⟩
theorem di_zip {elts : List Expr} {kk : Nat} (hm : X.mg "zip" = none) (h : DE X W e fe) (h2 : DE X W e2 fe2) (hg : Gl X "zip" := by rfl) (hs : starEach [e, e2] X.env = [(false, eval e X.env), (false, eval e2 X.env)] := by rfl) (hs2 : starEach [e2] X.env = [(false, eval e2 X.env)] := by rfl) (hz : (backTo pos (starEach [e2] X.env)).any (·.1) = false := by rfl) :
    DI X W (.Tuple elts kk tpos) (.Call (.Name "zip" p) [e, e2] [] pos) (mZip fe fe2) := by
  refine PI.weak (RZ.pi_zipA hg hm (pa_cons h (pa_cons h2 pa_nil hs2) (by rw [hs, hs2])) (by rw [hs, hs2]) hz) fun σ H R ⟨P, ρ, F, μ, S, en, rl, k⟩ => ?_
  refine tD.run en rl (Fin.imp (Fin.bind (rep := repD (gX X)) k) (fun v H1 ⟨d, F1, μ1, S1, g1, r1, p1, k1⟩ => ?_) fun _ _ _ z => z)
  refine tD.run (en.mono g1) r1 (Fin.imp (Fin.bind (rep := repD (gX X)) k1) (fun v2 H2 ⟨d2, F2, μ2, S2, g2, r2, p2, k2⟩ => ?_) fun _ _ _ z => z)
  have p1 := p1.mono g2
  cases d <;> cases d2 <;> first | exact k2.elim | skip
  · simp only [Rep] at p1 p2
    obtain ⟨a, xs, ea, ⟨hs, _⟩, hr⟩ := p1
    obtain ⟨b, ys, eb, ⟨hs', _⟩, hr'⟩ := p2
    exact ⟨a, b, xs, ys, by rw [ea, eb], .inr ⟨sqT_mono (g := gX X) r2.gr0 hs, sqT_mono (g := gX X) r2.gr0 hs', k2.here r2 (walkD_zipT hs hr hs' hr')⟩⟩
  · simp only [Rep] at p1 p2
    obtain ⟨a, xs, ea, hs, hr⟩ := p1
    obtain ⟨b, ys, eb, hs', hr'⟩ := p2
    exact ⟨a, b, xs, ys, by rw [ea, eb], .inl ⟨sqL_mono (g := gX X) r2.gr0 hs, sqL_mono (g := gX X) r2.gr0 hs', k2.here r2 (walkD_zipL hs hr hs' hr')⟩⟩
end

/-! ### for -/
def mForL (gm : GM) (fb : SM) : List D → Env → Store → O
  | [], ρ, S => .go .nx ρ S
  | d :: ds, ρ, S => match gm d ρ S with
    | none => .stuck
    | some x => match fb x.1 x.2 with
      | .go .nx ρ S => mForL gm fb ds ρ S
      | .go .ct ρ S => mForL gm fb ds ρ S
      | .go .bk ρ S => .go .nx ρ S
      | o => o
def mFor (fi : IM) (gm : GM) (fb : SM) : SM := fun ρ S => (fi ρ S).to ρ fun ds S => mForL gm fb ds ρ S
theorem ds_for {X : Cx} {W : WX} {tg iter : Expr} {body : List Stmt} {fi : IM} {gm : GM} {fb : SM} {pos : Pos} (hp : PassesOwn (model X.prog X.w) X.A X.env X.xe) (hc : X.calm = true) (hi : DI X W tg iter fi) (hg : DG X tg gm) (hb : DSs X W body fb)
    (hs : ∀ x, foldedSetIterable iter X.env x = pure x := by intro _; rfl) : DS X W (.For tg iter body [] pos) (mFor fi gm fb) := by
  refine PS.weak (ps_for hp hc hi hg hb hs) fun Dn σ H ⟨P, ρ, F, μ, S, en, rl, k⟩ => ?_
  refine ⟨P, ρ, F, μ, S, en, rl, Fin.imp (FinS.to (rep := repI (gX X)) en k) (fun J H1 ⟨ds, F1, μ1, S1, g1, r1, w, k1⟩ => ?_) fun _ _ _ z => z⟩
  refine ⟨fun i m σ H => m = ds.length - i ∧ i ≤ ds.length ∧ ∃ ρ F μ S, EnvR (gX X) F μ ρ σ ∧ Rel (gX X) P F μ S H ∧ Gr F1 μ1 F μ ∧ FinS (gX X) P F μ (mForL gm fb (ds.drop i) ρ S) Dn W, ⟨_, rfl, Nat.zero_le _, ρ, F1, μ1, S1, en.mono g1, r1, Gr.refl _ _, k1⟩, ?_⟩
  rintro i m σ2 H2 ⟨rfl, hi, ρ2, F2, μ2, S2, en2, r2, g2, k2⟩
  by_cases hlt : i < ds.length
  · refine .inr ⟨w.goes P F2 μ2 S2 H2 i g2 r2 hlt, _, fun σ' H' p' => ⟨ds.length - (i + 1), by omega, p'⟩, fun x H' y => ?_⟩
    obtain ⟨F3, g3, r3, rp⟩ := w.yields P F2 μ2 S2 H2 i ds[i] x H' g2 r2 (by simp [hlt]) y
    rw [List.drop_eq_getElem_cons hlt] at k2
    unfold mForL at k2
    cases q : gm ds[i] ρ2 S2 with
    | none => rw [q] at k2; exact k2.elim
    | some z =>
      rw [q] at k2
      refine ⟨ds[i], P, ρ2, F3, μ2, S2, z.1, z.2, en2.mono g3, r3, rp, q, fun F4 μ4 H4 σ4 g4 r4 en4 => ?_⟩
      refine tDS.run en4 r4 ?_
      have gg := (g3.trans g4)
      simp only at k2
      cases q2 : fb z.1 z.2 with
      | stuck => rw [q2] at k2; exact k2.elim
      | go fl ρ5 S5 =>
        rw [q2] at k2
        intro F5 μ5 H5 g5 r5
        cases fl with
        | nx => exact fun σ5 en5 => ⟨rfl, hlt, ρ5, F5, μ5, S5, en5, r5, (g2.trans gg).trans g5, FinS.gr (gg.trans g5) k2⟩
        | ct => exact fun σ5 en5 => ⟨rfl, hlt, ρ5, F5, μ5, S5, en5, r5, (g2.trans gg).trans g5, FinS.gr (gg.trans g5) k2⟩
        | bk => exact (FinS.gr (gg.trans g5) k2).here r5
        | rt d => exact (FinS.gr (gg.trans g5) k2).here r5
        | ex e => exact (FinS.gr (gg.trans g5) k2).here r5
  · have e : i = ds.length := by omega
    subst e
    rw [List.drop_length] at k2
    exact .inl ⟨w.stops P F2 μ2 S2 H2 g2 r2, k2.here r2 σ2 en2⟩

/-! ### while -/
/-- n turns at most -/
def mWhileN (c : BM) (b : SM) : Nat → Env → Store → Option O
  | 0, _, _ => none
  | n + 1, ρ, S => match c ρ S with
    | .ok true S => match b ρ S with
      | .go .nx ρ S => mWhileN c b n ρ S
      | .go .ct ρ S => mWhileN c b n ρ S
      | .go .bk ρ S => some (.go .nx ρ S)
      | o => some o
    | .ok false S => some (.go .nx ρ S)
    | .exn e S => some (.go (.ex e) ρ S)
    | .stuck => some .stuck
open Classical in
noncomputable def mWhile (c : BM) (b : SM) : SM := fun ρ S => if h : ∃ n o, mWhileN c b n ρ S = some o then (Classical.choose_spec h).choose else .stuck
theorem mWhileN_more {c : BM} {b : SM} : ∀ {n m : Nat} {ρ : Env} {S : Store} {o : O}, mWhileN c b n ρ S = some o → n ≤ m → mWhileN c b m ρ S = some o
  | 0, _, _, _, _, h, _ => by cases h
  | n + 1, 0, _, _, _, _, hm => by omega
  | n + 1, m + 1, ρ, S, o, h, hm => by
    unfold mWhileN at h ⊢
    cases q : c ρ S with
    | stuck => rw [q] at h; exact h
    | exn e S1 => rw [q] at h; exact h
    | ok t S1 =>
      rw [q] at h
      cases t with
      | false => exact h
      | true =>
        simp only at h ⊢
        cases q2 : b ρ S1 with
        | stuck => rw [q2] at h; exact h
        | go fl ρ2 S2 =>
          rw [q2] at h
          cases fl with
          | nx => exact mWhileN_more h (by omega)
          | ct => exact mWhileN_more h (by omega)
          | bk => exact h
          | rt d => exact h
          | ex e => exact h
theorem mWhile_of {c : BM} {b : SM} {n : Nat} {ρ : Env} {S : Store} {o : O} (h : mWhileN c b n ρ S = some o) : mWhile c b ρ S = o := by
  unfold mWhile
  have hx : ∃ n o, mWhileN c b n ρ S = some o := ⟨n, o, h⟩
  rw [dif_pos hx]
  have h1 := (Classical.choose_spec hx).choose_spec
  have h2 := mWhileN_more h (Nat.le_max_left n (Classical.choose hx))
  have h3 := mWhileN_more h1 (Nat.le_max_right n (Classical.choose hx))
  rw [h2] at h3
  exact (Option.some.inj h3).symm
theorem mWhile_get {c : BM} {b : SM} {ρ : Env} {S : Store} (h : mWhile c b ρ S ≠ .stuck) : ∃ n, mWhileN c b n ρ S = some (mWhile c b ρ S) := by
  by_cases hx : ∃ n o, mWhileN c b n ρ S = some o
  · obtain ⟨n, o, e⟩ := hx
    exact ⟨n, by rw [mWhile_of e]; exact e⟩
  · exact absurd (by unfold mWhile; rw [dif_neg hx]) h
/-- one turn -/
theorem mWhile_eq (c : BM) (b : SM) (ρ : Env) (S : Store) : mWhile c b ρ S = (c ρ S).to ρ fun t S => if t then (match b ρ S with
    | .go .nx ρ S => mWhile c b ρ S
    | .go .ct ρ S => mWhile c b ρ S
    | .go .bk ρ S => .go .nx ρ S
    | o => o) else .go .nx ρ S := by
  have up : ∀ (ρ2 : Env) (S2 : Store) (o : O), (∀ n o', mWhileN c b n ρ2 S2 = some o' → mWhileN c b (n + 1) ρ S = some o') → (∀ n o', mWhileN c b (n + 1) ρ S = some o' → mWhileN c b n ρ2 S2 = some o') → mWhile c b ρ S = mWhile c b ρ2 S2 := fun ρ2 S2 o h1 h2 => by
    by_cases hx : ∃ n o, mWhileN c b n ρ2 S2 = some o
    · obtain ⟨n, o, e⟩ := hx
      rw [mWhile_of e, mWhile_of (h1 n o e)]
    · have hy : ¬ ∃ n o, mWhileN c b n ρ S = some o := fun ⟨n, o, e⟩ => by
        cases n with
        | zero => cases e
        | succ n => exact hx ⟨n, o, h2 n o e⟩
      unfold mWhile
      rw [dif_neg hx, dif_neg hy]
  cases q : c ρ S with
  | stuck => exact mWhile_of (n := 1) (by unfold mWhileN; rw [q]; rfl)
  | exn e S1 => exact mWhile_of (n := 1) (by unfold mWhileN; rw [q]; rfl)
  | ok t S1 =>
    cases t with
    | false => exact mWhile_of (n := 1) (by unfold mWhileN; rw [q]; rfl)
    | true =>
      simp only [R.to_ok, if_true]
      cases q2 : b ρ S1 with
      | stuck => exact mWhile_of (n := 1) (by unfold mWhileN; rw [q]; simp only [q2])
      | go fl ρ2 S2 =>
        cases fl with
        | nx => exact up ρ2 S2 .stuck (fun n o' e => by unfold mWhileN; rw [q]; simp only [q2]; exact e) (fun n o' e => by unfold mWhileN at e; rw [q] at e; simp only [q2] at e; exact e)
        | ct => exact up ρ2 S2 .stuck (fun n o' e => by unfold mWhileN; rw [q]; simp only [q2]; exact e) (fun n o' e => by unfold mWhileN at e; rw [q] at e; simp only [q2] at e; exact e)
        | bk => exact mWhile_of (n := 1) (by unfold mWhileN; rw [q]; simp only [q2])
        | rt d => exact mWhile_of (n := 1) (by unfold mWhileN; rw [q]; simp only [q2])
        | ex e => exact mWhile_of (n := 1) (by unfold mWhileN; rw [q]; simp only [q2])
theorem ds_while {X : Cx} {W : WX} {c : Expr} {body : List Stmt} {fc : BM} {fb : SM} {pos : Pos} (hp : PassesOwn (model X.prog X.w) X.A X.env X.xe) (hc : DB X W c fc) (hb : DSs X W body fb) : DS X W (.While c body [] pos) (mWhile fc fb) := by
  refine PS.weak (ps_while hp hc hb) fun Dn σ H ⟨P, ρ, F, μ, S, en, rl, k⟩ => ?_
  have hn : mWhile fc fb ρ S ≠ .stuck := fun z => by rw [z] at k; exact k.elim
  obtain ⟨n, e⟩ := mWhile_get hn
  refine ⟨fun m σ H => ∃ ρ F μ S o, EnvR (gX X) F μ ρ σ ∧ Rel (gX X) P F μ S H ∧ mWhileN fc fb m ρ S = some o ∧ FinS (gX X) P F μ o Dn W, ⟨n, ρ, F, μ, S, _, en, rl, e, k⟩, ?_⟩
  rintro m σ1 H1 ⟨ρ1, F1, μ1, S1, o, en1, r1, e1, k1⟩
  cases m with
  | zero => cases e1
  | succ m =>
    unfold mWhileN at e1
    refine tDB.run en1 r1 ?_
    cases q : fc ρ1 S1 with
    | stuck => rw [q] at e1; cases e1; exact k1.elim
    | exn x S2 =>
      rw [q] at e1; cases e1
      exact fun F' μ' H' c d g1 g2 g3 => k1 F' μ' H' g1 g2 σ1 c d (en1.mono g1) g3
    | ok t S2 =>
      rw [q] at e1
      intro F2 μ2 H2 t' g2 r2 p2
      cases p2
      cases t with
      | false =>
        cases e1
        exact iteF ((FinS.gr g2 k1).here r2 σ1 (en1.mono g2))
      | true =>
        simp only at e1
        refine iteT ⟨fun σ' H' => ∃ ρ F μ S o, EnvR (gX X) F μ ρ σ' ∧ Rel (gX X) P F μ S H' ∧ mWhileN fc fb m ρ S = some o ∧ FinS (gX X) P F μ o Dn W, fun σ' H' z => ⟨m, Nat.lt_succ_self m, z⟩, tDS.run (en1.mono g2) r2 ?_⟩
        cases q2 : fb ρ1 S2 with
        | stuck => rw [q2] at e1; cases e1; exact k1.elim
        | go fl ρ3 S3 =>
          rw [q2] at e1
          intro F3 μ3 H3 g3 r3
          cases fl with
          | nx => exact fun σ3 en3 => ⟨ρ3, F3, μ3, S3, o, en3, r3, e1, FinS.gr (g2.trans g3) k1⟩
          | ct => exact fun σ3 en3 => ⟨ρ3, F3, μ3, S3, o, en3, r3, e1, FinS.gr (g2.trans g3) k1⟩
          | bk => cases e1; exact (FinS.gr (g2.trans g3) k1).here r3
          | rt d => cases e1; exact (FinS.gr (g2.trans g3) k1).here r3
          | ex x => cases e1; exact (FinS.gr (g2.trans g3) k1).here r3

/-! ### comprehensions -/
abbrev W0 : WX := fun _ _ _ _ => False
def wipeD (ρ : Env) : List Nat → Env
  | [] => ρ
  | v :: vs => (wipeD ρ vs).set v none
theorem EnvR.wipe {g : G} {F : Hp} {μ : List Addr} {ρ : Env} {σ : L2.St} (h : EnvR g F μ ρ σ) : ∀ vs : List Nat, EnvR g F μ (wipeD ρ vs) (L2.wipe σ vs)
  | [] => h
  | v :: vs => by
    have ih := EnvR.wipe h vs
    refine ⟨by simp [wipeD, L2.wipe, ih.len], fun i d e => ?_⟩
    unfold wipeD at e
    unfold L2.wipe
    by_cases hv : v = i
    · subst hv
      by_cases hl : v < (wipeD ρ vs).length
      · rw [List.getElem?_set_self hl] at e; cases e
      · rw [List.getElem?_eq_none (by simpa using hl)] at e; cases e
    · rw [List.getElem?_set_ne hv] at e
      obtain ⟨w, h1, h2⟩ := ih.at_ i d e
      exact ⟨w, by rw [List.getElem?_set_ne hv]; exact h1, h2⟩
/-- targets that store in the slots vs alone -/
def tDGw (g : G) (vs : List Nat) (f : GM) : TG := fun v σ H Q => ∃ d P ρ F μ S ρ' S', EnvR g F μ ρ σ ∧ Rel g P F μ S H ∧ Rep g F μ d v ∧ f d ρ S = some (ρ', S') ∧ ∀ F' μ' H' σ', Gr F μ F' μ' → Rel g P F' μ' S' H' → EnvR g F' μ' ρ' σ' → L2.wipe σ' vs = L2.wipe σ vs → Q σ' H'
def tDGsw (g : G) (vs : List Nat) (f : List D → Env → Store → Option (Env × Store)) : TGs := fun ws σ H Q => ∃ ds P ρ F μ S ρ' S', EnvR g F μ ρ σ ∧ Rel g P F μ S H ∧ Reps g F μ ds ws ∧ f ds ρ S = some (ρ', S') ∧ ∀ F' μ' H' σ', Gr F μ F' μ' → Rel g P F' μ' S' H' → EnvR g F' μ' ρ' σ' → L2.wipe σ' vs = L2.wipe σ vs → Q σ' H'
abbrev DGw (X : Cx) (vs : List Nat) (e : Expr) (f : GM) : Prop := PG X e (tDGw (gX X) vs f)
abbrev DGsw (X : Cx) (vs : List Nat) (es : List Expr) (f : List D → Env → Store → Option (Env × Store)) : Prop := PGs X es (tDGsw (gX X) vs f)
theorem wipe_set {σ : L2.St} {i : Nat} {x : Option V} : ∀ {vs : List Nat}, i ∈ vs → L2.wipe (σ.set i x) vs = L2.wipe σ vs
  | v :: vs, h => by
    unfold L2.wipe
    by_cases hv : i ∈ vs
    · rw [wipe_set hv]
    · have e : v = i := by
        rcases List.mem_cons.mp h with e | e
        · exact e.symm
        · exact absurd e hv
      subst e
      have key : ∀ ws : List Nat, v ∉ ws → L2.wipe (σ.set v x) ws = (L2.wipe σ ws).set v x := by
        intro ws
        induction ws with
        | nil => intro _; rfl
        | cons w ws ih =>
          intro hw
          unfold L2.wipe
          rw [ih fun z => hw (List.mem_cons_of_mem _ z)]
          exact List.set_comm _ _ (fun z => hw (by rw [z]; exact List.mem_cons_self))
      rw [key vs hv, List.set_set]
section
variable {X : Cx} {vs : List Nat} {pos : Pos} {gm : GM}
theorem dgw_name (i : Nat) {x : Str} (hv : i ∈ vs) (hN : X.N.Nodup) (hi : X.N[i]? = some x := by rfl) (hx : Loc X.env.scope x := by first | exact .inl rfl | exact .inr rfl) (hf : X.fn x = true ∨ X.env.scope.names.lookup x = some .local := by first | exact .inl rfl | exact .inr rfl) : DGw X vs (.Name x pos) (gN i) :=
  PG.weak (pg_name hN hi hx hf) fun v σ H Q ⟨d, P, ρ, F, μ, S, ρ', S', en, rl, p, e, k⟩ => by
    cases e
    exact k F μ H _ (Gr.refl _ _) rl (en.set p) (wipe_set hv)
theorem dgsw_nil : DGsw X vs [] gNilM := PGs.weak pgs_nil fun v σ H Q ⟨ds, P, ρ, F, μ, S, ρ', S', en, rl, p, e, k⟩ => by
  cases ds with
  | cons _ _ => cases e
  | nil =>
    cases e
    simp only [Reps] at p
    exact ⟨p, k F μ H σ (Gr.refl _ _) rl en rfl⟩
theorem dgsw_cons {e : Expr} {es : List Expr} {r : List D → Env → Store → Option (Env × Store)} (h1 : DGw X vs e gm) (h2 : DGsw X vs es r)
    (hs : (assignEach (e :: es) X.env).map (·.2) = assign e X.env :: (assignEach es X.env).map (·.2) := by rfl) : DGsw X vs (e :: es) (gConsM gm r) :=
  PGs.weak (pgs_cons h1 h2 hs) fun v σ H Q ⟨ds, P, ρ, F, μ, S, ρ', S', en, rl, p, e, k⟩ => by
    cases ds with
    | nil => cases e
    | cons d ds =>
      simp only [Reps] at p
      obtain ⟨v, ws, rfl, p1, p2⟩ := p
      unfold gConsM at e
      cases q : gm d ρ S with
      | none => simp [q] at e
      | some x =>
        simp [q] at e
        refine ⟨v, ws, rfl, d, P, ρ, F, μ, S, x.1, x.2, en, rl, p1, q, fun F' μ' H' σ' g1 r1 en1 w1 => ?_⟩
        exact ⟨ds, P, x.1, F', μ', x.2, ρ', S', en1, r1, p2.mono g1, e, fun F2 μ2 H2 σ2 g2 r2 en2 w2 => k F2 μ2 H2 σ2 (g1.trans g2) r2 en2 (w2.trans w1)⟩
theorem dgw_tup {es : List Expr} {k n : Nat} {r : List D → Env → Store → Option (Env × Store)} (hc : X.calm = true) (h : DGsw X vs es r)
    (hn : (assignEach es X.env).length = n := by rfl) (hst : (assignEach es X.env).findIdx? (·.1) = none := by rfl) : DGw X vs (.Tuple es k pos) (gTupM n r) :=
  PG.weak (pg_or (pg_tup hc h hn hst) (pg_lst hc h hn hst)) fun v σ H Q ⟨d, P, ρ, F, μ, S, ρ', S', en, rl, p, e, k⟩ => by
    have sb : Gr F μ H μ := rl.gr0
    cases d <;> first | (cases e; done) | skip
    · rename_i l
      have e : (if l.length = n then r l ρ S else none) = some (ρ', S') := e
      split at e
      · rename_i hl
        simp only [Rep] at p
        obtain ⟨a, xs, rfl, ⟨hs, _⟩, hr⟩ := p
        exact .inl ⟨a, xs, rfl, sqT_mono (g := gX X) sb hs, hr.length.symm.trans hl, l, P, ρ, F, μ, S, ρ', S', en, rl, hr, e, k⟩
      · cases e
    · rename_i l
      have e : (if l.length = n then r l ρ S else none) = some (ρ', S') := e
      split at e
      · rename_i hl
        simp only [Rep] at p
        obtain ⟨a, xs, rfl, hs, hr⟩ := p
        exact .inl ⟨a, xs, rfl, sqT_mono (g := gX X) sb hs, hr.length.symm.trans hl, l, P, ρ, F, μ, S, ρ', S', en, rl, hr, e, k⟩
      · cases e
    · rename_i l
      have e : (if l.length = n then r l ρ S else none) = some (ρ', S') := e
      split at e
      · rename_i hl
        simp only [Rep] at p
        obtain ⟨a, xs, rfl, hs, hr⟩ := p
        exact .inr ⟨a, xs, rfl, sqL_mono (g := gX X) sb hs, hr.length.symm.trans hl, l, P, ρ, F, μ, S, ρ', S', en, rl, hr, e, k⟩
      · cases e
end
/-- nothing is raised here -/
def R.nx {α : Type} : R α → R α
  | .exn _ _ => .stuck
  | r => r
@[simp] theorem R.nx_ok {α : Type} (a : α) (S : Store) : (R.ok a S).nx = .ok a S := rfl
@[simp] theorem R.nx_stuck {α : Type} : (R.stuck : R α).nx = .stuck := rfl
theorem Fin.nx {α β : Type} {rep : Hp → List Addr → α → β → Prop} {g : G} {P F : Hp} {μ : List Addr} {r : R α} {Q : β → Hp → Prop} {E E' : XK} (h : Fin rep g P F μ r.nx Q E) : Fin rep g P F μ r Q E' := by
  cases r with
  | ok a S => exact h
  | exn e S => exact h.elim
  | stuck => exact h
def mYes : BM := fun _ S => .ok true S
def mLcL (gm : GM) (tt : BM) (te : EM) (ρ : Env) : List D → M (List D)
  | [], S => .ok [] S
  | d :: ds, S => match gm d ρ S with
    | none => .stuck
    | some x => (tt x.1 x.2).nx.bind fun b S => if b then (te x.1 S).nx.bind fun y S => (mLcL gm tt te ρ ds S).bind fun ys S => .ok (y :: ys) S else mLcL gm tt te ρ ds S
/-- what the new list becomes: frozen, or a place -/
def fzL (l : List D) : M D := fun S => .ok (.lst l) S
def plL (l : List D) : M D := fun S => .ok (.ref S.length) (S ++ [.lst l])
def FinL (g : G) (fin : List D → M D) : Prop := ∀ (P F : Hp) (μ : List Addr) (S : Store) (H : Hp) (p : Addr) (acc : List V) (accD : List D) (Q : VK) (E : XK), Rel g (upd P p (.lst acc)) F μ S H → P p = none → Reps g F μ accD acc → Fin (repD g) g P F μ (fin accD S) Q E → Q (.ref p) H
theorem finL_fz {g : G} : FinL g fzL := fun P F μ S H p acc accD Q E r nP pa k => by
  obtain ⟨r4, g4⟩ := r.unhide (P' := P) (o := .lst acc) upd_same (fun a o e => by rw [upd_ne (ne_of_none e nP)]; exact e) nP
  exact (Fin.gr g4 k).here r4 (by simp only [Rep]; exact ⟨p, acc, rfl, .inl (.inl upd_same), pa.mono g4⟩)
theorem finL_pl {g : G} : FinL g plL := fun P F μ S H p acc accD Q E r nP pa k => by
  have g0 : Gr F μ F (μ ++ [p]) := ⟨fun _ _ h => h, fun n q h => by
    have : n < μ.length := (List.getElem?_eq_some_iff.mp h).1
    rw [List.getElem?_append_left this]; exact h⟩
  obtain ⟨r4, g4, e4⟩ := r.place (P' := P) (u := .lst acc) (o := .lst accD) upd_same (fun a o e => by rw [upd_ne (ne_of_none e nP)]; exact e) nP ⟨acc, rfl, pa.mono g0⟩
  exact (Fin.gr g4 k).here r4 (by simp only [Rep]; exact ⟨p, e4, rfl⟩)
def mLcF (fin : List D → M D) (vs : List Nat) (fi : IM) (gm : GM) (tt : BM) (te : EM) : EM := fun ρ S => (fi ρ S).bind fun ds S => if ds.length ≤ sizeLine then (mLcL gm tt te (wipeD ρ vs) ds S).bind fin else .stuck
abbrev mLc := mLcF fzL
abbrev mLcN := mLcF plL
/-- the core: the loop of a comprehension by its mirror -/
theorem lc_run {g : G} {W : WX} {fin : List D → M D} (hfin : FinL g fin) {gm : GM} {tt : BM} {te : EM} {fi : IM} {vs : List Nat} : ∀ σ H Q, tD g W (mLcF fin vs fi gm tt te) σ H Q → tLc (tDI g W fi) (tDGw g vs gm) (tDB g W0 tt) (tD g W0 te) vs σ H Q := fun σ H Q ⟨P, ρ, F, μ, S, en, rl, k⟩ => by
  refine ⟨P, ρ, F, μ, S, en, rl, Fin.imp (Fin.bind (rep := repI g) k) (fun J H1 ⟨ds, F1, μ1, S1, g1, r1, w, k1⟩ => ?_) fun _ _ _ z => z⟩
  split at k1
  rotate_left
  · exact k1.elim
  rename_i hlen
  intro Dl hD
  have nP : P Dl = none := by
    cases e : P Dl with
    | none => rfl
    | some u => rw [(r1.priv Dl u e).1] at hD; cases hD
  refine ⟨fun i m H => m = ds.length - i ∧ i ≤ ds.length ∧ ∃ acc accD F μ S, Rel g (upd P Dl (.lst acc)) F μ S H ∧ Gr F1 μ1 F μ ∧ Reps g F μ accD acc ∧ acc.length ≤ i ∧
    Fin (repD g) g P F μ ((mLcL gm tt te (wipeD ρ vs) (ds.drop i) S).bind fun l S => fin (accD ++ l) S) Q (fun c d H' => W c d σ H'),
    ⟨_, rfl, Nat.zero_le _, [], [], F1, μ1, S1, r1.hide hD, Gr.refl _ _, reps_nil, Nat.zero_le _, k1⟩, ?_⟩
  rintro i m H2 ⟨rfl, hi, acc, accD, F2, μ2, S2, r2, g2, pa, hl, k2⟩
  by_cases hlt : i < ds.length
  · refine .inr ⟨w.goes _ F2 μ2 S2 H2 i g2 r2 hlt, _, fun H' p' => ⟨ds.length - (i + 1), by omega, p'⟩, fun x H' y => ?_⟩
    obtain ⟨F3, g3, r3, rp⟩ := w.yields _ F2 μ2 S2 H2 i ds[i] x H' g2 r2 (by simp [hlt]) y
    rw [List.drop_eq_getElem_cons hlt] at k2
    unfold mLcL at k2
    cases q : gm ds[i] (wipeD ρ vs) S2 with
    | none => rw [q] at k2; exact k2.elim
    | some z =>
      rw [q] at k2
      simp only at k2
      have enw : EnvR g F3 μ2 (wipeD ρ vs) (L2.wipe σ vs) := ((en.mono (g1.trans g2)).mono g3).wipe vs
      refine ⟨ds[i], _, wipeD ρ vs, F3, μ2, S2, z.1, z.2, enw, r3, rp, q, fun F4 μ4 H4 σ4 g4 r4 en4 w4 => ?_⟩
      refine ⟨?_, ?_⟩
      · rw [w4]
        have key : ∀ (σ : L2.St) (ws us : List Nat), (∀ u ∈ us, u ∈ ws) → L2.wipe (L2.wipe σ us) ws = L2.wipe σ ws := by
          intro σ ws us
          induction us with
          | nil => intro _; rfl
          | cons u us ih =>
            intro h
            show L2.wipe ((L2.wipe σ us).set u none) ws = _
            rw [wipe_set (h u List.mem_cons_self)]
            exact ih fun v hv => h v (List.mem_cons_of_mem _ hv)
        exact key σ vs vs fun _ h => h
      · cases qt : tt z.1 z.2 with
        | stuck => rw [qt] at k2; exact k2.elim
        | exn e S5 => rw [qt] at k2; exact k2.elim
        | ok b S5 =>
          rw [qt] at k2
          refine tDB.run en4 r4 ?_
          rw [qt]
          intro F5 μ5 H5 b' g5 r5 eb
          cases eb
          simp only [R.nx_ok, R.bind_ok] at k2
          have g25 := (g3.trans g4).trans g5
          cases b with
          | false =>
            refine iteF ⟨rfl, hlt, acc, accD, F5, μ5, S5, r5, g2.trans g25, pa.mono g25, Nat.le_succ_of_le hl, Fin.gr g25 ?_⟩
            simpa using k2
          | true =>
            simp only [if_true] at k2
            refine iteT ?_
            cases qe : te z.1 S5 with
            | stuck => rw [qe] at k2; exact k2.elim
            | exn e S6 => rw [qe] at k2; exact k2.elim
            | ok yv S6 =>
              rw [qe] at k2
              simp only [R.nx_ok, R.bind_ok] at k2
              refine tD.run (en4.mono g5) r5 ?_
              rw [qe]
              intro F6 μ6 H6 vy g6 r6 py
              have g26 := g25.trans g6
              refine ⟨acc, (r6.priv Dl _ upd_same).1, by have := Nat.lt_of_le_of_lt hl hlt; omega, rfl, hlt, acc ++ [vy], accD ++ [yv], F6, μ6, S6, ?_, g2.trans g26, (pa.mono g26).append (reps_cons py reps_nil), by rw [List.length_append, List.length_singleton]; omega, Fin.gr g26 ?_⟩
              · have := r6.hidden (o' := .lst (acc ++ [vy])) (upd_same (H := P) (a := Dl) (o := .lst acc))
                rw [upd_upd] at this
                exact this
              · have e : ((mLcL gm tt te (wipeD ρ vs) (ds.drop (i + 1)) S6).bind fun ys S => (R.ok (yv :: ys) S)).bind (fun l S => fin (accD ++ l) S) = (mLcL gm tt te (wipeD ρ vs) (ds.drop (i + 1)) S6).bind fun l S => fin ((accD ++ [yv]) ++ l) S := by
                  cases mLcL gm tt te (wipeD ρ vs) (ds.drop (i + 1)) S6 <;> simp
                rw [← e]
                exact k2
  · have e : i = ds.length := by omega
    subst e
    rw [List.drop_length] at k2
    simp only [mLcL, R.bind_ok, List.append_nil] at k2
    exact .inl ⟨w.stops _ F2 μ2 S2 H2 g2 r2, hfin P F2 μ2 S2 H2 Dl acc accD Q _ r2 nP pa k2⟩
section
variable {X : Cx} {W : WX} {elt tg iter : Expr} {ifs : List Expr} {scope : Scope} {own : List (Str × Nat)} {pos : Pos} {fi : IM} {gm : GM} {tt : BM} {te : EM}
abbrev DT (X : Cx) (W : WX) (es : List Expr) (f : BM) : Prop := PTs X es (tDB (gX X) W f)
theorem dt_nil {X : Cx} {W : WX} : DT X W [] mYes := by
  refine ⟨fun pins s σ H Q I h => ?_⟩
  obtain ⟨P, ρ, F, μ, S, en, rl, k⟩ := h
  exact pts_nil.run pins s σ H Q I (k.here rl rfl)
theorem dt_one {X : Cx} {W : WX} {e : Expr} {f : BM} (h : DB X W e f) : DT X W [e] f := pts_one h
theorem d_lc {fin : List D → M D} (hfin : FinL (gX X) fin) (hc : X.calm = true) (hN : X.N.Nodup) (hi : DI X W tg iter fi) (ok : BlkOk X.N X.env.scope scope own)
    (hg : ∀ (s : Shared) (H : Hp) (C : Addr) (cl : List (Str × Addr)) (fp : List Addr), DGw (X.blk s H scope (compEnvC scope cl C X.env) fp) (own.map (·.2)) tg gm) (ht : ∀ (s : Shared) (H : Hp) (C : Addr) (cl : List (Str × Addr)) (fp : List Addr), DT (X.blk s H scope (compEnvC scope cl C X.env) fp) W0 ifs tt)
    (he : ∀ (s : Shared) (H : Hp) (C : Addr) (cl : List (Str × Addr)) (fp : List Addr), DE (X.blk s H scope (compEnvC scope cl C X.env) fp) W0 elt te) (hs : ∀ x, foldedSetIterable iter X.env x = pure x := by intro _; rfl) :
    DE X W (.ListComp elt [⟨tg, iter, ifs, 0⟩] scope pos) (mLcF fin (own.map (·.2)) fi gm tt te) := PE.weak (pe_lc hc hN hi ok hg ht he hs) (lc_run hfin)
theorem ds_setLc {fin : List D → M D} (hfin : FinL (gX X) fin) (i : Nat) {y : Str} {py spos : Pos} (hc : X.calm = true) (hN : X.N.Nodup) (hi : DI X W tg iter fi) (ok : BlkOk X.N X.env.scope scope own)
    (hg : ∀ (s : Shared) (H : Hp) (C : Addr) (cl : List (Str × Addr)) (fp : List Addr), DGw (X.blk s H scope (compEnvC scope cl C X.env) fp) (own.map (·.2)) tg gm) (ht : ∀ (s : Shared) (H : Hp) (C : Addr) (cl : List (Str × Addr)) (fp : List Addr), DT (X.blk s H scope (compEnvC scope cl C X.env) fp) W0 ifs tt)
    (he : ∀ (s : Shared) (H : Hp) (C : Addr) (cl : List (Str × Addr)) (fp : List Addr), DE (X.blk s H scope (compEnvC scope cl C X.env) fp) W0 elt te)
    (hsw : swapsWith (.ListComp elt [⟨tg, iter, ifs, 0⟩] scope pos) (some (.Name y py)) spos.line X.env = pure true) (hy : X.N[i]? = some y := by rfl) (hyl : X.env.scope.names.lookup y = some .local := by rfl) (hs : ∀ x, foldedSetIterable iter X.env x = pure x := by intro _; rfl) :
    DS X W (.Assign [.Name y py] (.ListComp elt [⟨tg, iter, ifs, 0⟩] scope pos) spos) (mAsg (mLcF fin (own.map (·.2)) fi gm tt te) (gN i)) := by
  refine PS.weak (ps_setLc (g := tDGw (gX X) (own.map (·.2)) gm) (tt := tDB (gX X) W0 tt) (te := tD (gX X) W0 te) hc hN hy hyl hsw hi ok hg ht he hs) fun Dn σ H ⟨P, ρ, F, μ, S, en, rl, k⟩ => ?_
  refine lc_run hfin σ H _ (tD.run en rl (Fin.imp (FinS.to (rep := repD (gX X)) en k) (fun v H1 ⟨a, F1, μ1, S1, g1, r1, p1, k1⟩ => ?_) fun _ _ _ z => z))
  exact k1 F1 μ1 H1 (Gr.refl _ _) r1 _ ((en.mono g1).set p1)
end
end DL

/-! The data layer, 7: stores into lists, methods of lists, the end of a law. -/
namespace DL
open PySem PySem.Spec PyProof.Rows L2

/-! ### x[i] = e -/
def setIx (o i d : D) (S : Store) : Option Store := match o, i with
  | .ref n, .int k => match S[n]? with
    | some (.lst l) => match ixN l.length k with
      | some j => some (S.set n (.lst (l.set j d)))
      | none => none
    | _ => none
  | _, _ => none
def gSubM (fo fi : EM) : GM := fun d ρ S => match (fo ρ S).nx with
  | .ok o S1 => match (fi ρ S1).nx with
    | .ok i S2 => (setIx o i d S2).map fun S3 => (ρ, S3)
    | _ => none
  | _ => none
section
variable {X : Cx} {W : WX} {pos : Pos} {o i : Expr} {fo fi : EM}
theorem dg_sub (ho : DE X W o fo) (hi : DE X W i fi) (ha : ∀ v, assign (.Subscript o i pos) X.env v = (do
      let ov ← holding [v] (eval o X.env)
      let iv ← holding [v, ov] (eval i X.env)
      standAt pos
      holding [v, ov, iv] (setItem ov iv v)
      release [v, ov, iv] []) := by intro _; rfl) : DG X (.Subscript o i pos) (gSubM fo fi) :=
  PG.weak (pg_sub ho hi set_list ha) fun v σ H Q ⟨d, P, ρ, F, μ, S, ρ', S', en, rl, p, e, k⟩ => by
    unfold gSubM at e
    cases q : fo ρ S with
    | stuck => rw [q] at e; cases e
    | exn x S1 => rw [q] at e; cases e
    | ok x S1 =>
      rw [q] at e
      simp only [R.nx_ok] at e
      refine tD.run en rl ?_
      rw [q]
      intro F1 μ1 H1 vx g1 r1 p1
      cases q2 : fi ρ S1 with
      | stuck => rw [q2] at e; cases e
      | exn x S1 => rw [q2] at e; cases e
      | ok y S2 =>
        rw [q2] at e
        simp only [R.nx_ok] at e
        refine tD.run (en.mono g1) r1 ?_
        rw [q2]
        intro F2 μ2 H2 vy g2 r2 p2
        have px := p1.mono g2
        unfold setIx at e
        cases x with
        | ref n =>
          cases y with
          | int z =>
            simp only at e
            cases qs : S2[n]? with
            | none => rw [qs] at e; cases e
            | some ob =>
              rw [qs] at e
              cases ob with
              | lst l =>
                simp only at e
                cases qi : ixN l.length z with
                | none => rw [qi] at e; cases e
                | some j =>
                  rw [qi] at e
                  simp only [Option.map_some, Option.some.injEq, Prod.mk.injEq] at e
                  obtain ⟨rfl, rfl⟩ := e
                  obtain ⟨a, xs, rfl, hm, hH, hr⟩ := px.refL r2 qs
                  refine ⟨a, xs, z, j, rfl, p2.int, hH, by rw [← hr.length]; exact qi, ?_⟩
                  have gg := g1.trans g2
                  exact k F2 μ2 _ σ gg (r2.write qs (by intro z; cases z) hm ⟨_, rfl, hr.set j (p.mono gg)⟩) (en.mono gg)
              | _ => cases e
          | _ => cases e
        | _ => cases e
end

/-! ### methods of built-in types -/
/-- a method by values: the receiver's type, the mirror -/
def MetD (X : Cx) (T id : String) (ok : D → Store → Bool) (m : D → List D → M D) : Prop :=
  (∀ (P F : Hp) (μ : List Addr) (S : Store) (H : Hp) (d : D) (v : V), Rel (gX X) P F μ S H → Rep (gX X) F μ d v → ok d S = true → tyV X.K T v H) ∧
  MtR X id (fun v vs H Q => ∃ d ds P F μ S E, Rel (gX X) P F μ S H ∧ Rep (gX X) F μ d v ∧ Reps (gX X) F μ ds vs ∧ Fin (repD (gX X)) (gX X) P F μ (m d ds S) Q E)
def mMet (ok : D → Store → Bool) (m : D → List D → M D) (fo : EM) (fa : AM) : EM := fun ρ S => (fo ρ S).bind fun o S => if ok o S then (fa ρ S).bind fun ds S => m o ds S else .stuck
section
variable {X : Cx} {W : WX} {o e : Expr} {es : List Expr} {fo : EM} {fa : AM} {name : Str} {apos cpos : Pos} {T id : String} {ok : D → Store → Bool} {m : D → List D → M D}
theorem d_met (hm : MetD X T id ok m) (pa : PlainAttrs T) (slot : Slot T name id) (hty : typeOf (.builtin id) = pure (.type "method_descriptor")) (ho : DE X W o fo) (ha : DA X W (e :: es) fa)
    (hbase : attributeBase o name X.env (eval o X.env) = eval o X.env := by rfl)
    (hfew : ((backTo cpos (starEach (e :: es) X.env)).all (fun x => !x.1) && (backToKw cpos (keywordEach [] X.env)).all (fun x => x.1.isSome)
      && decide ((e :: es).length + ([] : List Keyword).length + (if ([] : List Keyword).isEmpty then 0 else 1) < 30)) = true := by rfl)
    (hline : (apos.endLine == cpos.line) = true := by rfl) (hs : starEach (e :: es) X.env = (false, eval e X.env) :: starEach es X.env := by rfl) (hplain : (backTo cpos (starEach es X.env)).any (·.1) = false := by rfl) :
    DE X W (.Call (.Attribute o name apos) (e :: es) [] cpos) (mMet ok m fo fa) := by
  refine PE.weak (pe_bm pa slot hty hm.2 ho ha hbase hfew hline hs hplain) fun σ H Q ⟨P, ρ, F, μ, S, en, rl, k⟩ => ?_
  refine tD.run en rl (Fin.imp (Fin.bind (rep := repD (gX X)) k) (fun v H1 ⟨x, F1, μ1, S1, g1, r1, p1, k1⟩ => ?_) fun _ _ _ z => z)
  split at k1
  · rename_i hk
    refine ⟨hm.1 P F1 μ1 S1 H1 x v r1 p1 hk, ?_⟩
    refine tDA.run (en.mono g1) r1 (Fin.imp (Fin.bind (rep := repA (gX X)) k1) (fun vs H2 ⟨ds, F2, μ2, S2, g2, r2, p2, k2⟩ => ?_) fun _ _ _ z => z)
    exact ⟨x, ds, P, F2, μ2, S2, _, r2, p1.mono g2, p2, k2⟩
  · exact k1.elim
theorem d_met0 (hm : MetD X T id ok m) (pa : PlainAttrs T) (slot : Slot T name id) (hty : typeOf (.builtin id) = pure (.type "method_descriptor")) (ho : DE X W o fo)
    (hbase : attributeBase o name X.env (eval o X.env) = eval o X.env := by rfl) (hline : (apos.endLine == cpos.line) = true := by rfl) : DE X W (.Call (.Attribute o name apos) [] [] cpos) (mMet ok m fo mNil) := by
  refine PE.weak (pe_bm0 pa slot hty hm.2 ho hbase hline) fun σ H Q ⟨P, ρ, F, μ, S, en, rl, k⟩ => ?_
  refine tD.run en rl (Fin.imp (Fin.bind (rep := repD (gX X)) k) (fun v H1 ⟨x, F1, μ1, S1, g1, r1, p1, k1⟩ => ?_) fun _ _ _ z => z)
  split at k1
  · rename_i hk
    exact ⟨hm.1 P F1 μ1 S1 H1 x v r1 p1 hk, x, [], P, F1, μ1, S1, _, r1, p1, reps_nil, k1⟩
  · exact k1.elim
end
def isL (d : D) (S : Store) : Bool := (lstOf d S).isSome
theorem isL_ty {g : G} {P F : Hp} {μ : List Addr} {S : Store} {H : Hp} {d : D} {v : V} (r : Rel g P F μ S H) (p : Rep g F μ d v) (e : isL d S = true) : tyV g.K "list" v H := by
  unfold isL at e
  obtain ⟨l, q⟩ := Option.isSome_iff_exists.mp e
  obtain ⟨a, xs, rfl, hs, _⟩ := lstOf_rep r q p
  exact .inl ⟨rfl, xs, hs⟩
/-- x.append(d), x at a place -/
def appendD (o : D) (ds : List D) : M D := fun S => match o, ds with
  | .ref n, [d] => match S[n]? with
    | some (.lst l) => if l.length < sizeLine then .ok .non (S.set n (.lst (l ++ [d]))) else .stuck
    | _ => .stuck
  | _, _ => .stuck
/-- x.extend(y) -/
def extendD (o : D) (ds : List D) : M D := fun S => match o, ds with
  | .ref n, [d] => match S[n]?, d with
    | some (.lst l), .lst k => if l.length + k.length ≤ sizeLine then .ok .non (S.set n (.lst (l ++ k))) else .stuck
    | _, _ => .stuck
  | _, _ => .stuck
/-- x.pop() -/
def popD (o : D) (ds : List D) : M D := fun S => match o, ds with
  | .ref n, [] => match S[n]? with
    | some (.lst l) => match l[l.length - 1]? with
      | some d => .ok d (S.set n (.lst l.dropLast))
      | none => .stuck
    | _ => .stuck
  | .ref n, [.int i] => match S[n]? with
    | some (.lst l) => match seqIndex? i l.length with
      | some j => match l[j]? with
        | some d => if -(2 ^ 63) ≤ i ∧ i < 2 ^ 63 then .ok d (S.set n (.lst (l.eraseIdx j))) else .stuck
        | none => .stuck
      | none => .stuck
    | _ => .stuck
  | _, _ => .stuck
theorem Reps.dropLast {g : G} {F : Hp} {μ : List Addr} {ds : List D} {vs : List V} (h : Reps g F μ ds vs) : Reps g F μ ds.dropLast vs.dropLast := by
  rw [List.dropLast_eq_take, List.dropLast_eq_take, h.length]
  exact h.take _
theorem Reps.eraseIdx {g : G} {F : Hp} {μ : List Addr} {ds : List D} {vs : List V} (h : Reps g F μ ds vs) (i : Nat) : Reps g F μ (ds.eraseIdx i) (vs.eraseIdx i) := by
  rw [List.eraseIdx_eq_take_drop_succ, List.eraseIdx_eq_take_drop_succ]
  exact (h.take _).append (h.drop _)
section
variable {X : Cx}
theorem md_append : MetD X "list" "list.append" isL appendD := by
  refine ⟨fun P F μ S H d v r p e => isL_ty r p e, ?_⟩
  intro pins s σ H x xs v us Q I rx rxs h
  obtain ⟨d, ds, P, F, μ, S, E, rl, p, ps, k⟩ := h
  unfold appendD at k
  split at k
  · rename_i n d
    split at k
    · rename_i l q
      split at k
      · rename_i hl
        obtain ⟨a, ys, rfl, hm, hH, hr⟩ := p.refL rl q
        simp only [Reps] at ps
        obtain ⟨w, _, rfl, pw, rfl⟩ := ps
        refine mt_append pins s σ H _ _ v us Q I rx rxs ⟨a, ys, w, rfl, rfl, hH, by rw [← hr.length]; exact hl, ?_⟩
        exact k.here (rl.write q (by intro z; cases z) hm ⟨_, rfl, hr.append (reps_cons pw reps_nil)⟩) rep_non
      · exact k.elim
    · exact k.elim
  · exact k.elim
theorem mt_extendQ : MtM X "list.extend" (fun x vs H Q => ∃ l b xs zs, x = .ref l ∧ vs = [.ref b] ∧ H l = some (.lst xs) ∧ H b = some (.lst zs) ∧ xs.length + zs.length ≤ sizeLine ∧ Q .non (upd H l (.lst (xs ++ zs)))) := mt_extend
theorem md_pop : MetD X "list" "list.pop" isL popD := by
  refine ⟨fun P F μ S H d v r p e => isL_ty r p e, ?_⟩
  intro pins s σ H x xs v us Q I rx rxs h
  obtain ⟨d, ds, P, F, μ, S, E, rl, p, ps, k⟩ := h
  unfold popD at k
  split at k
  · rename_i n
    split at k
    · rename_i l q
      split at k
      · rename_i d e
        obtain ⟨a, ys, rfl, hm, hH, hr⟩ := p.refL rl q
        simp only [Reps] at ps
        subst ps
        obtain ⟨y, h1, h2⟩ := hr.get e
        refine mt_pop pins s σ H _ _ v us Q I rx rxs ⟨a, ys, y, rfl, rfl, hH, by rw [← hr.length]; exact h1, ?_⟩
        exact k.here (rl.write q (by intro z; cases z) hm ⟨_, rfl, hr.dropLast⟩) h2
      · exact k.elim
    · exact k.elim
  · rename_i n i
    split at k
    · rename_i l q
      split at k
      · rename_i j ej
        split at k
        · rename_i d e
          split at k
          · rename_i hb
            obtain ⟨a, ys, rfl, hm, hH, hr⟩ := p.refL rl q
            simp only [Reps] at ps
            obtain ⟨w, _, rfl, pw, rfl⟩ := ps
            obtain ⟨y, h1, h2⟩ := hr.get e
            refine mt_popAt pins s σ H _ _ v us Q I rx rxs ⟨a, ys, i, j, y, rfl, by rw [pw.int], hH, hb.1, hb.2, by rw [← hr.length]; exact ej, h1, ?_⟩
            exact k.here (rl.write q (by intro z; cases z) hm ⟨_, rfl, hr.eraseIdx j⟩) h2
          · exact k.elim
        · exact k.elim
      · exact k.elim
    · exact k.elim
  · exact k.elim
end

/-! ### raise X('..') of an own class without __init__ -/
structure ExcF (K : PySem.W.Frag) (mg : Str → Option Value) (c : Str) : Prop where
  ex : ∃ C : Addr, mg c = some (.ref C) ∧ PySem.W.excIn K C [.type "ValueError", .type "Exception", .type "BaseException", .type "object"] "ValueError.__new__" = true ∧ PySem.W.keepIn K (.ref C) = true ∧
    PySem.W.subIn K (.ref C) (.type "BaseException") = some true ∧ PySem.W.typeIn K (.ref C) = some (.type "type")
def mRaise (c : Str) : SM := fun ρ S => .go (.ex (.exc c [] [])) ρ S
theorem ds_raise {X : Cx} {W : WX} {c m : Str} {j : Nat} {p p2 p3 pos : Pos} (hc : X.calm = true) (tk : Takes X W) (F : ExcF X.K X.mg c) (hg : Gl X c := by rfl) (hdb : (c == ("__debug__" : Str)) = false := by decide) :
    DS X W (.Raise (some (.Call (.Name c p) [.Constant (.str m) j p2] [] p3)) none pos) (mRaise c) := by
  obtain ⟨C, gC, q, kC, h1, h2⟩ := F.ex
  refine PS.weak (ps_raise hc tk (pmk_own PySem.F.excBase_ValueError q gC kC (raises_own h1 h2) hg hdb)) fun Dn σ H ⟨P, ρ, F, μ, S, en, rl, k⟩ => ?_
  exact k.here rl σ _ _ en ⟨c, [], [], C, [], rfl, gC, rfl, .inl ⟨rfl, rfl, rfl⟩, reps_nil, rfl⟩

/-! ### putting together -/
theorem cal_mk {P : Program} {w : World} {K : PySem.W.Frag} {mg : Str → Option Value} {base : Heap} {k n : Nat} {x qual : Str} {st : Stmt} {f : Addr} {fd : FuncData} {ps : List Str} {m : List D → M D} (hm : mg x = some (.ref f)) (F : Fun K x qual st f fd)
    (hb : ∀ (kV doc pm : Value) (an : Option Addr) (cdv ct : Value) (us : List Value), us.length = ps.length → bindArgs (PySem.W.fnOf x qual (defArgs st) (defBody st) (defScope st) .none kV doc pm an cdv ct) ⟨us, []⟩ = pure (ps.zip us))
    (hf : FnD P w K mg base k f fd ps m) (hn : ps.length = n := by rfl) : Cal P w K mg base k x n m := ⟨f, fd, ps, hm, F.kp, F.binds hb, hf, hn⟩
/-- a def as the top has left it -/
def DefK (K : PySem.W.Frag) (x : Str) (st : Stmt) : Prop := ∃ (f : Addr) (oc : Value) (od : Option Addr) (kV doc pm : Value) (an : Option Addr) (cdv ct : Value) (osl : Array (Option Value)),
  PySem.W.nsIn K mainGlobals x = some (some (.ref f)) ∧ K.lookup f = some ⟨oc, od, .func (PySem.W.fnOf x x (defArgs st) (defBody st) (defScope st) .none kV doc pm an cdv ct), osl⟩ ∧ PySem.W.codeIn K cdv x = true ∧ PySem.W.keepIn K (.ref f) = true ∧ (defArgs st).defaults = []
theorem defK {K : PySem.W.Frag} {x : Str} {st : Stmt} {f : Addr} {oc : Value} {od an : Option Addr} {kV doc pm cdv ct : Value} {osl : Array (Option Value)} (a : PySem.W.nsIn K mainGlobals x = some (some (.ref f)))
    (l : K.lookup f = some ⟨oc, od, .func (PySem.W.fnOf x x (defArgs st) (defBody st) (defScope st) .none kV doc pm an cdv ct), osl⟩) (c : PySem.W.codeIn K cdv x = true) (k : PySem.W.keepIn K (.ref f) = true) (d : (defArgs st).defaults = []) : DefK K x st := ⟨f, oc, od, kV, doc, pm, an, cdv, ct, osl, a, l, c, k, d⟩
theorem DefK.get {K : PySem.W.Frag} {h : Heap} {mg : Str → Option Value} {x : Str} {st : Stmt} (d : DefK K x st) (X : K.In h) (G : h.Ns mainGlobals mg) : ∃ f fd, mg x = some (.ref f) ∧ Fun K x x st f fd ∧
    ∃ (kV doc pm : Value) (an : Option Addr) (cdv ct : Value), fd = PySem.W.fnOf x x (defArgs st) (defBody st) (defScope st) .none kV doc pm an cdv ct := by
  obtain ⟨f, oc, od, kV, doc, pm, an, cdv, ct, osl, a, l, c, k, _⟩ := d
  exact ⟨f, _, PySem.W.mg_of X G a, fun_mk l c k, kV, doc, pm, an, cdv, ct, rfl⟩
def ExcK (K : PySem.W.Frag) (c : Str) : Prop := ∃ C : Addr, PySem.W.nsIn K mainGlobals c = some (some (.ref C)) ∧ PySem.W.excIn K C [.type "ValueError", .type "Exception", .type "BaseException", .type "object"] "ValueError.__new__" = true ∧ PySem.W.keepIn K (.ref C) = true ∧
    PySem.W.subIn K (.ref C) (.type "BaseException") = some true ∧ PySem.W.typeIn K (.ref C) = some (.type "type")
theorem excK {K : PySem.W.Frag} {c : Str} {C : Addr} (a : PySem.W.nsIn K mainGlobals c = some (some (.ref C))) (b : PySem.W.excIn K C [.type "ValueError", .type "Exception", .type "BaseException", .type "object"] "ValueError.__new__" = true) (k : PySem.W.keepIn K (.ref C) = true)
    (s : PySem.W.subIn K (.ref C) (.type "BaseException") = some true) (t : PySem.W.typeIn K (.ref C) = some (.type "type")) : ExcK K c := ⟨C, a, b, k, s, t⟩
theorem ExcK.exc {K : PySem.W.Frag} {h : Heap} {mg : Str → Option Value} {c : Str} (d : ExcK K c) (X : K.In h) (G : h.Ns mainGlobals mg) : ExcF K mg c := by
  obtain ⟨C, a, r⟩ := d
  exact ⟨C, PySem.W.mg_of X G a, r⟩
/-! ### the law -/
/-- what the law's mirror must say of every script -/
def LawD (m : List D → M D) : Prop := ∀ ns : List Int, ns.length ≤ 63 → (∀ z ∈ ns, Builtin.Int.intBits z ≤ 1048576) → ∃ S, m [.lst (ns.map D.int)] [] = .ok (.bl true) S
theorem law_callD {P : Program} {w : World} {K : PySem.W.Frag} {mg mb : Str → Option Value} {k : Nat} {fa a : Addr} {fd : FuncData} {x : Str} {m : List D → M D} {s₁ : Shared} {vs : List Value} {ns : List Int}
    (KX : K.In s₁.heap) (hns : s₁.heap.Ns mainGlobals mg) (hb : s₁.heap.Ns builtinsNs mb) (hbb : ∀ x : Str, x ≠ "__name__" → mb x = bootBuiltins x) (hlim : s₁.heap.NoLimit) (hnd : s₁.heap.NoDigits) (hg : s₁.gens = #[])
    (ha : s₁.heap.get? a = some { cls := .type "list", data := .seq vs.toArray }) (hi : IntsAre vs ns) (hl : ns.length ≤ sizeLine) (hr : Room k callerA)
    (Fn : ∀ base : Heap, K.In base → base.Ns mainGlobals mg → base.NoDigits → FnD P w K mg base k fa fd [x] m) (hbind : ∀ (s : Shared) (u : Value), BindsTo s fd ⟨[u], []⟩ [(x, u)])
    (hlaw : ∃ S, m [.lst (ns.map D.int)] [] = .ok (.bl true) S) :
    codeAny (model P w) callerA (.call (.ref fa) ⟨[.ref a], []⟩) (fun r s' => r = .ok (.ret (.bool true)) ∧ OldK s₁.heap s'.heap ∧ s'.os = s₁.os ∧ AllBare s'.gens) s₁ := by
  have rv := vals_ints hi
  have lenV := hi.length
  have core : ∀ H : Hp, Only H → SqL K H a (ns.map V.int) → HOk P w H s₁.heap → (∀ b, H b ≠ none → b = a) → (H a ≠ none → K.lookup a = none) →
      codeAny (model P w) callerA (.call (.ref fa) ⟨[.ref a], []⟩) (fun r s' => r = .ok (.ret (.bool true)) ∧ OldK s₁.heap s'.heap ∧ s'.os = s₁.os ∧ AllBare s'.gens) s₁ := by
    intro H hO hS hok hA hK
    have base_of : ∀ {b : Addr} {o : Obj}, s₁.heap.get? b = some o → H b = none → (hidT s₁.heap H).get? b = some o := fun e n => hidT_get e n
    have noA : ∀ {b : Addr} {o : Obj} {es : Array DictEntry} {ep : Nat}, s₁.heap.get? b = some o → o.data = .dict es ep → H b = none := fun {b o es ep} e d => by
      cases q : H b with
      | none => rfl
      | some u =>
        have e' : b = a := hA b (by rw [q]; simp)
        subst e'
        rw [ha] at e; cases e
        have d' : Data.seq vs.toArray _ = Data.dict es ep := d
        cases d'
    have nsK : ∀ {b : Addr} {m : Str → Option Value}, s₁.heap.Ns b m → (hidT s₁.heap H).Ns b m := fun {b m} ⟨o, es, ep, e, d, r⟩ => ⟨o, es, ep, base_of e (noA e d), d, r⟩
    have hKb : K.In (hidT s₁.heap H) := fun b o e => base_of (KX b o e) (by
      cases q : H b with
      | none => rfl
      | some u =>
        have e' : b = a := hA b (by rw [q]; simp)
        subst e'
        rw [hK (by rw [q]; simp)] at e; cases e)
    have hM : Mod K mg (hidT s₁.heap H) := ⟨hKb, nsK hns, ⟨mb, nsK hb, hbb⟩, let ⟨mc, h1, h2⟩ := hlim; ⟨mc, nsK h1, h2⟩⟩
    have e0 : Env0 P w K mg (hidT s₁.heap H) callerA [] s₁ H := ⟨rfl, hM, fun b o e => of_hidT e, Nat.le_of_eq (hidT_size _ _), trivial, fun b hb => absurd (show b ∈ ([] : List Addr) from hb) (by simp), hok, .of_eq hg⟩
    have sp : spD ⟨K, mg⟩ ([x] : List Str).length m [.ref a] H (fun v _ => v = .bl true) (fun _ _ _ => False) := by
      obtain ⟨S, e⟩ := hlaw
      refine ⟨rfl, [.lst (ns.map D.int)], fun _ => none, H, [], [], ⟨fun _ _ z => z, rfl, fun n o p z _ => by simp at z, fun m n p z _ => by simp at z, fun _ _ z => by cases z⟩, ?_, ?_⟩
      · refine reps_cons ?_ reps_nil
        simp only [Rep]
        exact ⟨a, _, rfl, hS, reps_ints ns⟩
      · rw [e]
        intro F' μ' H' v _ _ p
        exact p.bl
    refine codeAny_mono ((Fn _ hKb (nsK hns) (let ⟨mc, h1, h2⟩ := hnd; ⟨mc, nsK h1, h2⟩)).run callerA [] s₁ H ⟨[.ref a], []⟩ [.ref a] [.ref a] _ _ hr rfl e0 (hbind s₁ (.ref a)) (.cons rfl .nil) sp) fun r s' h => ?_
    cases r with
    | error e =>
      obtain ⟨_, _, _, _, _, _, _, _, _, _, _, _, z⟩ := h
      exact z.elim
    | ok fl =>
      cases fl with
      | next => exact False.elim h
      | brk => exact False.elim h
      | cont => exact False.elim h
      | ret u =>
        obtain ⟨v, H', os, bare, un, hok', r', q⟩ := h
        have q' : v = .bl true := q
        subst q'
        obtain rfl : u = Value.bool true := r'
        refine ⟨rfl, OldK.of_keep fun b o e => ?_, os, bare⟩
        cases q : H b with
        | none => exact un.keep b o e q (by intro z; exact absurd (show b ∈ ([] : List Addr) from z) (by simp)) (by simp)
        | some u =>
          rcases hO b with z | ⟨ob, xs, z⟩
          · rw [q] at z; cases z
          · have z2 := un.frzs b ob _ z
            obtain ⟨e1, _⟩ := hok b _ z
            obtain ⟨e2, _⟩ := hok' b _ z2
            rw [e] at e1; cases e1
            exact e2
  cases hk : K.lookup a with
  | some o =>
    have e := KX a o hk
    rw [ha] at e
    cases e
    refine core (fun _ => none) (fun _ => .inl rfl) (.inr ⟨_, vs.toArray, _, hk, rfl, rfl, rfl, by rw [List.size_toArray, lenV]; exact hl, by simpa using rv⟩) (fun b u z => by have z' : (none : Option HO) = some u := z; cases z') (fun b z => absurd rfl z) fun z => absurd rfl z
  | none =>
    refine core (fun b => if b = a then some (.frz { cls := .type "list", data := .seq vs.toArray } (.lst (ns.map V.int))) else none) (fun b => ?_) (.inl (.inr ⟨{ cls := .type "list", data := .seq vs.toArray }, if_pos rfl⟩)) (fun b u z => ?_) (fun b z => ?_) fun _ => hk
    · by_cases hb : b = a
      · exact .inr ⟨_, _, if_pos hb⟩
      · exact .inl (if_neg hb)
    · by_cases hb : b = a
      · have z' := (if_pos hb).symm.trans z
        cases z'
        subst hb
        exact ⟨ha, by rw [List.length_map]; exact hl, vs, _, rv, ha⟩
      · have z' := (if_neg hb).symm.trans z
        cases z'
    · by_cases hb : b = a
      · exact hb
      · exact absurd (if_neg hb) z
/-- the goal that k_head leaves -/
theorem walk_D {l : PySem.W.OpenLaw} {k : Nat} {q : Program} {loose : List Str} {XP : (Str → Option Value) → Heap → Prop} {YP : World → Heap → Prop} {d : DefRec} {K : Params → PySem.W.Frag} {x : Str} {m : List D → M D}
    (hn : l.most = some 63) (hdf : d.params.defaults = []) (hr : Room k callerA)
    (hY : ∀ (w : World) (h : Heap), YP w h → (K w.params).In h)
    (Fn : ∀ (w : World) (mg : Str → Option Value) (fa : Addr) (h : Heap), (K w.params).In h → h.Ns mainGlobals mg → mg d.name = some (.ref fa) →
      ∃ fd : FuncData, (∀ (s : Shared) (u : Value), BindsTo s fd ⟨[u], []⟩ [(x, u)]) ∧
        ∀ base : Heap, (K w.params).In base → base.Ns mainGlobals mg → base.NoDigits → FnD l.prog w (K w.params) mg base k fa fd [x] m)
    (hlaw : LawD m) : PySem.W.WalkO q loose XP YP l.row.toRowW d [] (fun f vs => PySem.call f vs) := by
  refine Att.attach_callB hn hdf fun w s₀ s₁ mg mb fa o pm cd doc a vs ns G Y ho hd hcd hmg hobj hints hlen hbits hg => ?_
  have KX := hY w _ Y
  obtain ⟨fd, hb, hF⟩ := Fn w mg fa _ KX G.T.g hmg
  exact law_callD KX G.T.g G.T.b G.T.builtins G.T.nolimit G.T.nodigits hg hobj hints (Nat.le_trans hlen (by decide)) hr hF hb (hlaw ns hlen hbits)
end DL

/-! The data layer, 8: methods of sequences, augmented assignments. -/
namespace DL
open PySem PySem.Spec PyProof.Rows L2

/-- a method by the receiver's data: its type may be one of several -/
def MetA (X : Cx) (name : Str) (ok : D → Store → Bool) (m : D → List D → M D) : Prop :=
  ∀ (P F : Hp) (μ : List Addr) (S : Store) (H : Hp) (d : D) (v : V) (pins : List (Addr × Obj)) (σ : L2.St) (s : Shared) (u : Value), Rel (gX X) P F μ S H → Rep (gX X) F μ d v → ok d S = true → Inv X pins σ H s → RelV v u →
    ∃ T id, PlainAttrs T ∧ Slot T name id ∧ typeOf (.builtin id) = pure (.type "method_descriptor") ∧ s.TypeIs u T ∧ (∀ a, u = .ref a → ∃ ob, s.heap.get? a = some ob ∧ ob.dict = none) ∧
      MtR X id (fun v vs H Q => ∃ ds P F μ S E, Rel (gX X) P F μ S H ∧ Rep (gX X) F μ d v ∧ Reps (gX X) F μ ds vs ∧ ok d S = true ∧ Fin (repD (gX X)) (gX X) P F μ (m d ds S) Q E)
def mMetA (ok : D → Store → Bool) (m : D → List D → M D) (fo : EM) (fa : AM) : EM := fun ρ S => (fo ρ S).bind fun o S => if ok o S then (fa ρ S).bind fun ds S => if ok o S then m o ds S else .stuck else .stuck
section
variable {X : Cx} {W : WX} {o e : Expr} {es : List Expr} {fo : EM} {fa : AM} {name : Str} {apos cpos : Pos} {ok : D → Store → Bool} {m : D → List D → M D}
theorem d_metA (hm : MetA X name ok m) (ho : DE X W o fo) (ha : DA X W (e :: es) fa) (hbase : attributeBase o name X.env (eval o X.env) = eval o X.env := by rfl)
    (hfew : ((backTo cpos (starEach (e :: es) X.env)).all (fun x => !x.1) && (backToKw cpos (keywordEach [] X.env)).all (fun x => x.1.isSome) && decide ((e :: es).length + ([] : List Keyword).length + (if ([] : List Keyword).isEmpty then 0 else 1) < 30)) = true := by rfl)
    (hline : (apos.endLine == cpos.line) = true := by rfl) (hs : starEach (e :: es) X.env = (false, eval e X.env) :: starEach es X.env := by rfl)
    (hplain : (backTo cpos (starEach es X.env)).any (·.1) = false := by rfl) : DE X W (.Call (.Attribute o name apos) (e :: es) [] cpos) (mMetA ok m fo fa) := by
  refine ⟨fun pins s σ H Q I ⟨P, ρ, F, μ, S, en, rl, k⟩ => ?_⟩
  refine wpAny_Call_method_late hbase hfew hline rfl (thn (ho.run pins s σ H _ I (tD.run en rl (Fin.imp (Fin.bind (rep := repD (gX X)) k) (fun v H1 z => z) fun _ _ _ z => z))) fun v s1 ⟨x, H1, I1, r1, d, F1, μ1, S1, g1, rl1, p1, k1⟩ => ?_)
  split at k1
  · rename_i hk
    obtain ⟨T, id, h1, h2, h3, h4, h5, h6⟩ := hm P F1 μ1 S1 H1 d x pins σ s1 v rl1 p1 hk I1 r1
    refine ⟨T, id, h1, h2, h3, h4, h5, ?_⟩
    have hA := ha.run cpos pins s1 σ H1 _ I1 (tDA.run (en.mono g1) rl1 (Fin.imp (Fin.bind (rep := repA (gX X)) k1) (fun vs H2 z => z) fun _ _ _ z => z))
    rw [hs] at hA ⊢
    refine Calls.callWith_builtin (Bool.or_eq_false_iff.mpr ⟨rfl, hplain⟩) (Calls.evalArgs_plain ?_)
    refine thn hA fun us s2 ⟨vs, H2, I2, r2, ds, F2, μ2, S2, g2, rl2, p2, k2⟩ => ?_
    split at k2
    · rename_i hk2
      exact h6 pins s2 σ H2 x vs v us Q I2 r1 r2 ⟨ds, P, F2, μ2, S2, _, rl2, p1.mono g2, p2, hk2, k2⟩
    · exact k2.elim
  · exact k1.elim
end
/-- a list or a tuple -/
def isQ (d : D) (S : Store) : Bool := match d with
  | .tup _ => true
  | d => isL d S
def isT : D → Bool
  | .tup _ => true
  | _ => false
def countD (o : D) (ds : List D) : M D := fun S => match ds with
  | [x] => match seqOf o S with
    | some l => if plain 64 (derD x S) && plains 63 l then .ok (.int ((l.countP fun z => eqB z (derD x S) : Nat) : Int)) S else .stuck
    | none => .stuck
  | _ => .stuck
def indexD (o : D) (ds : List D) : M D := fun S => match ds with
  | [x] => match seqOf o S with
    | some l => if plain 64 (derD x S) && plains 63 l then (match l.findIdx? fun z => eqB z (derD x S) with
      | some j => .ok (.int (j : Nat)) S
      | none => .stuck) else .stuck
    | none => .stuck
  | _ => .stuck
theorem eqv_count {x : D} : ∀ {l : List D}, plain 64 x = true → plains 63 l = true → ((toPys l).countP fun z => PyData.eqv z (toPy x)) = l.countP fun z => eqB z x
  | [], _, _ => rfl
  | y :: l, hx, h => by
    simp only [plains, Bool.and_eq_true] at h
    simp only [toPys, List.countP_cons, eqv_count (l := l) hx h.2, eqv_eqB 63 64 y x h.1 hx]
theorem eqv_find {x : D} : ∀ {l : List D}, plain 64 x = true → plains 63 l = true → ((toPys l).findIdx? fun z => PyData.eqv z (toPy x)) = l.findIdx? fun z => eqB z x
  | [], _, _ => rfl
  | y :: l, hx, h => by
    simp only [plains, Bool.and_eq_true] at h
    simp only [toPys, List.findIdx?_cons, eqv_find (l := l) hx h.2, eqv_eqB 63 64 y x h.1 hx]
theorem dn_obj {X : Cx} {pins : List (Addr × Obj)} {σ : L2.St} {H : Hp} {s : Shared} {a : Addr} (I : Inv X pins σ H s) (h : DN (gX X) H a) : ∃ o, s.heap.get? a = some o ∧ o.dict = none := by
  obtain ⟨o, h1, h2⟩ := h
  rcases h2 with ⟨u, h2⟩ | h2
  · exact ⟨o, (I.hok a _ h2).1, h1⟩
  · exact ⟨o, I.kIn a o h2, h1⟩
theorem isQ_cases {d : D} {S : Store} (h : isQ d S = true) : (∃ l, d = .tup l) ∨ isL d S = true := by
  unfold isQ at h
  split at h
  · exact .inl ⟨_, rfl⟩
  · exact .inr h
theorem isL_seq {d : D} {S : Store} (h : isL d S = true) : ∃ l, lstOf d S = some l ∧ seqOf d S = some l := by
  unfold isL at h
  obtain ⟨l, q⟩ := Option.isSome_iff_exists.mp h
  refine ⟨l, q, ?_⟩
  unfold seqOf
  split
  · cases q
  · cases q
  · exact q
section
variable {X : Cx}
/-- what the heap holds of a sequence of plain data -/
theorem seq_reads {pins : List (Addr × Obj)} {σ : L2.St} {s : Shared} {P F : Hp} {μ : List Addr} {S : Store} {H : Hp} {l : List D} {xs : List V} {its : List Value} {n : Nat} (I : Inv X pins σ H s) (r : Rel (gX X) P F μ S H) (h : plains 63 l = true) (hr : Reps (gX X) F μ l xs) (rv : Vals xs its) :
    ∃ as, ReadsAll s.heap its (toPys l) as := Dp.readsAll I _ _ its (plains_dp r 63 l h hr) rv
theorem met_seq {name : Str} {iL iT : String} {m : D → List D → M D} (sL : Slot "list" name iL) (tL : typeOf (.builtin iL) = pure (.type "method_descriptor")) (sT : Slot "tuple" name iT) (tT : typeOf (.builtin iT) = pure (.type "method_descriptor"))
    (hL : MtR X iL (fun v vs H Q => ∃ d ds P F μ S E, Rel (gX X) P F μ S H ∧ Rep (gX X) F μ d v ∧ Reps (gX X) F μ ds vs ∧ isL d S = true ∧ Fin (repD (gX X)) (gX X) P F μ (m d ds S) Q E))
    (hT : MtR X iT (fun v vs H Q => ∃ l ds P F μ S E, Rel (gX X) P F μ S H ∧ Rep (gX X) F μ (.tup l) v ∧ Reps (gX X) F μ ds vs ∧ Fin (repD (gX X)) (gX X) P F μ (m (.tup l) ds S) Q E)) :
    MetA X name isQ m := by
  intro P F μ S H d v pins σ s u rl p hk I rv
  rcases isQ_cases hk with ⟨l, rfl⟩ | hl
  · obtain ⟨a, xs, rfl, ⟨hs, hd⟩, hr⟩ := p.tupN rl
    cases rv
    obtain ⟨its, r, ht, hz⟩ := I.tuple hs
    refine ⟨"tuple", iT, PySem.F.plainAttrs_tuple, sT, tT, ht.typeIs, fun b e => ?_, ?_⟩
    · cases e
      exact dn_obj I hd
    · intro pins s σ H2 x xs2 v us Q I2 rx rxs ⟨ds, P', F', μ', S', E, rl2, p2, ps, hq, k⟩
      exact hT pins s σ H2 x xs2 v us Q I2 rx rxs ⟨l, ds, P', F', μ', S', E, rl2, p2, ps, k⟩
  · obtain ⟨h1, h2⟩ := tyV_is I rv (isL_ty rl p hl)
    refine ⟨"list", iL, PySem.F.plainAttrs_list, sL, tL, h1, h2, ?_⟩
    intro pins s σ H2 x xs2 v us Q I2 rx rxs ⟨ds, P', F', μ', S', E, rl2, p2, ps, hq, k⟩
    refine hL pins s σ H2 x xs2 v us Q I2 rx rxs ⟨d, ds, P', F', μ', S', E, rl2, p2, ps, ?_, k⟩
    rcases isQ_cases hq with ⟨l', e⟩ | hl'
    · rw [e] at hl
      cases hl
    · exact hl'
theorem lay_all {l : List D} (h : plains 63 l = true) : PyData.plainAll (toPys l) = true ∧ PyData.depthAll (toPys l) ≤ 63 := by
  obtain ⟨h1, h2⟩ := plains_lay 63 l h
  exact ⟨PyData.plainAll_of_canLay0 _ h1, h2⟩
theorem lay_one {d : D} (h : plain 64 d = true) : (toPy d).plain = true ∧ (toPy d).depth ≤ 64 := by
  obtain ⟨h1, h2⟩ := plain_lay 64 d h
  exact ⟨PyData.plain_of_canLay0 _ h1, h2⟩
theorem ma_count (hu : X.A.units + 65 < cLine) : MetA X "count" isQ countD := by
  refine met_seq PySem.F.slot_list_count PySem.F.type_list_count PySem.F.slot_tuple_count PySem.F.type_tuple_count ?_ ?_
  · intro pins s σ H x xs v us Q I rx rxs ⟨d, ds, P, F, μ, S, E, rl, p, ps, hl, k⟩
    obtain ⟨l, q1, q2⟩ := isL_seq hl
    unfold countD at k
    split at k
    · rename_i y
      rw [q2] at k
      simp only at k
      split at k
      · rename_i hp
        simp only [Bool.and_eq_true] at hp
        obtain ⟨a, ys, rfl, hs, hr⟩ := lstOf_rep rl q1 p
        cases rx
        simp only [Reps] at ps
        obtain ⟨w, _, rfl, pw, rfl⟩ := ps
        obtain ⟨uy, rfl, ry⟩ := rxs.one
        obtain ⟨bs, r1⟩ := Dp.reads I _ w uy (der_dp rl hp.1 pw) ry
        obtain ⟨its, rv, pl, hlen⟩ := I.list hs
        obtain ⟨as, r2⟩ := seq_reads (n := 0) I rl hp.2 hr rv
        obtain ⟨z1, z2⟩ := lay_all hp.2
        obtain ⟨z3, z4⟩ := lay_one hp.1
        refine SeqAt.count_list_data pl.isList (vs := its.toArray) r2 r1 z1 z3 (by omega) ?_
        rw [eqv_count hp.1 hp.2]
        exact ⟨.int _, H, I.tok _, ⟨_, rfl⟩, k.here rl rep_int⟩
      · exact k.elim
    · exact k.elim
  · intro pins s σ H x xs v us Q I rx rxs ⟨l, ds, P, F, μ, S, E, rl, p, ps, k⟩
    unfold countD at k
    split at k
    · rename_i y
      simp only [seqOf_tup] at k
      split at k
      · rename_i hp
        simp only [Bool.and_eq_true] at hp
        obtain ⟨a, ys, rfl, hs, hr⟩ := p.tup rl
        cases rx
        simp only [Reps] at ps
        obtain ⟨w, _, rfl, pw, rfl⟩ := ps
        obtain ⟨uy, rfl, ry⟩ := rxs.one
        obtain ⟨bs, r1⟩ := Dp.reads I _ w uy (der_dp rl hp.1 pw) ry
        obtain ⟨its, rv, pl, hlen⟩ := I.tuple hs
        obtain ⟨as, r2⟩ := seq_reads (n := 0) I rl hp.2 hr rv
        obtain ⟨z1, z2⟩ := lay_all hp.2
        obtain ⟨z3, z4⟩ := lay_one hp.1
        refine SeqAt.count_tuple_data (vs := its.toArray) pl r2 r1 z1 z3 (by omega) ?_
        rw [eqv_count hp.1 hp.2]
        exact ⟨.int _, H, I.tok _, ⟨_, rfl⟩, k.here rl rep_int⟩
      · exact k.elim
    · exact k.elim
theorem ma_index (hu : X.A.units + 65 < cLine) : MetA X "index" isQ indexD := by
  refine met_seq PySem.F.slot_list_index PySem.F.type_list_index PySem.F.slot_tuple_index PySem.F.type_tuple_index ?_ ?_
  · intro pins s σ H x xs v us Q I rx rxs ⟨d, ds, P, F, μ, S, E, rl, p, ps, hl, k⟩
    obtain ⟨l, q1, q2⟩ := isL_seq hl
    unfold indexD at k
    split at k
    · rename_i y
      rw [q2] at k
      simp only at k
      split at k
      · rename_i hp
        simp only [Bool.and_eq_true] at hp
        split at k
        · rename_i j ej
          rw [← eqv_find hp.1 hp.2] at ej
          obtain ⟨a, ys, rfl, hs, hr⟩ := lstOf_rep rl q1 p
          cases rx
          simp only [Reps] at ps
          obtain ⟨w, _, rfl, pw, rfl⟩ := ps
          obtain ⟨uy, rfl, ry⟩ := rxs.one
          obtain ⟨bs, r1⟩ := Dp.reads I _ w uy (der_dp rl hp.1 pw) ry
          obtain ⟨its, rv, ⟨⟨cls, dd, data, sls⟩, n, ho, hc, hdn, hdt⟩, hlen⟩ := I.list hs
          simp only at hc hdt
          subst hc hdt
          obtain ⟨as, r2⟩ := seq_reads (n := 0) I rl hp.2 hr rv
          obtain ⟨z1, z2⟩ := lay_all hp.2
          obtain ⟨z3, z4⟩ := lay_one hp.1
          obtain ⟨hj, hit, hno⟩ := SeqAt.hit_at (vs := its.toArray) r2 z1 ej
          have hsz : its.toArray.size ≤ sizeLine := by have := rv.length; simp only [List.size_toArray]; omega
          have hsl := sizeLine_eq
          exact call_meets PySem.F.slot_list_index ⟨_, ho, rfl⟩ PySem.F.entry_list_index (PySem.F.args_list_index_2 _ _) (SeqAt.list_indexAt a its.toArray n dd sls uy (fun u => PyData.eqv (SeqAt.readOf s.heap u) _) j hj (by omega) hit fun m hm hmj => hno m hm hmj)
            ⟨ho, SeqAt.items_plain (vs := its.toArray) r2 r1 z1 z3 (by omega), ⟨.int _, H, I.tok _, ⟨_, rfl⟩, k.here rl rep_int⟩⟩
        · exact k.elim
      · exact k.elim
    · exact k.elim
  · intro pins s σ H x xs v us Q I rx rxs ⟨l, ds, P, F, μ, S, E, rl, p, ps, k⟩
    unfold indexD at k
    split at k
    · rename_i y
      simp only [seqOf_tup] at k
      split at k
      · rename_i hp
        simp only [Bool.and_eq_true] at hp
        split at k
        · rename_i j ej
          rw [← eqv_find hp.1 hp.2] at ej
          obtain ⟨a, ys, rfl, hs, hr⟩ := p.tup rl
          cases rx
          simp only [Reps] at ps
          obtain ⟨w, _, rfl, pw, rfl⟩ := ps
          obtain ⟨uy, rfl, ry⟩ := rxs.one
          obtain ⟨bs, r1⟩ := Dp.reads I _ w uy (der_dp rl hp.1 pw) ry
          obtain ⟨its, rv, ⟨⟨cls, dd, data, sls⟩, ho, hc, n, hdt⟩, hlen⟩ := I.tuple hs
          simp only at hc hdt
          subst hc hdt
          obtain ⟨as, r2⟩ := seq_reads (n := 0) I rl hp.2 hr rv
          obtain ⟨z1, z2⟩ := lay_all hp.2
          obtain ⟨z3, z4⟩ := lay_one hp.1
          obtain ⟨hj, hit, hno⟩ := SeqAt.hit_at (vs := its.toArray) r2 z1 ej
          exact call_meets PySem.F.slot_tuple_index ⟨_, ho, rfl⟩ PySem.F.entry_tuple_index (PySem.F.args_tuple_index_2 _ _) (_root_.TI.tuple_indexAt a its.toArray n dd sls uy (fun u => PyData.eqv (SeqAt.readOf s.heap u) _) j hj hit fun m hm hmj => hno m hm hmj)
            ⟨ho, SeqAt.items_plain (vs := its.toArray) r2 r1 z1 z3 (by omega), ⟨.int _, H, I.tok _, ⟨_, rfl⟩, k.here rl rep_int⟩⟩
        · exact k.elim
      · exact k.elim
    · exact k.elim
end
end DL

/-! The data layer, 9: an exception that is caught and kept. -/
namespace DL
open PySem PySem.Spec PyProof.Rows L2

section
variable {X : Cx} {pins : List (Addr × Obj)} {σ : L2.St} {H : Hp} {s : Shared}
/-- an object that came since the entry is tracked from now on -/
theorem track {a : Addr} {ob : Obj} {o : HO} (I : Inv X pins σ H s) (ha : s.heap.get? a = some ob) (hn : H a = none) (h0 : X.s_0.heap.get? a = none) (hl : a ≠ X.env.locals) (hc : ∀ x c, X.env.cells.lookup x = some c → a ≠ c)
    (hp : ∀ p ∈ X.pn ++ pins, p.1 ≠ a) (new : ObjOk X.prog X.w (upd H a o) s.heap a o) : Inv X pins σ (upd H a o) s :=
  ⟨I.ok, I.os, I.bare, ⟨I.base.keep, I.base.slot, fun b u e n x => by
      rw [upd_ne (fun z => by rw [z, h0] at e; cases e)]; exact I.base.free b u e n x, I.base.there,
      fun b xs e => by rw [upd_ne (ne_of_none (I.base.tups b xs e) hn)]; exact I.base.tups b xs e,
      fun b u xs e => by rw [upd_ne (ne_of_none (I.base.frzs b u xs e) hn)]; exact I.base.frzs b u xs e,
      fun b ps e => by
        obtain ⟨m, z⟩ := I.base.tbls b ps e
        exact ⟨m, by rw [upd_ne (ne_of_none z hn)]; exact z⟩⟩,
    I.loc, I.cell, by rw [upd_ne (Ne.symm hl)]; exact I.free, fun x c e => by rw [upd_ne (Ne.symm (hc x c e))]; exact I.freeC x c e,
    fun p m => by
      obtain ⟨e1, e2, e3⟩ := I.pin p m
      exact ⟨e1, by rw [upd_ne (hp p m)]; exact e2, e3⟩, HOk.laidN I.hok (fun _ _ e => e) hn new, I.len⟩
end
/-- a clause that keeps its exception -/
def wKept (K : PySem.W.Frag) (c : Value) (i : Nat) (ts : Addr → Value → Option Addr → TS) (D : Ends) : WX := fun cls d σ H =>
  PySem.W.exmOne K cls c = some true ∧ ∃ C, cls = .ref C ∧ ∀ a, H a = none → ts a cls d { nx := fun σ' H' => D.nx (σ'.set i none) (upd H' a (XO C d a)), rt := fun _ _ => False, bk := fun _ _ => False, ct := fun _ _ => False } (σ.set i (some (.ref a))) H
section
variable {X : Cx} {x n : Str} {c : Value} {i : Nat} {body suite : List Stmt} {b0 : Stmt} {np pos ps2 : Pos} {tb : WX → TS} {ts : Addr → Value → Option Addr → TS}
theorem ps_try_kept (ex0 : X.ex = []) (stk : X.stack = X.env :: X.outer) (frm : X.env.frame = some X.env.locals) (nd : X.N.Nodup) (at_ : X.N[i]? = some n) (lc : X.env.kindOf n = some .local) (nm : Names X x c)
    (bd : ∀ (W : WX) (pn : List (Addr × Obj)) (xe : Value → Shared → Prop), L2.Takes (X.tr pn xe) W → PassesOwn (model X.prog X.w) X.A X.env xe → PSs (X.tr pn xe) body (tb W))
    (su : ∀ (a : Addr) (ob : Obj) (cls : Value) (d : Option Addr) (pn : List (Addr × Obj)), Zc cls d ob → (∃ vs, ob.data = .fields vs) → PSs (X.suite a ((a, ob) :: pn)) (b0 :: suite) (ts a cls d)) :
    PS X (.Try body [.ExceptHandler (some (.Name x np)) (some n) (b0 :: suite) ps2] [] [] pos) (fun D σ H => tb (wKept X.K c i ts D) D σ H) := by
  constructor
  intro pins s σ H D I hbody
  have okX := I.ok
  have frames : X.A.frames = some (X.env :: X.outer) := okX.frames.trans (congrArg some stk)
  apply wpAny_Try_except
  refine wpAny_mono ((bd (wKept X.K c i ts D) (X.pn ++ pins) (fun e t => wpAny (model X.prog X.w) X.A (noteFrame e X.env) (fun _ t2 => wpAny (model X.prog X.w) X.A (setFlight e none) (fun _ t3 => wpAny (model X.prog X.w) X.A
    (handleBy e X.env [.ExceptHandler (some (.Name x np)) (some n) (b0 :: suite) ps2]) (SP X pins D) X.xe t3) X.xe t2) X.xe t) (fun u t xx => ?_) PassesOwn.looking).run [] s σ H D (I.toTry _) hbody) (fun f t out => ?_) (fun e t z => z)
  case refine_1 =>
    obtain ⟨a, B, t0, pins1, σ1, H1, cls, d, rfl, Jt, below, ups, sk, fresh, ose, bare, hyes, C, hC, hgo⟩ := xx
    have J : Inv X pins σ1 H1 t0 := Jt.ofTry okX
    rw [show (X.tr (X.pn ++ pins) _).stack = X.env :: X.outer from stk] at sk
    have Ba : B.get? a = none := by
      rcases sk with k | k | k
      · exact k.2.1
      · exact k.2.1
      · exact k.2.1
    show wpAny _ _ (noteFrame (.ref a) X.env) _ _ _
    refine Sky.land Zc.steady frames frm sk fun hp fl up2 => ?_
    obtain ⟨ob, vs, get1, zc1, dat1⟩ := fl.there
    have notF : a ∉ frs (X.env :: X.outer) := fun m => by
      obtain ⟨_, o2, e2, nf⟩ := fl.2.2.1.mem m
      rw [get1] at e2; cases e2
      exact nf _ dat1
    have nL : a ≠ X.env.locals := fun z => notF (List.mem_filterMap.mpr ⟨X.env, List.mem_cons_self, by rw [frm, z]⟩)
    have nF : a ∉ X.fs := fun m => by
      obtain ⟨v, m1, m2⟩ := List.mem_filterMap.mp m
      exact notF (List.mem_filterMap.mpr ⟨v, List.mem_cons_of_mem _ m1, m2⟩)
    have t0a : t0.heap.get? a = none := by
      cases q : t0.heap.get? a with
      | none => rfl
      | some u => rw [below a u q (by show a ∉ frs X.stack; rw [stk]; exact notF)] at Ba; cases Ba
    have s0a : X.s_0.heap.get? a = none := by
      cases q : X.s_0.heap.get? a with
      | none => rfl
      | some u =>
        obtain ⟨u', q'⟩ := J.base.there a u q (by rw [ex0]; exact List.not_mem_nil)
        rw [t0a] at q'; cases q'
    have notP : ∀ p ∈ X.pn ++ pins, p.1 ≠ a := fun p m z => by
      have q := (J.pin p m).1
      rw [z, t0a] at q; cases q
    have notC : ∀ y cc, X.env.cells.lookup y = some cc → a ≠ cc := fun y cc e z => by
      obtain ⟨v, o, q, _⟩ := J.cell y cc e
      rw [← z, t0a] at q; cases q
    have J1 : Inv X pins σ1 H1 { t with heap := hp } := J.landed below fl.1 (ups.trans up2) ose bare
    have S1 := J1.suite get1 dat1 fresh nL nF
    refine wpAny_handleBy_cons (codeAny_handlers_test ?_) (fun q => nomatch q)
    have looks : PySem.W.Looks (model X.prog X.w) hp (typeOf (.ref a)) cls := fun A Q E st k q => wpAny_typeOf_ref (k _ _ get1) (by rw [zc1.1]; exact q)
    have fits := PySem.W.exm_one (M := model X.prog X.w) J1.kIn looks hyes
    have clause : ∀ {Q : Value → Shared → Prop} {E : Value → Shared → Prop}, Q c { t with heap := hp } → wpAny (model X.prog X.w) (X.A.mark (some (.ref a))) (eval (.Name x np) X.env) Q E { t with heap := hp } := fun {Q E} q => by
      obtain ⟨g1, g2, g3 | ⟨g3, g4, g5⟩⟩ := nm
      · exact ld_glob (X := X.suite a ((a, ob) :: (X.pn ++ pins))) S1 g1 g3 q g2
      · exact ld_blt (X := X.suite a ((a, ob) :: (X.pn ++ pins))) S1 g1 g3 g4 q g5 g2
    refine clause (fits.here (codeAny_handlers_suite_as ?_))
    refine HandSPX.lands_againZ fl fun hp2 fl2 up3 => ?_
    have J2 : Inv X pins σ1 H1 { t with heap := hp2 } := J.landed below fl2.1 ((ups.trans up2).trans up3) ose bare
    obtain ⟨ob2, vs2, get2, zc2, dat2⟩ := fl2.there
    refine store_ok (X := X.suite a ((a, ob2) :: (X.pn ++ pins))) (v := .ref a) (J2.suite get2 dat2 fresh nL nF) nd at_ (.inl lc) rfl (fun t5 S5 => ?_) (.inr lc)
    refine wpAny_mono ((su a ob2 cls d (X.pn ++ pins) zc2 ⟨_, dat2⟩).run [] t5 _ H1 _ S5 (hgo a fresh)) (fun f t6 out => ?_) (fun _ _ z => False.elim z)
    cases f with
    | next =>
      obtain ⟨σ6, H6, S6, q6⟩ := out
      obtain ⟨get6, free6, _⟩ := S6.pin (a, ob2) List.mem_cons_self
      refine gone_ok (track (o := XO C d a) (S6.unsuite okX) get6 free6 s0a nL notC notP ?_) nd at_ lc fun t7 J7 => ⟨_, _, J7, q6⟩
      exact ⟨⟨ob2, vs2, get6, hC ▸ zc2, dat2⟩, ⟨ob2, get6⟩, fun h1 h2 ⟨o, v, e, z, dd⟩ k => ⟨o, v, k o e, z, dd⟩⟩
    | brk => obtain ⟨_, _, _, z⟩ := out; exact False.elim z
    | cont => obtain ⟨_, _, _, z⟩ := out; exact False.elim z
    | ret u => obtain ⟨_, _, _, _, _, z⟩ := out; exact False.elim z
  case refine_2 =>
    cases f with
    | next =>
      obtain ⟨σ1, H1, J, q⟩ := out
      exact wpAny_execs_nil ⟨σ1, H1, J.ofTry okX, q⟩
    | brk => obtain ⟨σ1, H1, J, q⟩ := out; exact ⟨σ1, H1, J.ofTry okX, q⟩
    | cont => obtain ⟨σ1, H1, J, q⟩ := out; exact ⟨σ1, H1, J.ofTry okX, q⟩
    | ret u => obtain ⟨v, σ1, H1, J, r, q⟩ := out; exact ⟨v, σ1, H1, J.ofTry okX, r, q⟩
end
theorem EnvR.gone {g : G} {F : Hp} {μ : List Addr} {ρ : Env} {σ : L2.St} (h : EnvR g F μ ρ σ) (i : Nat) : EnvR g F μ (ρ.set i none) (σ.set i none) := EnvR.wipe h [i]
/-- try: b, except .. as n: y = n -/
def mTryK (cs : List Str) (i j : Nat) (b : SM) : SM := fun ρ S => match b ρ S with
  | .go (.ex (.exc c ns ds)) ρ' S' => if cs.contains c && decide (i < ρ'.length) then .go .nx (((ρ'.set i (some (.exc c ns ds))).set j (some (.exc c ns ds))).set i none) S' else .stuck
  | .go (.ex _) _ _ => .stuck
  | o => o
/-- the class x takes the exceptions of the classes cs -/
structure CatD (K : PySem.W.Frag) (mg : Str → Option Value) (x : Str) (cs : List Str) : Prop where
  ex : ∃ CS, mg x = some (.ref CS) ∧ ∀ c ∈ cs, ∃ C, mg c = some (.ref C) ∧ PySem.W.exmOne K (.ref C) (.ref CS) = some true
section
variable {X : Cx} {W : WX} {x n y : Str} {np pos ps2 p1 p2 p3 : Pos} {body : List Stmt} {fb : SM} {cs : List Str}
theorem ds_tryK (i j : Nat) (cd : CatD X.K X.mg x cs) (nd : X.N.Nodup)
    (bd : ∀ (W : WX) (pn : List (Addr × Obj)) (xe : Value → Shared → Prop), L2.Takes (X.tr pn xe) W → PassesOwn (model X.prog X.w) X.A X.env xe → DSs (X.tr pn xe) W body fb)
    (ex0 : X.ex = [] := by rfl) (stk : X.stack = X.env :: X.outer := by rfl) (frm : X.env.frame = some X.env.locals := by rfl) (hi : X.N[i]? = some n := by rfl) (hj : X.N[j]? = some y := by rfl)
    (lc : X.env.kindOf n = some .local := by rfl) (ln : Vis X.env.scope n := by first | exact .inl rfl | exact .inr rfl) (ly : X.env.scope.names.lookup y = some .local := by rfl)
    (g1 : Gl X x := by rfl) (g2 : (x == ("__debug__" : Str)) = false := by decide) (g3 : (n == ("__debug__" : Str)) = false := by decide) (g4 : (n == ("__classdict__" : Str)) = false := by decide)
    (hs : swapsWith (.Name n p2) (some (.Name y p1)) p3.line X.env = pure false := by rfl) :
    DS X W (.Try body [.ExceptHandler (some (.Name x np)) (some n) [.Assign [.Name y p1] (.Name n p2) p3] ps2] [] [] pos) (mTryK cs i j fb) := by
  obtain ⟨CS, hx, hcs⟩ := cd.ex
  refine PS.weak (ps_try_kept (c := .ref CS) (tb := fun W => tDS (gX X) W fb) (ts := fun a cls d D σ H => ∃ v, σ[i]? = some (some v) ∧ D.nx (σ.set j (some v)) H) ex0 stk frm nd hi lc ⟨g1, g2, .inl hx⟩ bd fun a ob cls d pn _ _ =>
    pss_one (PS.weak (ps_set (X := X.suite a ((a, ob) :: pn)) (i := j) nd hj (.inl ly) (pe_var hi ln g3 g4) hs (.inr ly)) fun D σ H ⟨v, h1, h2⟩ => ⟨v, h1, h2⟩)) fun D σ H ⟨P, ρ, F, μ, S, en, rl, k⟩ => ?_
  refine ⟨P, ρ, F, μ, S, en, rl, ?_⟩
  unfold mTryK at k
  cases q : fb ρ S with
  | stuck => rw [q] at k; exact k.elim
  | go fl ρ' S' =>
    rw [q] at k
    cases fl with
    | nx => exact k
    | bk => exact k
    | ct => exact k
    | rt d => exact k
    | ex e =>
      intro F' μ' H' gr r σ' cls dd en' xr
      obtain ⟨c, ns, ds, C, xs, rfl, hm, rfl, hd, hr, hl⟩ := xr
      simp only at k
      split at k
      · rename_i hc
        simp only [Bool.and_eq_true, List.contains_iff_mem, decide_eq_true_eq] at hc
        obtain ⟨C', hC', hex⟩ := hcs c hc.1
        have hm' : X.mg c = some (.ref C) := hm
        rw [hm'] at hC'; cases hC'
        refine ⟨hex, C, rfl, fun a ha => ⟨.ref a, ?_, ?_⟩⟩
        · rw [List.getElem?_set_self (by rw [← en'.len]; exact hc.2)]
        · obtain ⟨r1, gr1⟩ := r.froz (o := XO C dd a) ha
          have rp : Rep (gX X) (upd F' a (XO C dd a)) μ' (.exc c ns ds) (.ref a) := by
            simp only [Rep]
            exact ⟨a, C, dd, xs, rfl, hm, upd_same, xd_mono gr1 hd, hr.mono gr1, hl⟩
          exact k _ _ _ (gr.trans gr1) r1 _ ((((en'.mono gr1).set rp).set rp).gone i)
      · exact k.elim
end
end DL

/-! The data layer, 10: isinstance, the fields of an exception. -/
namespace DL
open PySem PySem.Spec PyProof.Rows L2

/-- the built-in type of a value -/
def tyT (d : D) (S : Store) : Option String := match d with
  | .non => some "NoneType"
  | .bl _ => some "bool"
  | .int _ => some "int"
  | .str _ => some "str"
  | .tup _ => some "tuple"
  | .wt _ => some "tuple"
  | .lst _ => some "list"
  | .ref n => match S[n]? with
    | some (.lst _) => some "list"
    | some (.dct _ _) => some "dict"
    | _ => none
  | _ => none
def subT (a T : String) : Bool := a == T || (a == "bool" && T == "int") || T == "object"
def isD (T : String) (tab : List (Str × Bool)) (d : D) : M D := fun S => match tyT d S with
  | some a => .ok (.bl (subT a T)) S
  | none => match d with
    | .exc c _ _ => match tab.lookup c with
      | some b => .ok (.bl b) S
      | none => .stuck
    | _ => .stuck
theorem kit_D {X : Cx} {pins : List (Addr × Obj)} {σ : L2.St} {s : Shared} {P F : Hp} {μ : List Addr} {S : Store} {H : Hp} {d : D} {v : V} {u : Value} {a : String} (I : Inv X pins σ H s) (r : Rel (gX X) P F μ S H) (p : Rep (gX X) F μ d v) (rv : RelV v u) (e : tyT d S = some a) :
    ∃ Z : Heap → Prop, PySem.W.KitX X.K u (.type a) Z ∧ Z s.heap ∧ u ≠ .builtin "__main__.__loader__#opaque" := by
  have tp : ∀ {q : Addr} {xs : List V}, SqT X.K H q xs → ∃ Z : Heap → Prop, PySem.W.KitX X.K (.ref q) (.type "tuple") Z ∧ Z s.heap ∧ (.ref q : Value) ≠ .builtin "__main__.__loader__#opaque" := fun {q xs} h => by
    obtain ⟨its, _, ⟨o, h1, h2, _⟩, _⟩ := I.tuple h
    exact ⟨_, PySem.W.kitx_tuple, ⟨o, h1, h2⟩, fun z => nomatch z⟩
  have ls : ∀ {q : Addr} {xs : List V}, SqL X.K H q xs → ∃ Z : Heap → Prop, PySem.W.KitX X.K (.ref q) (.type "list") Z ∧ Z s.heap ∧ (.ref q : Value) ≠ .builtin "__main__.__loader__#opaque" := fun {q xs} h => by
    obtain ⟨its, _, ⟨o, n, h1, h2, _⟩, _⟩ := I.list h
    exact ⟨_, PySem.W.kitx_list, ⟨o, h1, h2⟩, fun z => nomatch z⟩
  cases d with
  | non => cases e; rw [p.non] at rv; exact kit_of I rv (.base .non)
  | bl b => cases e; rw [p.bl] at rv; exact kit_of I rv (.base (.bl b))
  | int i => cases e; rw [p.int] at rv; exact kit_of I rv (.base (.int i))
  | str x => cases e; rw [p.str] at rv; exact kit_of I rv (.base (.str x))
  | tup l =>
    cases e
    obtain ⟨q, xs, rfl, hs, _⟩ := p.tup r
    cases rv; exact tp hs
  | wt l =>
    cases e
    obtain ⟨q, xs, rfl, hs, _⟩ := p.wt r
    cases rv; exact tp hs
  | lst l =>
    cases e
    obtain ⟨q, xs, rfl, hs, _⟩ := p.lst r
    cases rv; exact ls hs
  | ref n =>
    cases q : S[n]? with
    | none => simp [tyT, q] at e
    | some o =>
      cases o with
      | lst l =>
        simp [tyT, q] at e
        subst e
        obtain ⟨b, xs, rfl, _, hs, _⟩ := p.refL r q
        cases rv; exact ls (.of hs)
      | dct ks ds =>
        simp [tyT, q] at e
        subst e
        simp only [Rep] at p
        obtain ⟨b, h1, rfl⟩ := p
        rcases r.live n _ b q h1 with ⟨z, _⟩ | ⟨w, _, hw, xs, hx, _⟩
        · cases z
        · subst hx
          cases rv
          exact kit_of (x := .ref b) I rfl (.base (.dK hw))
      | ins _ _ _ => simp [tyT, q] at e
      | dead => simp [tyT, q] at e
  | obj _ _ _ => cases e
  | exc _ _ _ => cases e
/-- what the class of an exception must say -/
structure ExI (K : PySem.W.Frag) (C : Addr) : Prop where
  hc : (PySem.W.clsIn K C).isSome = true
  ga : PySem.W.findIn K (.ref C) "__getattribute__" = some (some (.builtin "BaseException.__getattribute__"))
  gt : PySem.W.findIn K (.ref C) "__getattr__" = some none
  sb : PySem.W.subIn K (.ref C) (.type "BaseException") = some true
  ca : PySem.W.findIn K (.ref C) "__class__" = some (some (.builtin "object.__class__"))
  sp : PySem.W.specialIn K (.builtin "object.__class__") "__get__" = some (some (.builtin "getset_descriptor.__get__"))
  tk : PySem.W.takesIn K (.builtin "object.__class__") = some true
  mo : PySem.W.mroIn K C (.type "object") = some true
  hd : PySem.W.hasDictIn K C = true
/-- isinstance(e, c) for the exceptions of the table -/
structure IsT (K : PySem.W.Frag) (mg : Str → Option Value) (cv : Value) (tab : List (Str × Bool)) : Prop where
  all : ∀ c b, tab.lookup c = some b → ∃ C, mg c = some (.ref C) ∧ ExI K C ∧ PySem.W.kitOne K (.ref C) cv = some b
theorem Reps.lookup {g : G} {F : Hp} {μ : List Addr} (f : Str) : ∀ {ns : List Str} {ds : List D} {xs : List V} {d : D}, Reps g F μ ds xs → (ns.zip ds).lookup f = some d → ∃ v, (ns.zip xs).lookup f = some v ∧ Rep g F μ d v
  | [], _, _, _, _, e => by simp at e
  | _ :: _, [], _, _, _, e => by simp at e
  | n :: ns, x :: ds, xs, d, h, e => by
    simp only [Reps] at h
    obtain ⟨v, vs, rfl, h1, h2⟩ := h
    simp only [List.zip_cons_cons, List.lookup_cons] at e ⊢
    cases q : f == n with
    | true =>
      rw [q] at e
      cases e
      exact ⟨v, rfl, h1⟩
    | false =>
      rw [q] at e
      exact Reps.lookup f h2 e
/-- an exception object in the heap -/
theorem exc_inst {X : Cx} {pins : List (Addr × Obj)} {σ : L2.St} {s : Shared} {P F : Hp} {μ : List Addr} {S : Store} {H : Hp} {c : Str} {ns : List Str} {ds : List D} {v : V} (I : Inv X pins σ H s) (r : Rel (gX X) P F μ S H) (p : Rep (gX X) F μ (.exc c ns ds) v) :
    ∃ a C ox od, v = .ref a ∧ X.mg c = some (.ref C) ∧ PySem.W.InstAt s.heap a ox C od ∧ ∀ f d, (ns.zip ds).lookup f = some d → ∃ (oo : Obj) (y : V) (w : Value), od = some oo ∧ PySem.W.lookIn f oo = some (some w) ∧ RelV y w ∧ Rep (gX X) F μ d y := by
  simp only [Rep] at p
  obtain ⟨a, C, dd, xs, rfl, hm, hx, hd, hr, hl⟩ := p
  obtain ⟨⟨ox, vs, e1, e2, e3⟩, _, _⟩ := I.hok a _ (r.sub _ _ hx)
  rcases hd with ⟨rfl, rfl, rfl⟩ | ⟨dx, rfl, hdx⟩
  · exact ⟨a, C, ox, none, rfl, hm, ⟨e1, e2.1, by unfold PySem.W.notCls; rw [e3], by rw [e2.2]; trivial⟩, fun f d e => by simp at e⟩
  · obtain ⟨mA, h1, h2⟩ := I.hok dx _ (r.sub _ _ hdx)
    obtain ⟨od, h3, h4⟩ := lookIn_ns h1
    refine ⟨a, C, ox, some od, rfl, hm, ⟨e1, e2.1, by unfold PySem.W.notCls; rw [e3], by rw [e2.2]; exact h3⟩, fun f d e => ?_⟩
    obtain ⟨y, h5, h6⟩ := hr.lookup f e
    obtain ⟨w, h7, h8⟩ := RelO.some_of (v := y) (o := mA f) (by rw [← h5]; exact h2 f)
    exact ⟨od, y, w, rfl, by rw [h4, h7], h8, h6⟩
section
variable {X : Cx} {W : WX} {e : Expr} {fe : EM} {T x : Str} {p p2 pos : Pos} {tab : List (Str × Bool)} {Tn : String}
theorem cd_is {cv : Value} {c : V} (hcv : ClsV c cv) (hT : cv = .type Tn) (hty : ∀ a ∈ ["NoneType", "bool", "int", "str", "tuple", "list", "dict"], kitB a Tn = some (subT a Tn)) (ht : IsT X.K X.mg cv tab) :
    CallR X (.builtin "isinstance") (fun vs H Q => ∃ d v P F μ S E, vs = [v, c] ∧ Rel (gX X) P F μ S H ∧ Rep (gX X) F μ d v ∧ Fin (repD (gX X)) (gX X) P F μ (isD Tn tab d S) Q E) := by
  intro pins s σ H vs us Q I rv ⟨d, v, P, F, μ, S, E, ev, rl, p, k⟩
  subst ev hT
  obtain ⟨u1, u2, rfl, r1, r2⟩ := vals2 rv
  have e2 := hcv.eq r2
  subst e2
  unfold isD at k
  cases q : tyT d S with
  | some a =>
    rw [q] at k
    have ha : a ∈ ["NoneType", "bool", "int", "str", "tuple", "list", "dict"] := by
      cases d <;> simp only [tyT] at q <;> first | (cases q; done) | (cases q; decide) | skip
      split at q <;> first | (cases q; decide) | cases q
    obtain ⟨Z, z1, z2, z3⟩ := kit_D I rl p r1 q
    exact PySem.W.kia_one z1 I.kIn z2 (kit_ty (hty a ha)) z3 fun tk => ⟨.bl _, H, I.tok tk, rfl, k.here rl rep_bl⟩
  | none =>
    rw [q] at k
    cases d <;> first | exact k.elim | skip
    rename_i cn ns ds
    simp only at k
    cases q2 : tab.lookup cn with
    | none => rw [q2] at k; exact k.elim
    | some b =>
      rw [q2] at k
      obtain ⟨C, hm, hC, hk⟩ := ht.all cn b q2
      obtain ⟨a, C', ox, od, rfl, hm', J, _⟩ := exc_inst I rl p
      rw [hm] at hm'; cases hm'
      cases r1
      exact PySem.W.kia_one (PySem.W.kitx_exc hC.hc hC.ga hC.gt hC.sb hC.ca hC.sp hC.tk hC.mo) I.kIn J hk (fun z => nomatch z) fun tk => ⟨.bl b, H, I.tok tk, rfl, k.here rl rep_bl⟩
/-- isinstance(e, T), T a built-in type -/
def mIs (Tn : String) (tab : List (Str × Bool)) (fe : EM) : EM := fun ρ S => (fe ρ S).bind (isD Tn tab)
theorem d_isB (hm : X.mg "isinstance" = none) (hmT : X.mg T = none) (hty : ∀ a ∈ ["NoneType", "bool", "int", "str", "tuple", "list", "dict"], kitB a Tn = some (subT a Tn)) (ht : IsT X.K X.mg (.type Tn) tab) (he : DE X W e fe)
    (hg : Gl X "isinstance" := by rfl) (hgT : Gl X T := by rfl) (hv : bootBuiltins T = some (.type Tn) := by decide +kernel) (hn : T ≠ "__name__" := by decide) (hdb : (T == ("__debug__" : Str)) = false := by decide)
    (h1 : starEach [e, .Name T p2] X.env = (false, eval e X.env) :: starEach [.Name T p2] X.env := by rfl) (h2 : starEach [.Name T p2] X.env = (false, eval (.Name T p2) X.env) :: starEach [] X.env := by rfl) (h3 : (backTo pos (starEach [.Name T p2] X.env)).any (·.1) = false := by rfl) :
    DE X W (.Call (.Name "isinstance" p) [e, .Name T p2] [] pos) (mIs Tn tab fe) := by
  have hT : PE X (.Name T p2) (tC (.ty Tn)) := ⟨fun pins s σ H Q I q => ld_blt I hgT hmT hv ⟨.ty Tn, H, I, rfl, q⟩ hn hdb⟩
  refine PE.weak (pe_callB (id := "isinstance") (cd_is (.ty Tn) rfl hty ht) hg hm (by decide +kernel) (pa_cons he (pa_cons hT pa_nil h2) h1) (by decide) (by decide) h1 h3) fun σ H Q ⟨P, ρ, F, μ, S, en, rl, k⟩ => ?_
  refine tD.run en rl (Fin.imp (Fin.bind (rep := repD (gX X)) k) (fun v H1 ⟨d, F1, μ1, S1, g1, r1, p1, k1⟩ => ?_) fun _ _ _ z => z)
  exact ⟨d, v, P, F1, μ1, S1, _, rfl, r1, p1, k1⟩
/-- isinstance(e, x), x an own class, e an exception -/
def isC (tab : List (Str × Bool)) (d : D) : M D := fun S => match d with
  | .exc c _ _ => match tab.lookup c with
    | some b => .ok (.bl b) S
    | none => .stuck
  | _ => .stuck
def mIsC (tab : List (Str × Bool)) (fe : EM) : EM := fun ρ S => (fe ρ S).bind (isC tab)
/-- the module's name x is an own class, and isinstance answers as the table says -/
structure IsCD (K : PySem.W.Frag) (mg : Str → Option Value) (x : Str) (tab : List (Str × Bool)) : Prop where
  ex : ∃ CS, mg x = some (.ref CS) ∧ IsT K mg (.ref CS) tab
theorem d_isC (hm : X.mg "isinstance" = none) (hx : IsCD X.K X.mg x tab) (he : DE X W e fe) (hg : Gl X "isinstance" := by rfl) (hgT : Gl X x := by rfl) (hdb : (x == ("__debug__" : Str)) = false := by decide)
    (h1 : starEach [e, .Name x p2] X.env = (false, eval e X.env) :: starEach [.Name x p2] X.env := by rfl) (h2 : starEach [.Name x p2] X.env = (false, eval (.Name x p2) X.env) :: starEach [] X.env := by rfl) (h3 : (backTo pos (starEach [.Name x p2] X.env)).any (·.1) = false := by rfl) :
    DE X W (.Call (.Name "isinstance" p) [e, .Name x p2] [] pos) (mIsC tab fe) := by
  obtain ⟨CS, hmx, ht⟩ := hx.ex
  have cr : CallR X (.builtin "isinstance") (fun vs H Q => ∃ d v P F μ S E, vs = [v, .ref CS] ∧ Rel (gX X) P F μ S H ∧ Rep (gX X) F μ d v ∧ Fin (repD (gX X)) (gX X) P F μ (isC tab d S) Q E) := by
    intro pins s σ H vs us Q I rv ⟨d, v, P, F, μ, S, E, ev, rl, p, k⟩
    subst ev
    obtain ⟨u1, u2, rfl, r1, r2⟩ := vals2 rv
    cases r2
    unfold isC at k
    cases d <;> first | exact k.elim | skip
    rename_i cn ns ds
    simp only at k
    cases q2 : tab.lookup cn with
    | none => rw [q2] at k; exact k.elim
    | some b =>
      rw [q2] at k
      obtain ⟨C, hm, hC, hk⟩ := ht.all cn b q2
      obtain ⟨a, C', ox, od, rfl, hm', J, _⟩ := exc_inst I rl p
      rw [hm] at hm'; cases hm'
      cases r1
      exact PySem.W.kia_one (PySem.W.kitx_exc hC.hc hC.ga hC.gt hC.sb hC.ca hC.sp hC.tk hC.mo) I.kIn J hk (fun z => nomatch z) fun tk => ⟨.bl b, H, I.tok tk, rfl, k.here rl rep_bl⟩
  refine PE.weak (pe_callB (id := "isinstance") cr hg hm (by decide +kernel) (pa_cons he (pa_cons (pe_glob hgT hmx (v := .ref CS) rfl hdb) pa_nil h2) h1) (by decide) (by decide) h1 h3) fun σ H Q ⟨P, ρ, F, μ, S, en, rl, k⟩ => ?_
  refine tD.run en rl (Fin.imp (Fin.bind (rep := repD (gX X)) k) (fun v H1 ⟨d, F1, μ1, S1, g1, r1, p1, k1⟩ => ?_) fun _ _ _ z => z)
  exact ⟨d, v, P, F1, μ1, S1, _, rfl, r1, p1, k1⟩
/-- e.f, e an exception with the field f -/
def xfD (f : Str) (d : D) : M D := fun S => match d with
  | .exc _ ns ds => match (ns.zip ds).lookup f with
    | some y => .ok y S
    | none => .stuck
  | _ => .stuck
def mXf (f : Str) (fe : EM) : EM := fun ρ S => (fe ρ S).bind (xfD f)
/-- the classes whose instances may be asked for f -/
structure XfD (K : PySem.W.Frag) (mg : Str → Option Value) (f : Str) (cs : List Str) : Prop where
  all : ∀ c ∈ cs, ∃ C, mg c = some (.ref C) ∧ ExI K C ∧ PySem.W.findIn K (.ref C) f = some none
def xfC (cs : List Str) (f : Str) (d : D) : M D := fun S => match d with
  | .exc c _ _ => if cs.contains c then xfD f d S else .stuck
  | _ => .stuck
def mXfC (cs : List Str) (f : Str) (fe : EM) : EM := fun ρ S => (fe ρ S).bind (xfC cs f)
theorem d_xf {f : Str} {cs : List Str} (hx : XfD X.K X.mg f cs) (he : DE X W e fe) (hb : attributeBase e f X.env (eval e X.env) = eval e X.env := by rfl) : DE X W (.Attribute e f pos) (mXfC cs f fe) := by
  refine ⟨fun pins s σ H Q I ⟨P, ρ, F, μ, S, en, rl, k⟩ => ?_⟩
  refine attr_of hb (thn (he.run pins s σ H _ I (tD.run en rl (Fin.imp (Fin.bind (rep := repD (gX X)) k) (fun v H1 z => z) fun _ _ _ z => z))) fun u s1 ⟨v, H1, I1, rv, d, F1, μ1, S1, g1, r1, p1, k1⟩ => ?_)
  unfold xfC at k1
  cases d <;> first | exact k1.elim | skip
  rename_i c ns ds
  simp only at k1
  split at k1
  · rename_i hc
    unfold xfD at k1
    simp only at k1
    cases q : (ns.zip ds).lookup f with
    | none => rw [q] at k1; exact k1.elim
    | some y =>
      rw [q] at k1
      obtain ⟨C, hm, hC, hno⟩ := hx.all c (List.contains_iff_mem.mp hc)
      obtain ⟨a, C', ox, od, rfl, hm', J, hf⟩ := exc_inst I1 r1 p1
      rw [hm] at hm'; cases hm'
      cases rv
      obtain ⟨oo, z, w, rfl, h1, h2, h3⟩ := hf f y q
      exact HandSPX.exc_get I1.kIn J hC.ga hC.gt hC.sb (PySem.W.findObj_own hC.hd hno rfl h1) (handed_of h2) ⟨z, H1, I1.tok _, h2, k1.here r1 h3⟩
  · exact k1.elim
end
end DL

/-! The data layer, 11: repr of numbers of up to 4,300 digits, also within lists and tuples. -/
namespace DL
open PySem PySem.Spec PyProof.Rows L2

mutual
def fewB : PyData → Bool
  | .none => true
  | .bool _ => true
  | .str _ => true
  | .int i => decide (i.natAbs < 10 ^ 4300)
  | .list xs => fewsB xs
  | .tuple xs => fewsB xs
  | .dict _ => false
def fewsB : List PyData → Bool
  | [] => true
  | x :: xs => fewB x && fewsB xs
end
section
variable {prog : Program} {w : World} {h0 : Heap}
theorem big_int {A : Around} {E : Value → Shared → Prop} {s : Shared} {i : Int} {t : Tok} {Q : Value → Shared → Prop} (hn : s.heap.NoDigits) (hi : i.natAbs < 10 ^ 4300) (hu : A.units < cLine) (h : Q (.str (toString i) s.toks) { s with toks := s.toks + 1 }) :
    wpAny (model prog w) A (pyReprObj (.int i t)) Q E s := by
  refine wpAny_pyReprObj_slot hu (typeIs_int s i t) PySem.F.slot_int_repr.toG (wpAny_call_entry PySem.F.slot_int_repr (typeIs_int s i t) PySem.F.entry_int_repr ?_ (PySem.F.args_int_repr_1 _))
  unfold Builtin.«int.__repr__»
  show wpAny _ _ (do let q ← Builtin.overDigitLimit? i; _) _ _ s
  exact wpAny_bind (overDigitLimit_any hn (fun _ => wpAny_bind (wpAny_mkStr (wpAny_pure ⟨_, rfl, _, _, rfl, h⟩) (int_text_fits10 hi))) (fun z => absurd hi (Nat.not_lt.mpr z)))
theorem big_leaf {i : Int} {t : Tok} (nd : h0.NoDigits) (hi : i.natAbs < 10 ^ 4300) (bs : List Addr) (n : Nat) : ReprK prog w bs h0 n (.int i t) (toString i) := by
  intro b hb A g E s Q hg hc hu hk hQ
  rw [pyReprUnder_leaf (v := .int i t) (by omega) (fun a e => nomatch e)]
  unfold pyRepr
  exact wpAny_bind (big_int (nd.keeps hk) hi (by omega) (wpAny_pure (hQ s.heap _ fun _ _ e => e)))
mutual
theorem bigK (nd : h0.NoDigits) : ∀ {v : Value} {d : PyData} {as : List Addr}, Reads h0 v d as → fewB d = true → d.shown.length ≤ sizeLine → ∃ bs, ReadAtMost h0 d.depth bs ∧ ReprK prog w bs h0 d.depth v d.shown
  | _, _, _, .none, _, _ => ⟨[], nofun, by rw [PyData.shown]; exact .of_is ReprIs.none _ _ _⟩
  | _, _, _, .bool b, _, _ => ⟨[], nofun, by rw [PyData.shown]; exact .of_is (ReprIs.bool b) _ _ _⟩
  | _, _, _, .int i t, hf, _ => ⟨[], nofun, by rw [PyData.shown]; exact big_leaf nd (by simpa [fewB] using hf) _ _⟩
  | _, _, _, .str x t, _, hz => ⟨[], nofun, by rw [PyData.shown] at hz ⊢; exact .of_is (ReprIs.str x t hz) _ _ _⟩
  | _, _, _, .list (a := a) (vs := vs) (xs := xs) h1 h2 h3 h4, hf, hz => by
    rw [PyData.shown] at hz
    obtain ⟨bs, b1, b2⟩ := bigsK nd h4 (by simpa [fewB] using hf) fun t m => Nat.le_trans (listText_mem_le m) hz
    have rd : Reads h0 (.ref a) (.list xs) _ := .list h1 h2 h3 h4
    have out : a ∉ bs := not_mem_of_deeper rd (by rw [PyData.depth]; omega) b1
    refine ⟨a :: bs, ReadAtMost.cons rd (by rw [PyData.depth]; omega) b1, ?_⟩
    rw [PyData.depth, PyData.shown]
    rcases vs with ⟨_ | ⟨y, l⟩⟩
    · cases (show ReadsAll h0 [] xs _ from h4)
      rw [PyData.shownAll, listText_nil]
      exact .listEmpty h1 h2 h3
    · exact .list h1 h2 h3 out (by simpa using b2.length_eq) fun i z e => b2.item i z (by simpa using e)
  | _, _, _, .tuple (a := a) (xs := xs) h1 h2 h3 h4, hf, hz => by
    rw [PyData.shown] at hz
    obtain ⟨bs, b1, b2⟩ := bigsK nd h4 (by simpa [fewB] using hf) fun t m => Nat.le_trans (tupleText_mem_le m) hz
    have rd : Reads h0 (.ref a) (.tuple xs) _ := .tuple h1 h2 h3 h4
    have out : a ∉ bs := not_mem_of_deeper rd (by rw [PyData.depth]; omega) b1
    refine ⟨a :: bs, ReadAtMost.cons rd (by rw [PyData.depth]; omega) b1, ?_⟩
    rw [PyData.depth, PyData.shown]
    exact .tuple h1 h2 h3 out b2
  | _, _, _, .dict .., hf, _ => by simp [fewB] at hf
theorem bigsK (nd : h0.NoDigits) : ∀ {vs : List Value} {ds : List PyData} {as : List Addr}, ReadsAll h0 vs ds as → fewsB ds = true → (∀ t ∈ PyData.shownAll ds, t.length ≤ sizeLine) →
    ∃ bs, ReadAtMost h0 (PyData.depthAll ds) bs ∧ ReprAllK prog w bs h0 (PyData.depthAll ds) vs (PyData.shownAll ds)
  | _, _, _, .nil, _, _ => ⟨[], nofun, by rw [PyData.shownAll]; exact .nil⟩
  | _, _, _, .cons (d := d) (ds := ds) r rs, hf, hz => by
    rw [PyData.shownAll] at hz
    simp only [fewsB, Bool.and_eq_true] at hf
    obtain ⟨b1, m1, k1⟩ := bigK nd r hf.1 (hz _ List.mem_cons_self)
    obtain ⟨b2, m2, k2⟩ := bigsK nd rs hf.2 fun t m => hz t (List.mem_cons_of_mem _ m)
    have le1 : d.depth ≤ PyData.depthAll (d :: ds) := by rw [PyData.depthAll]; exact Nat.le_max_left _ _
    have le2 : PyData.depthAll ds ≤ PyData.depthAll (d :: ds) := by rw [PyData.depthAll]; exact Nat.le_max_right _ _
    refine ⟨b1 ++ b2, (m1.mono le1).append (m2.mono le2), ?_⟩
    rw [PyData.shownAll]
    exact .cons ((k1.more fun b m => List.mem_append_left _ m).level_le le1) (k2.more_le (fun b m => List.mem_append_right _ m) le2)
end
/-- repr(v) -/
theorem big_repr {A : Around} {E : Value → Shared → Prop} {s : Shared} {Q : Value → Shared → Prop} {v : Value} {d : PyData} {as : List Addr} (r : Reads s.heap v d as) (nd : s.heap.NoDigits) (hf : fewB d = true) (hz : d.shown.length ≤ sizeLine) (hg : A.guards = some []) (hu : A.units + d.depth + 1 < cLine)
    (q : ∀ h' u tk, (∀ b o, s.heap.get? b = some o → h'.get? b = some o) → Q (.str d.shown u) { s with heap := h', toks := tk }) : wpAny (model prog w) A (call (.builtin "repr") [v]) Q E s := by
  cases r with
  | none => exact PySem.P.repr_of_none (q s.heap _ _ fun _ _ e => e)
  | bool b => exact PySem.P.repr_of_bool (q s.heap _ _ fun _ _ e => e)
  | int i t =>
    have hi : i.natAbs < 10 ^ 4300 := by simpa [fewB] using hf
    refine call_repr_slot (by omega) (typeIs_int s i t) PySem.F.slot_int_repr.toG (wpAny_call_entry PySem.F.slot_int_repr (typeIs_int s i t) PySem.F.entry_int_repr ?_ (PySem.F.args_int_repr_1 _))
    unfold Builtin.«int.__repr__»
    show wpAny _ _ (do let q ← Builtin.overDigitLimit? i; _) _ _ s
    exact wpAny_bind (overDigitLimit_any nd (fun _ => wpAny_bind (wpAny_mkStr (wpAny_pure ⟨_, rfl, _, _, rfl, q s.heap _ _ fun _ _ e => e⟩) (int_text_fits10 hi))) (fun z => absurd hi (Nat.not_lt.mpr z)))
  | str x t =>
    rw [PyData.shown] at hz
    exact PySem.P.repr_of_str (q s.heap _ _ fun _ _ e => e) hz
  | @list o a vs n xs bs0 h1 h2 h3 h4 =>
    rw [PyData.shown] at hz
    rw [PyData.depth] at hu
    obtain ⟨bs, b1, b2⟩ := bigsK (prog := prog) (w := w) nd h4 (by simpa [fewB] using hf) fun t m => Nat.le_trans (listText_mem_le m) hz
    have out := not_mem_of_deeper (.list h1 h2 h3 h4) (n := PyData.depthAll xs) (bs := bs) (by rw [PyData.depth]; omega) b1
    refine call_repr_slot (by omega) ⟨_, h1, h2⟩ PySem.F.slot_list_repr.toG ?_
    rcases vs with ⟨_ | ⟨y, l⟩⟩
    · cases (show ReadsAll s.heap [] xs _ from h4)
      rw [PyData.shown, PyData.shownAll, listText_nil] at q
      exact call_list_repr_empty ⟨_, h1, h2⟩ h1 h3 ⟨_, _, rfl, q s.heap _ _ fun _ _ e => e⟩
    · rw [PyData.shown] at q
      exact call_list_reprK h1 h2 h3 out (by simpa using b2.length_eq) (fun i z e => b2.item i z (by simpa using e)) hg (fun b _ => Clear.nil b) (by show A.units + 1 + _ < cLine; omega) (fun _ _ e => e) (fun h' u tk k => ⟨_, _, rfl, q h' u tk k⟩) hz
  | tuple h1 h2 h3 h4 =>
    rename_i xs
    rw [PyData.shown] at hz
    rw [PyData.depth] at hu
    obtain ⟨bs, b1, b2⟩ := bigsK (prog := prog) (w := w) nd h4 (by simpa [fewB] using hf) fun t m => Nat.le_trans (tupleText_mem_le m) hz
    have out := not_mem_of_deeper (.tuple h1 h2 h3 h4) (n := PyData.depthAll xs) (bs := bs) (by rw [PyData.depth]; omega) b1
    rw [PyData.shown] at q
    exact call_repr_slot (by omega) ⟨_, h1, h2⟩ PySem.F.slot_tuple_repr (call_tuple_reprK h1 h2 h3 out b2 hg (fun b _ => Clear.nil b) (by show A.units + 1 + _ < cLine; omega) (fun _ _ e => e) (fun h' u tk k => ⟨_, _, rfl, q h' u tk k⟩) hz)
  | dict => simp [fewB] at hf
end
/-- repr(x) -/
def reprD (x : D) : M D := fun S => if plain 63 (derD x S) && fewB (toPy (derD x S)) && decide ((toPy (derD x S)).shown.length ≤ sizeLine) then .ok (.str (toPy (derD x S)).shown) S else .stuck
theorem nd_here {X : Cx} {pins : List (Addr × Obj)} {σ : L2.St} {H : Hp} {s : Shared} (I : Inv X pins σ H s) (nd : X.base.NoDigits) : s.heap.NoDigits := nd.keeps I.bk
theorem cd_repr {X : Cx} (nd : X.base.NoDigits) (hg : X.A.guards = some []) (hu : X.A.units + 64 < cLine) : CallD X (.builtin "repr") (one reprD) := by
  intro pins s σ H vs us Q I rv ⟨ds, P, F, μ, S, E, rl, rx, k⟩
  obtain ⟨d, v, rfl, p, k⟩ := one_fin k rx
  unfold reprD at k
  split at k
  · rename_i hc
    simp only [Bool.and_eq_true, decide_eq_true_eq] at hc
    obtain ⟨⟨h1, h2⟩, h3⟩ := hc
    obtain ⟨u, rfl, ru⟩ := vals1 rv
    obtain ⟨as, rd⟩ := Dp.reads I _ v u (der_dp rl (plain_up h1) p) ru
    obtain ⟨_, hd⟩ := plain_lay 63 _ h1
    exact big_repr rd (nd_here I nd) h2 h3 hg (by omega) fun h' u tk hk => ⟨.str _, H, I.kept (t' := tk) hk, ⟨_, rfl⟩, k.here rl rep_str⟩
  · exact k.elim
end DL

/-! The data layer, 12: what the top tells of classes and names; augmented assignments; extend. -/
namespace DL
open PySem PySem.Spec PyProof.Rows L2

inductive Each {α : Type} (P : α → Prop) : List α → Prop where
  | nil : Each P []
  | cons {a : α} {l : List α} (h : P a) (t : Each P l) : Each P (a :: l)
theorem Each.mem {α : Type} {P : α → Prop} {l : List α} (e : Each P l) : ∀ a ∈ l, P a := by
  induction e with
  | nil => intro a h; simp at h
  | cons h t ih =>
    intro a m
    rcases List.mem_cons.mp m with rfl | m
    · exact h
    · exact ih a m
def NsK (K : PySem.W.Frag) (x : Str) (C : Addr) : Prop := PySem.W.nsIn K mainGlobals x = some (some (.ref C))
theorem nsK {K : PySem.W.Frag} {x : Str} {C : Addr} (h : PySem.W.nsIn K mainGlobals x = some (some (.ref C))) : NsK K x C := h
theorem NsK.eq {K : PySem.W.Frag} {x : Str} {C D : Addr} (a : NsK K x C) (b : NsK K x D) : C = D := by
  unfold NsK at a b
  rw [a] at b
  injection b with b
  injection b with b
  injection b
/-- an own exception class -/
def XcK (K : PySem.W.Frag) (c : Str) : Prop := ∃ C, NsK K c C ∧ ExI K C
theorem xcK {K : PySem.W.Frag} {c : Str} {C : Addr} (n : PySem.W.nsIn K mainGlobals c = some (some (.ref C))) (h2 : PySem.W.findIn K (.ref C) "__getattribute__" = some (some (.builtin "BaseException.__getattribute__"))) (h3 : PySem.W.findIn K (.ref C) "__getattr__" = some none)
    (h4 : PySem.W.subIn K (.ref C) (.type "BaseException") = some true) (h5 : PySem.W.findIn K (.ref C) "__class__" = some (some (.builtin "object.__class__"))) (h6 : PySem.W.specialIn K (.builtin "object.__class__") "__get__" = some (some (.builtin "getset_descriptor.__get__")))
    (h7 : PySem.W.takesIn K (.builtin "object.__class__") = some true) (h8 : PySem.W.mroIn K C (.type "object") = some true) (h9 : PySem.W.hasDictIn K C = true) : XcK K c := ⟨C, n, (by obtain ⟨cd, e, _⟩ := PySem.W.any_some h9; rw [e]; rfl), h2, h3, h4, h5, h6, h7, h8, h9⟩
/-- isinstance of an exception of the class p.1 by the class x, by the built-in type T -/
def IsPK (K : PySem.W.Frag) (x : Str) (p : Str × Bool) : Prop := ∃ CS C, NsK K x CS ∧ NsK K p.1 C ∧ PySem.W.kitOne K (.ref C) (.ref CS) = some p.2
def IsTK (K : PySem.W.Frag) (T : String) (p : Str × Bool) : Prop := ∃ C, NsK K p.1 C ∧ PySem.W.kitOne K (.ref C) (.type T) = some p.2
/-- an except clause -/
def CaPK (K : PySem.W.Frag) (x c : Str) : Prop := ∃ CS C, NsK K x CS ∧ NsK K c C ∧ PySem.W.exmOne K (.ref C) (.ref CS) = some true
/-- the field f of the class c's exceptions -/
def XfPK (K : PySem.W.Frag) (f c : Str) : Prop := ∃ C, NsK K c C ∧ PySem.W.findIn K (.ref C) f = some none
theorem isPK {K : PySem.W.Frag} {x c : Str} {b : Bool} {CS C : Addr} (h1 : PySem.W.nsIn K mainGlobals x = some (some (.ref CS))) (h2 : PySem.W.nsIn K mainGlobals c = some (some (.ref C))) (h3 : PySem.W.kitOne K (.ref C) (.ref CS) = some b) : IsPK K x (c, b) := ⟨CS, C, h1, h2, h3⟩
theorem isTK {K : PySem.W.Frag} {T : String} {c : Str} {b : Bool} {C : Addr} (h2 : PySem.W.nsIn K mainGlobals c = some (some (.ref C))) (h3 : PySem.W.kitOne K (.ref C) (.type T) = some b) : IsTK K T (c, b) := ⟨C, h2, h3⟩
theorem caPK {K : PySem.W.Frag} {x c : Str} {CS C : Addr} (h1 : PySem.W.nsIn K mainGlobals x = some (some (.ref CS))) (h2 : PySem.W.nsIn K mainGlobals c = some (some (.ref C))) (h3 : PySem.W.exmOne K (.ref C) (.ref CS) = some true) : CaPK K x c := ⟨CS, C, h1, h2, h3⟩
theorem xfPK {K : PySem.W.Frag} {f c : Str} {C : Addr} (h2 : PySem.W.nsIn K mainGlobals c = some (some (.ref C))) (h3 : PySem.W.findIn K (.ref C) f = some none) : XfPK K f c := ⟨C, h2, h3⟩
section
variable {K : PySem.W.Frag} {h : Heap} {mg : Str → Option Value}
theorem mem_lookup {tab : List (Str × Bool)} {c : Str} {b : Bool} (e : tab.lookup c = some b) : (c, b) ∈ tab := by
  induction tab with
  | nil => simp at e
  | cons p l ih =>
    obtain ⟨a, d⟩ := p
    simp only [List.lookup_cons] at e
    cases q : c == a with
    | true =>
      rw [q] at e
      cases e
      have : c = a := by simpa using q
      subst this
      exact List.mem_cons_self
    | false =>
      rw [q] at e
      exact List.mem_cons_of_mem _ (ih e)
theorem isCD_of (X : K.In h) (G : h.Ns mainGlobals mg) {x : Str} {tab : List (Str × Bool)} {CS : Addr} (hx : NsK K x CS) (hz : Each (XcK K) (tab.map (·.1))) (hp : Each (IsPK K x) tab) : IsCD K mg x tab :=
  ⟨CS, PySem.W.mg_of X G hx, ⟨fun c b e => by
    have m := mem_lookup e
    obtain ⟨C, n1, n2⟩ := hz.mem c (List.mem_map.mpr ⟨_, m, rfl⟩)
    obtain ⟨CS', C', n3, n4, n5⟩ := hp.mem _ m
    cases hx.eq n3
    cases n1.eq n4
    exact ⟨C, PySem.W.mg_of X G n1, n2, n5⟩⟩⟩
theorem isT_of (X : K.In h) (G : h.Ns mainGlobals mg) {T : String} {tab : List (Str × Bool)} (hz : Each (XcK K) (tab.map (·.1))) (hp : Each (IsTK K T) tab) : IsT K mg (.type T) tab :=
  ⟨fun c b e => by
    have m := mem_lookup e
    obtain ⟨C, n1, n2⟩ := hz.mem c (List.mem_map.mpr ⟨_, m, rfl⟩)
    obtain ⟨C', n4, n5⟩ := hp.mem _ m
    cases n1.eq n4
    exact ⟨C, PySem.W.mg_of X G n1, n2, n5⟩⟩
theorem isT_nil {T : String} : IsT K mg (.type T) [] := ⟨fun c b e => by simp at e⟩
theorem catD_of (X : K.In h) (G : h.Ns mainGlobals mg) {x : Str} {cs : List Str} {CS : Addr} (hx : NsK K x CS) (hp : Each (CaPK K x) cs) : CatD K mg x cs :=
  ⟨CS, PySem.W.mg_of X G hx, fun c m => by
    obtain ⟨CS', C, n3, n4, n5⟩ := hp.mem _ m
    cases hx.eq n3
    exact ⟨C, PySem.W.mg_of X G n4, n5⟩⟩
theorem xfD_of (X : K.In h) (G : h.Ns mainGlobals mg) {f : Str} {cs : List Str} (hz : Each (XcK K) cs) (hp : Each (XfPK K f) cs) : XfD K mg f cs :=
  ⟨fun c m => by
    obtain ⟨C, n1, n2⟩ := hz.mem c m
    obtain ⟨C', n3, n4⟩ := hp.mem c m
    cases n1.eq n3
    exact ⟨C, PySem.W.mg_of X G n1, n2, n4⟩⟩
/-- x, a second name of the def y -/
def SameK (K : PySem.W.Frag) (x y : Str) : Prop := ∃ f, NsK K x f ∧ NsK K y f
theorem sameK {x y : Str} {f : Addr} (a : PySem.W.nsIn K mainGlobals x = some (some (.ref f))) (b : PySem.W.nsIn K mainGlobals y = some (some (.ref f))) : SameK K x y := ⟨f, a, b⟩
theorem SameK.cal {P : Program} {w : World} {base : Heap} {k n : Nat} {x y : Str} {m : List D → M D} (s : SameK K x y) (X : K.In h) (G : h.Ns mainGlobals mg) (c : Cal P w K mg base k y n m) : Cal P w K mg base k x n m := by
  obtain ⟨f, n1, n2⟩ := s
  obtain ⟨f', fd, ps, h1, h2, h3, h4, h5⟩ := c.ex
  rw [PySem.W.mg_of X G n2] at h1
  cases h1
  exact ⟨f, fd, ps, PySem.W.mg_of X G n1, h2, h3, h4, h5⟩
/-- a constant of the module -/
def GlobV (K : PySem.W.Frag) (d : D) (u : Value) : Prop := ∃ v, RelV v u ∧ ∀ (g : G) (F : Hp) (μ : List Addr), g.K = K → Rep g F μ d v
inductive GlobVs (K : PySem.W.Frag) : List D → List Value → Prop where
  | nil : GlobVs K [] []
  | cons {d : D} {u : Value} {ds : List D} {us : List Value} (h : GlobV K d u) (t : GlobVs K ds us) : GlobVs K (d :: ds) (u :: us)
theorem globV_int {i : Int} {t : Tok} : GlobV K (.int i) (.int i t) := ⟨.int i, ⟨t, rfl⟩, fun _ _ _ _ => rep_int⟩
theorem globV_str {x : Str} {t : Tok} : GlobV K (.str x) (.str x t) := ⟨.str x, ⟨t, rfl⟩, fun _ _ _ _ => rep_str⟩
theorem globV_tup {ds : List D} {a : Addr} {us : List Value} {n : Nat} {sl : Array (Option Value)} (l : K.lookup a = some ⟨.type "tuple", none, .seq us.toArray n, sl⟩) (h : GlobVs K ds us) (hz : ds.length ≤ sizeLine) : GlobV K (.tup ds) (.ref a) := by
  have key : ∃ xs, Vals xs us ∧ xs.length = ds.length ∧ ∀ (g : G) (F : Hp) (μ : List Addr), g.K = K → Reps g F μ ds xs := by
    clear hz l
    induction h with
    | nil => exact ⟨[], .nil, rfl, fun _ _ _ _ => reps_nil⟩
    | cons h t ih =>
      obtain ⟨v, h1, h2⟩ := h
      obtain ⟨xs, h3, h4, h5⟩ := ih
      exact ⟨v :: xs, .cons h1 h3, by simp [h4], fun g F μ e => reps_cons (h2 g F μ e) (h5 g F μ e)⟩
  obtain ⟨xs, h1, h2, h3⟩ := key
  refine ⟨.ref a, rfl, fun g F μ e => ?_⟩
  simp only [Rep]
  subst e
  refine ⟨a, xs, rfl, ⟨.inr ⟨_, us.toArray, n, l, rfl, rfl, ?_, by simpa using h1⟩, ⟨_, rfl, .inr l⟩⟩, h3 g F μ rfl⟩
  have := h1.length
  simp; omega
def GlobK (K : PySem.W.Frag) (x : Str) (d : D) : Prop := ∃ u, PySem.W.nsIn K mainGlobals x = some (some u) ∧ GlobV K d u
theorem globK {x : Str} {d : D} {u : Value} (a : PySem.W.nsIn K mainGlobals x = some (some u)) (b : GlobV K d u) : GlobK K x d := ⟨u, a, b⟩
theorem GlobK.glob {x : Str} {d : D} (k : GlobK K x d) (X : K.In h) (G : h.Ns mainGlobals mg) : GlobD ⟨K, mg⟩ x d := by
  obtain ⟨u, a, v, r, p⟩ := k
  exact ⟨v, u, PySem.W.mg_of X G a, r, fun F μ => p _ F μ rfl⟩
end
/-- a + b, a list that will change -/
def addN (x y : D) : M D := fun S => match lstOf x S, lstOf y S with
  | some a, some b => if a.length + b.length ≤ sizeLine then .ok (.ref S.length) (S ++ [.lst (a ++ b)]) else .stuck
  | _, _ => .stuck
theorem od_addN {X : Cx} : OpD X (binaryOp .Add) addN := by
  intro pins s σ H v w u u' Q I rv rw ⟨x, y, P, F, μ, S, E, rl, rx, ry, k⟩
  unfold addN at k
  split at k
  · rename_i a b ea eb
    split at k
    · rename_i hc
      obtain ⟨a', xs, e1, h1, p1⟩ := lstOf_rep rl ea rx
      obtain ⟨b', ys, e2, h2, p2⟩ := lstOf_rep rl eb ry
      have l1 := p1.length
      have l2 := p2.length
      exact op_catQ pins s σ H _ _ _ _ Q I rv rw ⟨a', b', xs, ys, e1, e2, h1, h2, by omega, fun p hp => k.newR rl (p1.append p2) hp⟩
    · exact k.elim
  · exact k.elim
end DL

/-! The data layer, 13: dicts at places: comprehensions, d[k]. -/
namespace DL
open PySem PySem.Spec PyProof.Rows L2

def keyOf : D → Option Key
  | .int i => some (.inl i)
  | .str x => some (.inr x)
  | _ => none
theorem keyOf_rep {g : G} {F : Hp} {μ : List Addr} {d : D} {k : Key} {v : V} (e : keyOf d = some k) (h : Rep g F μ d v) : v = kV k := by
  cases d <;> cases e
  · exact h.int
  · exact h.str
/-- the value of a key -/
def getK : List Key → List D → Key → Option D
  | n :: ks, d :: ds, k => if n = k then some d else getK ks ds k
  | _, _, _ => none
theorem getK_rep {g : G} {F : Hp} {μ : List Addr} {k : Key} : ∀ {ks : List Key} {ds : List D} {xs : List V} {d : D}, Reps g F μ ds xs → getK ks ds k = some d → ∃ v, valV (ks.zip xs) k = some v ∧ Rep g F μ d v
  | [], _, _, _, _, e => by simp [getK] at e
  | _ :: _, [], _, _, _, e => by simp [getK] at e
  | n :: ks, x :: ds, xs, d, h, e => by
    simp only [Reps] at h
    obtain ⟨v, vs, rfl, h1, h2⟩ := h
    unfold getK at e
    split at e
    · rename_i q
      cases e
      exact ⟨v, valV_pos q, h1⟩
    · rename_i q
      obtain ⟨w, h3, h4⟩ := getK_rep (ks := ks) h2 e
      exact ⟨w, (valV_neg (p := (n, v)) q).trans h3, h4⟩
def dgetD (x y : D) : M D := fun S => match x with
  | .ref n => match S[n]? with
    | some (.dct ks ds) => match keyOf y with
      | some k => match getK ks ds k with
        | some d => .ok d S
        | none => .stuck
      | none => .stuck
    | _ => .stuck
  | _ => .stuck
section
variable {X : Cx} {W : WX} {a b : Expr} {fa fb : EM} {pos : Pos}
theorem d_dget (hu : X.A.units + 65 < cLine) (ha : DE X W a fa) (hb : DE X W b fb) (hs : NoSl b := by exact fun _ _ => rfl) : DE X W (.Subscript a b pos) (mOp dgetD fa fb) := by
  refine PE.weak (pe_dget (by omega) ha hb hs) fun σ H Q ⟨P, ρ, F, μ, S, en, rl, k⟩ => ?_
  refine tD.run en rl (Fin.imp (Fin.bind (rep := repD (gX X)) k) (fun v H1 ⟨x, F1, μ1, S1, g1, r1, p1, k1⟩ => ?_) fun _ _ _ z => z)
  refine tD.run (en.mono g1) r1 (Fin.imp (Fin.bind (rep := repD (gX X)) k1) (fun w H2 ⟨y, F2, μ2, S2, g2, r2, p2, k2⟩ => ?_) fun _ _ _ z => z)
  have px := p1.mono g2
  unfold dgetD at k2
  cases x <;> first | exact k2.elim | skip
  rename_i nn
  simp only at k2
  split at k2
  · rename_i ks ds q
    split at k2
    · rename_i key qk
      split at k2
      · rename_i d qd
        simp only [Rep] at px
        obtain ⟨p, h1, rfl⟩ := px
        rcases r2.live _ _ p q h1 with ⟨z, _⟩ | ⟨u, _, hu', hob⟩
        · cases z
        · obtain ⟨xs, hx, hr, hl⟩ := hob
          subst hx
          obtain ⟨v', h2, h3⟩ := getK_rep hr qd
          exact ⟨p, v', rfl, by rw [keyOf_rep qk p2, ← h2]; exact DGet.k hu', k2.here r2 h3⟩
      · exact k2.elim
    · exact k2.elim
  · exact k2.elim
end
/-- the loop of a dict comprehension -/
def mDcA (gm : GM) (tt : BM) (tk tv : EM) (ρ : Env) : List D → List Key → List D → M (List Key × List D)
  | [], ks, vs, S => .ok (ks, vs) S
  | d :: ds, ks, vs, S => match gm d ρ S with
    | none => .stuck
    | some x => (tt x.1 x.2).nx.bind fun b S => if b then (tk x.1 S).nx.bind fun kd S => (tv x.1 S).nx.bind fun vd S => match keyOf kd with
      | some k => if ks.any (fun q => decide (q = k)) then .stuck else mDcA gm tt tk tv ρ ds (ks ++ [k]) (vs ++ [vd]) S
      | none => .stuck
      else mDcA gm tt tk tv ρ ds ks vs S
def mDc (vs : List Nat) (fi : IM) (gm : GM) (tt : BM) (tk tv : EM) : EM := fun ρ S => (fi ρ S).bind fun ds S => if ds.length ≤ sizeLine then (mDcA gm tt tk tv (wipeD ρ vs) ds [] [] S).bind fun r S => .ok (.ref S.length) (S ++ [.dct r.1 r.2]) else .stuck
theorem putK_new {ks : List Key} {xs : List V} {k : Key} {v : V} (hl : ks.length = xs.length) (h : k ∉ ks) : putK (ks.zip xs) k v = (ks ++ [k]).zip (xs ++ [v]) := by
  unfold putK
  have : ((ks.zip xs).any fun kv => decide (kv.1 = k)) = false := by
    rw [List.any_eq_false]
    intro p hp
    have := List.of_mem_zip hp
    simp only [decide_eq_true_eq]
    intro e
    exact h (e ▸ this.1)
  rw [this, if_neg Bool.false_ne_true, List.zip_append hl]
  rfl
theorem dc_run {g : G} {W : WX} {gm : GM} {tt : BM} {tk tv : EM} {fi : IM} {vs : List Nat} : ∀ σ H Q, tD g W (mDc vs fi gm tt tk tv) σ H Q → tDc (tDI g W fi) (tDGw g vs gm) (tDB g W0 tt) (tD g W0 tk) (tD g W0 tv) vs σ H Q := fun σ H Q ⟨P, ρ, F, μ, S, en, rl, k⟩ => by
  refine ⟨P, ρ, F, μ, S, en, rl, Fin.imp (Fin.bind (rep := repI g) k) (fun J H1 ⟨ds, F1, μ1, S1, g1, r1, w, k1⟩ => ?_) fun _ _ _ z => z⟩
  split at k1
  rotate_left
  · exact k1.elim
  rename_i hlen
  intro Dl hD
  have nP : P Dl = none := by
    cases e : P Dl with
    | none => rfl
    | some u => rw [(r1.priv Dl u e).1] at hD; cases hD
  refine ⟨fun i m H => m = ds.length - i ∧ i ≤ ds.length ∧ ∃ ks acc accD F μ S, Rel g (upd P Dl (.dK (ks.zip acc))) F μ S H ∧ Gr F1 μ1 F μ ∧ Reps g F μ accD acc ∧ ks.length = acc.length ∧ acc.length ≤ i ∧
    Fin (repD g) g P F μ ((mDcA gm tt tk tv (wipeD ρ vs) (ds.drop i) ks accD S).bind fun r S => .ok (.ref S.length) (S ++ [.dct r.1 r.2])) Q (fun c d H' => W c d σ H'),
    ⟨ds.length, by simp, Nat.zero_le _, [], [], [], F1, μ1, S1, r1.hide hD, Gr.refl _ _, reps_nil, rfl, Nat.zero_le _, by simpa using k1⟩, ?_⟩
  rintro i m H2 ⟨rfl, hi, ks, acc, accD, F2, μ2, S2, r2, g2, pa, hkl, hl, k2⟩
  by_cases hlt : i < ds.length
  · refine .inr ⟨w.goes _ F2 μ2 S2 H2 i g2 r2 hlt, _, fun H' p' => ⟨ds.length - (i + 1), by omega, p'⟩, fun x H' y => ?_⟩
    obtain ⟨F3, g3, r3, rp⟩ := w.yields _ F2 μ2 S2 H2 i ds[i] x H' g2 r2 (by simp [hlt]) y
    rw [List.drop_eq_getElem_cons hlt] at k2
    unfold mDcA at k2
    cases q : gm ds[i] (wipeD ρ vs) S2 with
    | none => rw [q] at k2; exact k2.elim
    | some z =>
      rw [q] at k2
      simp only at k2
      have enw : EnvR g F3 μ2 (wipeD ρ vs) (L2.wipe σ vs) := ((en.mono (g1.trans g2)).mono g3).wipe vs
      refine ⟨ds[i], _, wipeD ρ vs, F3, μ2, S2, z.1, z.2, enw, r3, rp, q, fun F4 μ4 H4 σ4 g4 r4 en4 w4 => ?_⟩
      refine ⟨?_, ?_⟩
      · rw [w4]
        have key : ∀ (σ : L2.St) (ws us : List Nat), (∀ u ∈ us, u ∈ ws) → L2.wipe (L2.wipe σ us) ws = L2.wipe σ ws := by
          intro σ ws us
          induction us with
          | nil => intro _; rfl
          | cons u us ih =>
            intro h
            show L2.wipe ((L2.wipe σ us).set u none) ws = _
            rw [wipe_set (h u List.mem_cons_self)]
            exact ih fun v hv => h v (List.mem_cons_of_mem _ hv)
        exact key σ vs vs fun _ h => h
      · cases qt : tt z.1 z.2 with
        | stuck => rw [qt] at k2; exact k2.elim
        | exn e S5 => rw [qt] at k2; exact k2.elim
        | ok b S5 =>
          rw [qt] at k2
          refine tDB.run en4 r4 ?_
          rw [qt]
          intro F5 μ5 H5 b' g5 r5 eb
          cases eb
          simp only [R.nx_ok, R.bind_ok] at k2
          have g25 := (g3.trans g4).trans g5
          cases b with
          | false =>
            refine iteF ⟨rfl, hlt, ks, acc, accD, F5, μ5, S5, r5, g2.trans g25, pa.mono g25, hkl, Nat.le_succ_of_le hl, Fin.gr g25 ?_⟩
            simpa using k2
          | true =>
            simp only [if_true] at k2
            refine iteT ?_
            cases qe : tk z.1 S5 with
            | stuck => rw [qe] at k2; exact k2.elim
            | exn e S6 => rw [qe] at k2; exact k2.elim
            | ok kd S6 =>
              rw [qe] at k2
              simp only [R.nx_ok, R.bind_ok] at k2
              refine tD.run (en4.mono g5) r5 ?_
              rw [qe]
              intro F6 μ6 H6 vk g6 r6 pk
              cases qv : tv z.1 S6 with
              | stuck => rw [qv] at k2; exact k2.elim
              | exn e S7 => rw [qv] at k2; exact k2.elim
              | ok vd S7 =>
                rw [qv] at k2
                simp only [R.nx_ok, R.bind_ok] at k2
                refine tD.run ((en4.mono g5).mono g6) r6 ?_
                rw [qv]
                intro F7 μ7 H7 vv g7 r7 pv
                cases qk : keyOf kd with
                | none => rw [qk] at k2; exact k2.elim
                | some key =>
                  rw [qk] at k2
                  simp only at k2
                  split at k2
                  · exact k2.elim
                  · rename_i hnew
                    have hn : key ∉ ks := fun m => hnew (List.any_eq_true.mpr ⟨key, m, decide_eq_true rfl⟩)
                    have g27 := (g25.trans g6).trans g7
                    refine ⟨ks.zip acc, key, keyOf_rep qk pk, (r7.priv Dl _ upd_same).1, by rw [List.length_zip]; have := Nat.lt_of_le_of_lt hl hlt; omega, rfl, hlt, ks ++ [key], acc ++ [vv], accD ++ [vd], F7, μ7, S7, ?_, g2.trans g27, (pa.mono g27).append (reps_cons pv reps_nil), by simp [hkl], by rw [List.length_append, List.length_singleton]; omega, Fin.gr g27 k2⟩
                    have := r7.hidden (o' := .dK ((ks ++ [key]).zip (acc ++ [vv]))) (upd_same (H := P) (a := Dl) (o := .dK (ks.zip acc)))
                    rw [upd_upd] at this
                    rw [putK_new hkl hn]
                    exact this
  · have e : i = ds.length := by omega
    subst e
    rw [List.drop_length] at k2
    simp only [mDcA, R.bind_ok] at k2
    refine .inl ⟨w.stops _ F2 μ2 S2 H2 g2 r2, ?_⟩
    have g0 : Gr F2 μ2 F2 (μ2 ++ [Dl]) := ⟨fun _ _ h => h, fun n q h => by
      have : n < μ2.length := (List.getElem?_eq_some_iff.mp h).1
      rw [List.getElem?_append_left this]; exact h⟩
    obtain ⟨r4, g4, e4⟩ := r2.place (P' := P) (u := .dK (ks.zip acc)) (o := .dct ks accD) upd_same (fun a o e => by rw [upd_ne (ne_of_none e nP)]; exact e) nP ⟨acc, rfl, pa.mono g0, by rw [hkl, ← pa.length]⟩
    exact (Fin.gr g4 k2).here r4 (by simp only [Rep]; exact ⟨Dl, e4, rfl⟩)
section
variable {X : Cx} {W : WX} {kx vx tg iter : Expr} {ifs : List Expr} {scope : Scope} {own : List (Str × Nat)} {pos : Pos} {fi : IM} {gm : GM} {tt : BM} {tk tv : EM}
theorem d_dc (hc : X.calm = true) (hN : X.N.Nodup) (hi : DI X W tg iter fi) (ok : BlkOk X.N X.env.scope scope own)
    (hg : ∀ (s : Shared) (H : Hp) (C : Addr) (cl : List (Str × Addr)) (fp : List Addr), DGw (X.blk s H scope (compEnvC scope cl C X.env) fp) (own.map (·.2)) tg gm) (ht : ∀ (s : Shared) (H : Hp) (C : Addr) (cl : List (Str × Addr)) (fp : List Addr), DT (X.blk s H scope (compEnvC scope cl C X.env) fp) W0 ifs tt)
    (hk : ∀ (s : Shared) (H : Hp) (C : Addr) (cl : List (Str × Addr)) (fp : List Addr), DE (X.blk s H scope (compEnvC scope cl C X.env) fp) W0 kx tk)
    (he : ∀ (s : Shared) (H : Hp) (C : Addr) (cl : List (Str × Addr)) (fp : List Addr), DE (X.blk s H scope (compEnvC scope cl C X.env) fp) W0 vx tv) (hs : ∀ x, foldedSetIterable iter X.env x = pure x := by intro _; rfl) :
    DE X W (.DictComp kx vx [⟨tg, iter, ifs, 0⟩] scope pos) (mDc (own.map (·.2)) fi gm tt tk tv) := PE.weak (pe_dc hc hN hi ok hg ht hk he hs) dc_run
end
end DL

/-! The data layer, 14: walks over a list at a place (it must stand, turn for turn). -/
namespace DL
open PySem PySem.Spec PyProof.Rows L2

open Classical in
noncomputable def mLcLS (n : Nat) (l : List D) (gm : GM) (tt : BM) (te : EM) (ρ : Env) : List D → M (List D)
  | [], S => if S[n]? = some (.lst l) then .ok [] S else .stuck
  | d :: ds, S => if S[n]? = some (.lst l) then (match gm d ρ S with
    | none => .stuck
    | some x => (tt x.1 x.2).nx.bind fun b S => if b then (te x.1 S).nx.bind fun y S => (mLcLS n l gm tt te ρ ds S).bind fun ys S => .ok (y :: ys) S else mLcLS n l gm tt te ρ ds S) else .stuck
/-- the place of a list -/
def placeD (d : D) : M (Nat × List D) := fun S => match d with
  | .ref n => match S[n]? with
    | some (.lst l) => .ok (n, l) S
    | _ => .stuck
  | _ => .stuck
noncomputable def mLcS (fin : List D → M D) (vs : List Nat) (fe : EM) (gm : GM) (tt : BM) (te : EM) : EM := fun ρ S => (fe ρ S).bind fun d S => (placeD d S).bind fun z S => if z.2.length ≤ sizeLine then (mLcLS z.1 z.2 gm tt te (wipeD ρ vs) z.2 S).bind fin else .stuck
theorem placeD_eq {d : D} {S : Store} (h : placeD d S ≠ .stuck) : ∃ n l, d = .ref n ∧ S[n]? = some (.lst l) ∧ placeD d S = .ok (n, l) S := by
  unfold placeD at h ⊢
  cases d <;> first | exact absurd rfl h | skip
  rename_i n
  simp only at h ⊢
  cases q : S[n]? with
  | none => rw [q] at h; exact absurd rfl h
  | some o =>
    cases o with
    | lst l => exact ⟨n, l, rfl, q, rfl⟩
    | ins _ _ _ => rw [q] at h; exact absurd rfl h
    | dct _ _ => rw [q] at h; exact absurd rfl h
    | dead => rw [q] at h; exact absurd rfl h
theorem place_at {g : G} {P F F' : Hp} {μ μ' : List Addr} {S : Store} {H : Hp} {n : Nat} {l : List D} {a : Addr} (r : Rel g P F' μ' S H) (gr : Gr F μ F' μ') (hm : μ[n]? = some a) (e : S[n]? = some (.lst l)) : ∃ xs, SqL g.K H a xs ∧ Reps g F' μ' l xs := by
  rcases r.live n _ a e (gr.m _ _ hm) with ⟨z, _⟩ | ⟨u, _, hu, xs, hx, hr⟩
  · cases z
  · subst hx
    exact ⟨xs, .of hu, hr⟩
theorem lcS_run {g : G} {W : WX} {fin : List D → M D} (hfin : FinL g fin) {gm : GM} {tt : BM} {te fe : EM} {vs : List Nat} : ∀ σ H Q, tD g W (mLcS fin vs fe gm tt te) σ H Q → tLc (iList g.K (tD g W fe)) (tDGw g vs gm) (tDB g W0 tt) (tD g W0 te) vs σ H Q := fun σ H Q ⟨P, ρ, F, μ, S, en, rl, k⟩ => by
  refine tD.run en rl (Fin.imp (Fin.bind (rep := repD g) k) (fun v H1 ⟨d, F1, μ1, S1, g1, r1, p1, k1⟩ => ?_) fun _ _ _ z => z)
  by_cases hst : placeD d S1 = .stuck
  · rw [hst] at k1; exact k1.elim
  obtain ⟨n, l, rfl, hS, hp⟩ := placeD_eq hst
  rw [hp] at k1
  simp only [R.bind_ok] at k1
  obtain ⟨a, xs0, rfl, hm, hH, hr0⟩ := p1.refL r1 hS
  split at k1
  rotate_left
  · exact k1.elim
  rename_i hlen
  refine ⟨a, rfl, ⟨xs0, .of hH⟩, ?_⟩
  intro Dl hD
  have nP : P Dl = none := by
    cases e : P Dl with
    | none => rfl
    | some u => rw [(r1.priv Dl u e).1] at hD; cases hD
  refine ⟨fun i m H => m = l.length - i ∧ i ≤ l.length ∧ ∃ acc accD F μ S, Rel g (upd P Dl (.lst acc)) F μ S H ∧ Gr F1 μ1 F μ ∧ Reps g F μ accD acc ∧ acc.length ≤ i ∧
    Fin (repD g) g P F μ ((mLcLS n l gm tt te (wipeD ρ vs) (l.drop i) S).bind fun ys S => fin (accD ++ ys) S) Q (fun c d H' => W c d σ H'),
    ⟨_, rfl, Nat.zero_le _, [], [], F1, μ1, S1, r1.hide hD, Gr.refl _ _, reps_nil, Nat.zero_le _, by simpa using k1⟩, ?_⟩
  rintro i m H2 ⟨rfl, hi, acc, accD, F2, μ2, S2, r2, g2, pa, hl, k2⟩
  by_cases hlt : i < l.length
  · rw [List.drop_eq_getElem_cons hlt] at k2
    unfold mLcLS at k2
    by_cases hS2 : S2[n]? = some (.lst l)
    rotate_left
    · rw [if_neg hS2] at k2; exact k2.elim
    rw [if_pos hS2] at k2
    obtain ⟨xs, hsq, hr⟩ := place_at r2 g2 hm hS2
    obtain ⟨v, hv, hrep⟩ := hr.get (show l[i]? = some l[i] by simp [hlt])
    refine .inr ⟨⟨xs, v, hsq, hv⟩, _, fun H' p' => ⟨l.length - (i + 1), by omega, p'⟩, fun x H' y => ?_⟩
    obtain ⟨rfl, y⟩ := y
    have hx := y xs hsq
    rw [hv] at hx
    cases hx
    cases q : gm l[i] (wipeD ρ vs) S2 with
    | none => rw [q] at k2; exact k2.elim
    | some z =>
      rw [q] at k2
      simp only at k2
      have enw : EnvR g F2 μ2 (wipeD ρ vs) (L2.wipe σ vs) := (en.mono (g1.trans g2)).wipe vs
      refine ⟨l[i], _, wipeD ρ vs, F2, μ2, S2, z.1, z.2, enw, r2, hrep, q, fun F4 μ4 H4 σ4 g4 r4 en4 w4 => ⟨?_, ?_⟩⟩
      · rw [w4]
        have key : ∀ (σ : L2.St) (ws us : List Nat), (∀ u ∈ us, u ∈ ws) → L2.wipe (L2.wipe σ us) ws = L2.wipe σ ws := by
          intro σ ws us
          induction us with
          | nil => intro _; rfl
          | cons u us ih =>
            intro h
            show L2.wipe ((L2.wipe σ us).set u none) ws = _
            rw [wipe_set (h u List.mem_cons_self)]
            exact ih fun v hv => h v (List.mem_cons_of_mem _ hv)
        exact key σ vs vs fun _ h => h
      · cases qt : tt z.1 z.2 with
        | stuck => rw [qt] at k2; exact k2.elim
        | exn e S5 => rw [qt] at k2; exact k2.elim
        | ok b S5 =>
          rw [qt] at k2
          refine tDB.run en4 r4 ?_
          rw [qt]
          intro F5 μ5 H5 b' g5 r5 eb
          cases eb
          simp only [R.nx_ok, R.bind_ok] at k2
          have g25 := g4.trans g5
          cases b with
          | false =>
            refine iteF ⟨rfl, hlt, acc, accD, F5, μ5, S5, r5, g2.trans g25, pa.mono g25, Nat.le_succ_of_le hl, Fin.gr g25 ?_⟩
            simpa using k2
          | true =>
            simp only [if_true] at k2
            refine iteT ?_
            cases qe : te z.1 S5 with
            | stuck => rw [qe] at k2; exact k2.elim
            | exn e S6 => rw [qe] at k2; exact k2.elim
            | ok yv S6 =>
              rw [qe] at k2
              simp only [R.nx_ok, R.bind_ok] at k2
              refine tD.run (en4.mono g5) r5 ?_
              rw [qe]
              intro F6 μ6 H6 vy g6 r6 py
              have g26 := g25.trans g6
              refine ⟨acc, (r6.priv Dl _ upd_same).1, by have := Nat.lt_of_le_of_lt hl hlt; omega, rfl, hlt, acc ++ [vy], accD ++ [yv], F6, μ6, S6, ?_, g2.trans g26, (pa.mono g26).append (reps_cons py reps_nil), by rw [List.length_append, List.length_singleton]; omega, Fin.gr g26 ?_⟩
              · have := r6.hidden (o' := .lst (acc ++ [vy])) (upd_same (H := P) (a := Dl) (o := .lst acc))
                rw [upd_upd] at this
                exact this
              · have e : ((mLcLS n l gm tt te (wipeD ρ vs) (l.drop (i + 1)) S6).bind fun ys S => (R.ok (yv :: ys) S)).bind (fun ys S => fin (accD ++ ys) S) = (mLcLS n l gm tt te (wipeD ρ vs) (l.drop (i + 1)) S6).bind fun ys S => fin ((accD ++ [yv]) ++ ys) S := by
                  cases mLcLS n l gm tt te (wipeD ρ vs) (l.drop (i + 1)) S6 <;> simp
                rw [← e]
                exact k2
  · have e : i = l.length := by omega
    subst e
    rw [List.drop_length] at k2
    unfold mLcLS at k2
    by_cases hS2 : S2[n]? = some (.lst l)
    rotate_left
    · rw [if_neg hS2] at k2; exact k2.elim
    rw [if_pos hS2] at k2
    simp only [R.bind_ok, List.append_nil] at k2
    obtain ⟨xs, hsq, hr⟩ := place_at r2 g2 hm hS2
    exact .inl ⟨⟨xs, hsq, Nat.le_of_eq hr.length.symm⟩, hfin P F2 μ2 S2 H2 Dl acc accD Q _ r2 nP pa k2⟩
section
variable {X : Cx} {W : WX} {elt tg iter : Expr} {ifs : List Expr} {scope : Scope} {own : List (Str × Nat)} {pos : Pos} {fe : EM} {gm : GM} {tt : BM} {te : EM}
theorem d_lcS {fin : List D → M D} (hfin : FinL (gX X) fin) (hc : X.calm = true) (hN : X.N.Nodup) (hi : DE X W iter fe) (ok : BlkOk X.N X.env.scope scope own)
    (hg : ∀ (s : Shared) (H : Hp) (C : Addr) (cl : List (Str × Addr)) (fp : List Addr), DGw (X.blk s H scope (compEnvC scope cl C X.env) fp) (own.map (·.2)) tg gm) (ht : ∀ (s : Shared) (H : Hp) (C : Addr) (cl : List (Str × Addr)) (fp : List Addr), DT (X.blk s H scope (compEnvC scope cl C X.env) fp) W0 ifs tt)
    (he : ∀ (s : Shared) (H : Hp) (C : Addr) (cl : List (Str × Addr)) (fp : List Addr), DE (X.blk s H scope (compEnvC scope cl C X.env) fp) W0 elt te) (hs : ∀ x, foldedSetIterable iter X.env x = pure x := by intro _; rfl) :
    DE X W (.ListComp elt [⟨tg, iter, ifs, 0⟩] scope pos) (mLcS fin (own.map (·.2)) fe gm tt te) := PE.weak (pe_lc hc hN (pi_list hi) ok hg ht he hs) (lcS_run hfin)
end
theorem Reps.rep {g : G} {F : Hp} {μ : List Addr} {ds : List D} {xs : List V} (h : Reps g F μ ds xs) : ∀ k : Nat, Reps g F μ (List.replicate k ds).flatten (List.replicate k xs).flatten
  | 0 => reps_nil
  | k + 1 => by
    rw [List.replicate_succ, List.replicate_succ, List.flatten_cons, List.flatten_cons]
    exact h.append (Reps.rep h k)
/-- [a, ..] * k, k written -/
def mRep (k : Int) (fa : AM) : EM := fun ρ S => (fa ρ S).bind fun l S => if l.length ≤ sizeLine ∧ -(2 ^ 63) ≤ k ∧ k < 2 ^ 63 ∧ l.length * k.toNat ≤ sizeLine then .ok (.lst (List.replicate k.toNat l).flatten) S else .stuck
theorem d_rep {X : Cx} {W : WX} {es : List Expr} {fa : AM} {k : Int} {j} {p1 p2 pos : Pos} (h : DA X W es fa) : DE X W (.BinOp (.List es p1) .Mult (.Constant (.int k) j p2) pos) (mRep k fa) := by
  refine PE.weak (pe_op op_rep (pe_lst h) pe_int) fun σ H Q ⟨P, ρ, F, μ, S, en, rl, q⟩ => ?_
  refine tDA.run en rl (Fin.imp (Fin.bind (rep := repA (gX X)) q) (fun vs H1 ⟨a, F1, μ1, S1, g1, r1, p1, k1⟩ => ?_) fun _ _ _ z => z)
  split at k1
  · rename_i hc
    have hl := p1.length
    refine ⟨by rw [← hl]; exact hc.1, fun p hp => ⟨p, k, vs, rfl, rfl, upd_same, hc.2.1, hc.2.2.1, by rw [← hl]; exact hc.2.2.2, fun p' hp' => ?_⟩⟩
    exact k1.newL (r1.more (o := .lst vs) hp) (p1.rep k.toNat) hp'
  · exact k1.elim
end DL

/-! The data layer, 15: sorted of tuples of ints; comprehensions with two clauses. -/
namespace DL
open PySem PySem.Spec PyProof.Rows L2

/-! ### sorted -/
def intOf : D → Option Int
  | .int i => some i
  | _ => none
def intsOfD : List D → Option (List Int)
  | [] => some []
  | d :: ds => match intOf d, intsOfD ds with
    | some i, some is => some (i :: is)
    | _, _ => none
def faceOf : D → Option (List Int)
  | .tup l => intsOfD l
  | _ => none
def facesOf : List D → Option (List (List Int))
  | [] => some []
  | d :: ds => match faceOf d, facesOf ds with
    | some f, some fs => some (f :: fs)
    | _, _ => none
def faceD (f : List Int) : D := .tup (f.map .int)
def sameLen : List (List Int) → Bool
  | [] => true
  | f :: fs => decide (1 ≤ f.length) && fs.all fun g => g.length == f.length
def leF (a b : List Int) : Bool := !HT.lexLt b a
def sortF (l : List (List Int)) : List (List Int) := l.mergeSort leF
def sortedD (x : D) : M D := fun S => match lstOf x S with
  | some l => match facesOf l with
    | some fs => if sameLen fs then .ok (.lst ((sortF fs).map faceD)) S else .stuck
    | none => .stuck
  | none => .stuck
theorem intsOfD_eq : ∀ {ds : List D} {is : List Int}, intsOfD ds = some is → ds = is.map D.int
  | [], _, e => by cases e; rfl
  | d :: ds, is, e => by
    unfold intsOfD at e
    split at e
    · rename_i i is' q1 q2
      cases e
      cases d <;> first | (cases q1; done) | skip
      cases q1
      rw [intsOfD_eq q2]; rfl
    · cases e
theorem facesOf_eq : ∀ {ds : List D} {fs : List (List Int)}, facesOf ds = some fs → ds = fs.map faceD
  | [], _, e => by cases e; rfl
  | d :: ds, fs, e => by
    unfold facesOf at e
    split at e
    · rename_i f fs' q1 q2
      cases e
      cases d <;> first | (cases q1; done) | skip
      rw [facesOf_eq q2, List.map_cons, faceD, intsOfD_eq q1]
    · cases e
theorem intsOfD_map : ∀ is : List Int, intsOfD (is.map D.int) = some is
  | [] => rfl
  | i :: is => by simp [intsOfD, intOf, intsOfD_map is]
theorem facesOf_map : ∀ fs : List (List Int), facesOf (fs.map faceD) = some fs
  | [] => rfl
  | f :: fs => by
    rw [List.map_cons, facesOf, facesOf_map fs, faceD, faceOf, intsOfD_map f]
theorem sameLen_all {fs : List (List Int)} (h : sameLen fs = true) : ∃ d, fs = [] ∨ (1 ≤ d ∧ ∀ f ∈ fs, f.length = d) := by
  cases fs with
  | nil => exact ⟨0, .inl rfl⟩
  | cons f fs =>
    simp only [sameLen, Bool.and_eq_true, decide_eq_true_eq, List.all_eq_true, beq_iff_eq] at h
    exact ⟨f.length, .inr ⟨h.1, fun g hg => by
      rcases List.mem_cons.mp hg with rfl | hg
      · rfl
      · exact h.2 g hg⟩⟩
/-- lists of ints, neither before the other -/
theorem lex_anti : ∀ (x y : List Int), HT.lexLt x y = false → HT.lexLt y x = false → x = y
  | [], [], _, _ => rfl
  | [], y :: ys, h, _ => by rw [HT.lexLt_nil_cons] at h; cases h
  | x :: xs, [], _, h => by rw [HT.lexLt_nil_cons] at h; cases h
  | x :: xs, y :: ys, h1, h2 => by
    rw [HT.lexLt_cons] at h1 h2
    by_cases e : x = y
    · rw [if_pos e] at h1
      rw [if_pos e.symm] at h2
      rw [e, lex_anti xs ys h1 h2]
    · rw [if_neg e] at h1
      rw [if_neg (Ne.symm e)] at h2
      have := of_decide_eq_false h1
      have := of_decide_eq_false h2
      omega
theorem leF_tot (a b : List Int) : (leF a b || leF b a) = true := by
  unfold leF
  cases h : HT.lexLt b a with
  | false => rfl
  | true => rw [NtL.lex_asym _ _ h]; rfl
theorem leF_tr (a b c : List Int) (h1 : leF a b = true) (h2 : leF b c = true) : leF a c = true := by
  unfold leF at *
  simp only [Bool.not_eq_true'] at *
  exact NtL.lex_tr _ _ _ h1 h2
theorem sortF_perm (l : List (List Int)) : (sortF l).Perm l := List.mergeSort_perm l leF
theorem sortF_sorted (l : List (List Int)) : (sortF l).Pairwise fun a b => HT.lexLt b a = false := by
  refine (List.pairwise_mergeSort leF_tr leF_tot l).imp fun {a b} h => ?_
  simpa [leF] using h
/-- two sorted rearrangements are one -/
theorem sorted_uniq : ∀ {l m : List (List Int)}, l.Perm m → (l.Pairwise fun a b => HT.lexLt b a = false) → (m.Pairwise fun a b => HT.lexLt b a = false) → l = m
  | [], m, p, _, _ => (List.Perm.eq_nil p.symm).symm
  | x :: l, [], p, _, _ => absurd p.length_eq (by simp)
  | x :: l, y :: m, p, h1, h2 => by
    have a1 : HT.lexLt x y = false := by
      rcases List.mem_cons.mp (p.mem_iff.mp (List.mem_cons_self (a := x) (l := l))) with e | e
      · rw [e]; exact (NtL.swo_lexL (fun z : List Int => z)).refl y
      · exact (List.pairwise_cons.mp h2).1 x e
    have a2 : HT.lexLt y x = false := by
      rcases List.mem_cons.mp (p.mem_iff.mpr (List.mem_cons_self (a := y) (l := m))) with e | e
      · rw [e]; exact (NtL.swo_lexL (fun z : List Int => z)).refl x
      · exact (List.pairwise_cons.mp h1).1 y e
    have e := lex_anti x y a1 a2
    subst e
    rw [sorted_uniq p.cons_inv (List.pairwise_cons.mp h1).2 (List.pairwise_cons.mp h2).2]
theorem sortF_eq {l m : List (List Int)} (p : m.Perm l) (h : m.Pairwise fun a b => HT.lexLt b a = false) : sortF l = m :=
  sorted_uniq ((sortF_perm l).trans p.symm) (sortF_sorted l) h

section
variable {prog : Program} {w : World} {A : Around} {E : Value → Shared → Prop} {s : Shared} {Q : Bool → Shared → Prop}
theorem face_lex {b : Bool} {xs ys : List Value} {ns ms : List Int} (hx : IntsAre xs ns) (hy : IntsAre ys ms) : ∀ (i : Nat), ns.length = ms.length → Q (HT.lexLt ns ms) s → PySem.W.KatLex prog w A b false Q (xs.zip ys) i s := by
  induction hx generalizing ys ms with
  | nil =>
    intro i hl h
    cases hy with
    | nil => exact PySem.W.kat_nil h
    | cons q u hy => simp at hl
  | @cons p t xs ns hx ih =>
    intro i hl h
    cases hy with
    | nil => simp at hl
    | @cons q u ys ms hy =>
      rw [List.zip_cons_cons]
      rw [HT.lexLt_cons] at h
      refine PySem.W.kat_cons (wpAny_eqBool_int ?_)
      by_cases e : p = q
      · rw [if_pos e] at h
        rw [e, beq_self_eq_true]
        exact PySem.W.kat_yes (ih hy (i + 1) (by simpa using hl) h)
      · rw [if_neg e] at h
        rw [beq_eq_false_iff_ne.mpr e]
        exact PySem.W.kat_no (TS.oneLt_ints _ h)
/-- what is sorted: tuples of d ints each -/
def FacesAt (h : Heap) (d : Nat) (k : Value → List Int) (vs : List Value) : Prop := ∀ v ∈ vs, TS.TupInts h v (k v) ∧ (k v).length = d
theorem faces_first {h : Heap} {d : Nat} {k : Value → List Int} (hd : 1 ≤ d) : ∀ vs : List Value, FacesAt h d k vs → ∃ fs, PySem.W.KatTups h vs fs ∧ fs.length = vs.length ∧ ∀ f ∈ fs, ∃ n t, f = Value.int n t
  | [], _ => ⟨[], .nil, rfl, by simp⟩
  | v :: vs, x => by
    obtain ⟨fs, kk, hl, hi⟩ := faces_first hd vs fun u hu => x u (List.mem_cons_of_mem _ hu)
    obtain ⟨⟨a, xs, hv, ⟨o, ho, hc, n, hdt⟩, i⟩, hn⟩ := x v List.mem_cons_self
    subst hv
    have hne : xs.toList ≠ [] := fun e => by
      rw [e] at i
      have := i.length
      rw [hn] at this
      simp at this
      omega
    obtain ⟨y, ys, e⟩ := List.exists_cons_of_ne_nil hne
    obtain ⟨m, t, hy⟩ := i.all y (by rw [e]; exact List.mem_cons_self)
    refine ⟨y :: fs, PySem.W.KatTups.cons ho hc hdt ?_ kk, by simp [hl], fun f hf => ?_⟩
    · have z : xs.toList[0]? = some y := by rw [e]; rfl
      simpa using z
    · rcases List.mem_cons.mp hf with rfl | hf
      · exact ⟨m, t, hy⟩
      · exact hi f hf
theorem faces_sortable {a : Addr} {vs : List Value} {d : Nat} {k : Value → List Int} (hd : 1 ≤ d) (h0 : 0 < vs.length) (hp : FacesAt s.heap d k vs) (ha : ∀ o, s.heap.get? a = some o → o.cls ≠ .type "tuple") : SrtO.SortableO prog w A s a vs fun v u => HT.lexLt (k v) (k u) := by
  intro h' keep
  have hp' : FacesAt h' d k vs := fun v hm => ⟨(hp v hm).1.keeps fun b o e c => keep b o (fun z => by subst z; exact ha o e c) e, (hp v hm).2⟩
  obtain ⟨fs, k1, k2, k3⟩ := faces_first hd vs hp'
  refine ⟨tuples' true, fun Q E hq => ?_, ?_⟩
  rotate_left
  · intro p q hm hm'
    obtain ⟨⟨a1, xs, e1, ⟨o1, ho1, hc1, n1, hd1⟩, i1⟩, l1⟩ := hp' _ hm
    obtain ⟨⟨a2, ys, e2, ⟨o2, ho2, hc2, n2, hd2⟩, i2⟩, l2⟩ := hp' _ hm'
    show wpAny (model prog w) A (keyLt' (tuples' true) p.1 q.1) (fun r s' => s' = { s with heap := h' } ∧ r = HT.lexLt (k p.1) (k q.1)) (fun _ _ => False) { s with heap := h' }
    rw [e1] at i1 l1 ⊢
    rw [e2] at i2 l2 ⊢
    refine PySem.W.kat_lt ho1 hd1 ho2 hd2 ?_
    have q1 := i1.length
    have q2 := i2.length
    rw [Array.length_toList] at q1 q2
    rw [show decide (xs.size < ys.size) = false from decide_eq_false (by omega)]
    exact face_lex i1 i2 0 (by omega) ⟨rfl, rfl⟩
  · refine PySem.W.kat_kind (T := .type "int") k1 (by omega) (fun f hf => ?_) (by rfl) ?_
    · obtain ⟨x, t, rfl⟩ := k3 f hf
      exact PySem.W.Looks.now
    · have e : (Value.type "int" != Value.type "tuple") = true := by decide +kernel
      rw [e]
      exact hq
end
/-- what stands for faces: references to tuples of these ints -/
theorem faces_reps {g : G} {F : Hp} {μ : List Addr} : ∀ {fs : List (List Int)} {xs : List V}, Reps g F μ (fs.map faceD) xs → (∀ x ∈ xs, ∃ a, x = V.ref a) ∧ fs.length = xs.length
  | [], xs, h => by
    simp only [List.map_nil, Reps] at h
    subst h
    exact ⟨by simp, rfl⟩
  | f :: fs, xs, h => by
    simp only [List.map_cons, Reps, faceD, Rep] at h
    obtain ⟨v, vs, rfl, ⟨a, _, rfl, _⟩, h2⟩ := h
    obtain ⟨q1, q2⟩ := faces_reps h2
    refine ⟨fun x hx => ?_, by simp [q2]⟩
    rcases List.mem_cons.mp hx with rfl | hx
    · exact ⟨a, rfl⟩
    · exact q1 x hx
theorem sorted_back {h : Heap} {g : G} {F : Hp} {μ : List Addr} : ∀ {fs : List (List Int)} {us : List Value}, Reps g F μ (fs.map faceD) (us.map backV) → (∀ f ∈ fs, ∀ u ∈ us, Rep g F μ (faceD f) (backV u) → TS.TupInts h u f) → (∀ u ∈ us, ∃ f ∈ fs, Rep g F μ (faceD f) (backV u) ∧ TS.intsOf h u = f) ∧ us.map (TS.intsOf h) = fs
  | [], us, r, _ => by
    simp only [List.map_nil, Reps, List.map_eq_nil_iff] at r
    subst r
    exact ⟨by simp, rfl⟩
  | f :: fs, [], r, _ => by
    simp only [List.map_cons, List.map_nil, Reps] at r
    obtain ⟨v, vs, e, _⟩ := r
    cases e
  | f :: fs, u :: us, r, k => by
    simp only [List.map_cons, Reps] at r
    obtain ⟨v, vs, e, r1, r2⟩ := r
    cases e
    obtain ⟨q1, q2⟩ := sorted_back r2 fun f' hf u' hu => k f' (List.mem_cons_of_mem _ hf) u' (List.mem_cons_of_mem _ hu)
    have t := (k f List.mem_cons_self u List.mem_cons_self r1).ints
    refine ⟨fun u' hu => ?_, by rw [List.map_cons, t, q2]⟩
    rcases List.mem_cons.mp hu with rfl | hu
    · exact ⟨f, List.mem_cons_self, r1, t⟩
    · obtain ⟨f', hf', w⟩ := q1 u' hu
      exact ⟨f', List.mem_cons_of_mem _ hf', w⟩
theorem reps_int_eq {g : G} {F : Hp} {μ : List Addr} : ∀ (f : List Int) {ys : List V}, Reps g F μ (f.map .int) ys → ys = f.map V.int
  | [], ys, h => by simpa only [List.map_nil, Reps] using h
  | i :: f, ys, h => by
    simp only [List.map_cons, Reps, Rep] at h
    obtain ⟨v, vs, rfl, rfl, h2⟩ := h
    rw [reps_int_eq f h2, List.map_cons]
theorem reps_sorted {h : Heap} {g : G} {F : Hp} {μ : List Addr} : ∀ {out : List Value}, (∀ u ∈ out, Rep g F μ (faceD (TS.intsOf h u)) (backV u)) → Reps g F μ ((out.map (TS.intsOf h)).map faceD) (out.map backV)
  | [], _ => reps_nil
  | u :: out, k => reps_cons (k u List.mem_cons_self) (reps_sorted fun w hw => k w (List.mem_cons_of_mem _ hw))
section
variable {X : Cx}
theorem cd_sorted : CallD X (.builtin "sorted") (one sortedD) := by
  intro pins s σ H vs us Q I r h
  obtain ⟨ds, P, F, μ, S, E, rl, rx, k⟩ := h
  obtain ⟨d, v, rfl, p, k⟩ := one_fin k rx
  unfold sortedD at k
  split at k
  rotate_left
  · exact k.elim
  rename_i l hl
  split at k
  rotate_left
  · exact k.elim
  rename_i fs hfs
  split at k
  rotate_left
  · exact k.elim
  rename_i hsame
  obtain ⟨a, xs, rfl, hs, hr⟩ := lstOf_rep rl hl p
  rw [facesOf_eq hfs] at hr
  obtain ⟨its, rv, hL, hz⟩ := I.list hs
  obtain ⟨u, rfl, ru⟩ := vals1 r
  obtain rfl : u = Value.ref a := ru
  obtain ⟨f1, f2⟩ := faces_reps hr
  obtain ⟨e1, e2⟩ := refs_back rv f1
  rw [e1] at hr
  have tup : ∀ f ∈ fs, ∀ u ∈ its, Rep (gX X) F μ (faceD f) (backV u) → TS.TupInts s.heap u f := fun f _ u hu rp => by
    obtain ⟨b, rfl⟩ := e2 u hu
    simp only [faceD, Rep, backV] at rp
    obtain ⟨b', ys, eb, ⟨hq, _⟩, hr'⟩ := rp
    cases eb
    obtain ⟨us', rv', ht, _⟩ := I.tuple (show SqT X.K H b ys from sqT_mono (g := gX X) rl.gr0 hq)
    have ey : ys = f.map V.int := reps_int_eq f hr'
    rw [ey] at rv'
    exact ⟨b, us'.toArray, rfl, ht, intsAre_of rv'⟩
  obtain ⟨b1, b2⟩ := sorted_back hr tup
  obtain ⟨dd, hd⟩ := sameLen_all hsame
  have O : SrtO.Swo fun v u : Value => HT.lexLt (TS.intsOf s.heap v) (TS.intsOf s.heap u) := NtL.swo_lexL _
  refine SrtO.sorted_ord (ltv := fun v u => HT.lexLt (TS.intsOf s.heap v) (TS.intsOf s.heap u)) O hL.isList (by rw [← rv.length]; exact hz) (fun h2 h₁ a₁ ha kk => ?_) fun out hs' hb => ?_
  · rcases hd with hd | ⟨hd1, hd2⟩
    · subst hd
      rw [List.map_eq_nil_iff] at b2
      rw [b2] at h2
      simp at h2
    · refine faces_sortable (s := { s with heap := h₁ }) (d := dd) hd1 (by omega) (fun v hm => ?_) fun o e => ?_
      · obtain ⟨f, hf, hrep, hi⟩ := b1 v hm
        rw [hi]
        exact ⟨(tup f hf v hm hrep).keeps fun b o e _ => (kk b o e).2, hd2 f hf⟩
      · have e' : some o = some (seqObj "list" its.toArray 0) := e.symm.trans ha
        cases e'
        intro c
        exact absurd (Value.type.inj c) (by decide)
  · have h3 : ∀ u ∈ out, ∃ a, u = Value.ref a := fun u hu => e2 u (hb.perm.mem_iff.mp hu)
    obtain ⟨n, hn⟩ := sortedAll_at s.heap its out.toArray
    have hso : sortF fs = out.map (TS.intsOf s.heap) := by
      refine sortF_eq ?_ ?_
      · rw [← b2]
        exact hb.perm.map _
      · rw [List.pairwise_map]
        exact hs'
    have hrep : Reps (gX X) F μ ((sortF fs).map faceD) (out.map backV) := by
      rw [hso]
      refine reps_sorted fun u hu => ?_
      obtain ⟨f, _, q1, q2⟩ := b1 u (hb.perm.mem_iff.mp hu)
      rw [q2]; exact q1
    refine ⟨.ref (s.heap.objs.size + 1), upd H (s.heap.objs.size + 1) (.lst (out.map backV)), I.laid (t' := s.toks) (fun b o e => sortedAll_old e) (Nat.le_succ _) ⟨?_, out, n, vals_back h3, hn⟩, rfl, k.newL rl hrep (I.hok.fresh (Nat.le_succ _))⟩
    rw [List.length_map, hb.perm.length_eq, ← rv.length]
    exact hz
end

/-! ### comprehensions with two clauses -/
def mLc2L (vs1 : List Nat) (gm : GM) (tt : BM) (fi1 : IM) (gm1 : GM) (tt1 : BM) (te : EM) (ρ : Env) : List D → M (List D)
  | [], S => .ok [] S
  | d :: ds, S => match gm d ρ S with
    | none => .stuck
    | some x => (tt x.1 x.2).nx.bind fun b S => if b then (fi1 x.1 S).nx.bind fun es S => if es.length ≤ 1000 then (mLcL gm1 tt1 te (wipeD x.1 vs1) es S).bind fun ys S => (mLc2L vs1 gm tt fi1 gm1 tt1 te ρ ds S).bind fun zs S => .ok (ys ++ zs) S else .stuck else mLc2L vs1 gm tt fi1 gm1 tt1 te ρ ds S
def mLc2F (fin : List D → M D) (vs vs1 : List Nat) (fi : IM) (gm : GM) (tt : BM) (fi1 : IM) (gm1 : GM) (tt1 : BM) (te : EM) : EM := fun ρ S => (fi ρ S).bind fun ds S => if ds.length ≤ 10000 then (mLc2L vs1 gm tt fi1 gm1 tt1 te (wipeD ρ vs) ds S).bind fin else .stuck
theorem wipe_wipe : ∀ (σ : L2.St) (ws us : List Nat), (∀ u ∈ us, u ∈ ws) → L2.wipe (L2.wipe σ us) ws = L2.wipe σ ws := by
  intro σ ws us
  induction us with
  | nil => intro _; rfl
  | cons u us ih =>
    intro h
    show L2.wipe ((L2.wipe σ us).set u none) ws = _
    rw [wipe_set (h u List.mem_cons_self)]
    exact ih fun v hv => h v (List.mem_cons_of_mem _ hv)
theorem lc2_run {g : G} {W : WX} {fin : List D → M D} (hfin : FinL g fin) {gm gm1 : GM} {tt tt1 : BM} {te : EM} {fi fi1 : IM} {vs vs1 : List Nat} : ∀ σ H Q, tD g W (mLc2F fin vs vs1 fi gm tt fi1 gm1 tt1 te) σ H Q → tLc2 (tDI g W fi) (tDGw g vs gm) (tDB g W0 tt) (tDI g W0 fi1) (tDGw g vs1 gm1) (tDB g W0 tt1) (tD g W0 te) vs vs1 σ H Q := fun σ H Q ⟨P, ρ, F, μ, S, en, rl, k⟩ => by
  refine ⟨P, ρ, F, μ, S, en, rl, Fin.imp (Fin.bind (rep := repI g) k) (fun J H1 ⟨ds, F1, μ1, S1, g1, r1, w, k1⟩ => ?_) fun _ _ _ z => z⟩
  split at k1
  rotate_left
  · exact k1.elim
  rename_i hlen
  intro Dl hD
  have nP : P Dl = none := by
    cases e : P Dl with
    | none => rfl
    | some u => rw [(r1.priv Dl u e).1] at hD; cases hD
  let Wo : Nat → Nat → Hp → Prop := fun i m H => m = ds.length - i ∧ i ≤ ds.length ∧ ∃ acc accD F μ S, Rel g (upd P Dl (.lst acc)) F μ S H ∧ Gr F1 μ1 F μ ∧ Reps g F μ accD acc ∧ acc.length ≤ 1000 * i ∧
    Fin (repD g) g P F μ ((mLc2L vs1 gm tt fi1 gm1 tt1 te (wipeD ρ vs) (ds.drop i) S).bind fun l S => fin (accD ++ l) S) Q (fun c d H' => W c d σ H')
  refine ⟨Wo, ⟨_, rfl, Nat.zero_le _, [], [], F1, μ1, S1, r1.hide hD, Gr.refl _ _, reps_nil, Nat.zero_le _, k1⟩, ?_⟩
  rintro i m H2 ⟨rfl, hi, acc, accD, F2, μ2, S2, r2, g2, pa, hl, k2⟩
  by_cases hlt : i < ds.length
  · refine .inr ⟨w.goes _ F2 μ2 S2 H2 i g2 r2 hlt, fun H' => Wo (i + 1) (ds.length - (i + 1)) H', fun H' p' => ⟨ds.length - (i + 1), by omega, p'⟩, fun x H' y => ?_⟩
    obtain ⟨F3, g3, r3, rp⟩ := w.yields _ F2 μ2 S2 H2 i ds[i] x H' g2 r2 (by simp [hlt]) y
    rw [List.drop_eq_getElem_cons hlt] at k2
    unfold mLc2L at k2
    cases q : gm ds[i] (wipeD ρ vs) S2 with
    | none => rw [q] at k2; exact k2.elim
    | some z =>
      rw [q] at k2
      simp only at k2
      have enw : EnvR g F3 μ2 (wipeD ρ vs) (L2.wipe σ vs) := ((en.mono (g1.trans g2)).mono g3).wipe vs
      refine ⟨ds[i], _, wipeD ρ vs, F3, μ2, S2, z.1, z.2, enw, r3, rp, q, fun F4 μ4 H4 σ4 g4 r4 en4 w4 => ⟨?_, ?_⟩⟩
      · rw [w4]
        exact wipe_wipe σ vs vs fun _ h => h
      · cases qt : tt z.1 z.2 with
        | stuck => rw [qt] at k2; exact k2.elim
        | exn e S5 => rw [qt] at k2; exact k2.elim
        | ok b S5 =>
          rw [qt] at k2
          refine tDB.run en4 r4 ?_
          rw [qt]
          intro F5 μ5 H5 b' g5 r5 eb
          cases eb
          simp only [R.nx_ok, R.bind_ok] at k2
          have g25 := (g3.trans g4).trans g5
          cases b with
          | false =>
            refine iteF ⟨rfl, hlt, acc, accD, F5, μ5, S5, r5, g2.trans g25, pa.mono g25, by omega, Fin.gr g25 ?_⟩
            simpa using k2
          | true =>
            simp only [if_true] at k2
            refine iteT ?_
            cases qi : fi1 z.1 S5 with
            | stuck => rw [qi] at k2; exact k2.elim
            | exn e S6 => rw [qi] at k2; exact k2.elim
            | ok es S6 =>
              rw [qi] at k2
              simp only [R.nx_ok, R.bind_ok] at k2
              by_cases hes : es.length ≤ 1000
              rotate_left
              · rw [if_neg hes] at k2; exact k2.elim
              rw [if_pos hes] at k2
              refine ⟨upd P Dl (.lst acc), z.1, F5, μ5, S5, en4.mono g5, r5, ?_⟩
              rw [qi]
              intro F6 μ6 H6 J1 g6 r6 w1
              refine ⟨fun j k H => k = es.length - j ∧ j ≤ es.length ∧ ∃ acc accD F μ S, Rel g (upd P Dl (.lst acc)) F μ S H ∧ Gr F6 μ6 F μ ∧ Reps g F μ accD acc ∧ acc.length ≤ 1000 * i + j ∧
                Fin (repD g) g P F μ (((mLcL gm1 tt1 te (wipeD z.1 vs1) (es.drop j) S).bind fun ys S => (mLc2L vs1 gm tt fi1 gm1 tt1 te (wipeD ρ vs) (ds.drop (i + 1)) S).bind fun zs S => .ok (ys ++ zs) S).bind fun l S => fin (accD ++ l) S) Q (fun c d H' => W c d σ H'),
                ⟨_, rfl, Nat.zero_le _, acc, accD, F6, μ6, S6, r6, Gr.refl _ _, (pa.mono g25).mono g6, by omega, Fin.gr (g25.trans g6) k2⟩, ?_⟩
              rintro j kk H7 ⟨rfl, hj, acc7, accD7, F7, μ7, S7, r7, g7, pa7, hl7, k7⟩
              have g27 := (g25.trans g6).trans g7
              by_cases hjl : j < es.length
              · refine .inr ⟨w1.goes _ F7 μ7 S7 H7 j g7 r7 hjl, _, fun H' p' => ⟨es.length - (j + 1), by omega, p'⟩, fun x1 H8 y1 => ?_⟩
                obtain ⟨F8, g8, r8, rp8⟩ := w1.yields _ F7 μ7 S7 H7 j es[j] x1 H8 g7 r7 (by simp [hjl]) y1
                rw [List.drop_eq_getElem_cons hjl] at k7
                unfold mLcL at k7
                cases q1 : gm1 es[j] (wipeD z.1 vs1) S7 with
                | none => rw [q1] at k7; exact k7.elim
                | some z1 =>
                  rw [q1] at k7
                  simp only at k7
                  have enw1 : EnvR g F8 μ7 (wipeD z.1 vs1) (L2.wipe σ4 vs1) := (en4.mono (((g5.trans g6).trans g7).trans g8)).wipe vs1
                  refine ⟨es[j], _, wipeD z.1 vs1, F8, μ7, S7, z1.1, z1.2, enw1, r8, rp8, q1, fun F9 μ9 H9 σ9 g9 r9 en9 w9 => ⟨?_, ?_⟩⟩
                  · rw [w9]
                    exact wipe_wipe σ4 vs1 vs1 fun _ h => h
                  · cases qt1 : tt1 z1.1 z1.2 with
                    | stuck => rw [qt1] at k7; exact k7.elim
                    | exn e S5 => rw [qt1] at k7; exact k7.elim
                    | ok b1 S10 =>
                      rw [qt1] at k7
                      refine tDB.run en9 r9 ?_
                      rw [qt1]
                      intro F10 μ10 H10 b' g10 r10 eb
                      cases eb
                      simp only [R.nx_ok, R.bind_ok] at k7
                      have g710 := (g8.trans g9).trans g10
                      cases b1 with
                      | false =>
                        refine iteF ⟨rfl, hjl, acc7, accD7, F10, μ10, S10, r10, g7.trans g710, pa7.mono g710, by omega, Fin.gr g710 ?_⟩
                        simpa using k7
                      | true =>
                        simp only [if_true] at k7
                        refine iteT ?_
                        cases qe : te z1.1 S10 with
                        | stuck => rw [qe] at k7; exact k7.elim
                        | exn e S6 => rw [qe] at k7; exact k7.elim
                        | ok yv S11 =>
                          rw [qe] at k7
                          simp only [R.nx_ok, R.bind_ok] at k7
                          refine tD.run (en9.mono g10) r10 ?_
                          rw [qe]
                          intro F11 μ11 H11 vy g11 r11 py
                          have g711 := g710.trans g11
                          refine ⟨acc7, (r11.priv Dl _ upd_same).1, by rw [show sizeLine = 16777216 from rfl]; omega, rfl, hjl, acc7 ++ [vy], accD7 ++ [yv], F11, μ11, S11, ?_, g7.trans g711, (pa7.mono g711).append (reps_cons py reps_nil), by rw [List.length_append, List.length_singleton]; omega, Fin.gr g711 ?_⟩
                          · have := r11.hidden (o' := .lst (acc7 ++ [vy])) (upd_same (H := P) (a := Dl) (o := .lst acc7))
                            rw [upd_upd] at this
                            exact this
                          · have e : (((mLcL gm1 tt1 te (wipeD z.1 vs1) (es.drop (j + 1)) S11).bind fun ys S => (R.ok (yv :: ys) S)).bind fun ys S => (mLc2L vs1 gm tt fi1 gm1 tt1 te (wipeD ρ vs) (ds.drop (i + 1)) S).bind fun zs S => .ok (ys ++ zs) S).bind (fun l S => fin (accD7 ++ l) S) = ((mLcL gm1 tt1 te (wipeD z.1 vs1) (es.drop (j + 1)) S11).bind fun ys S => (mLc2L vs1 gm tt fi1 gm1 tt1 te (wipeD ρ vs) (ds.drop (i + 1)) S).bind fun zs S => .ok (ys ++ zs) S).bind fun l S => fin ((accD7 ++ [yv]) ++ l) S := by
                              cases mLcL gm1 tt1 te (wipeD z.1 vs1) (es.drop (j + 1)) S11 with
                              | stuck => rfl
                              | exn e S => rfl
                              | ok ys S =>
                                simp only [R.bind_ok]
                                cases mLc2L vs1 gm tt fi1 gm1 tt1 te (wipeD ρ vs) (ds.drop (i + 1)) S with
                                | stuck => rfl
                                | exn e S => rfl
                                | ok zs S => simp
                            rw [← e]
                            exact k7
              · have e : j = es.length := by omega
                subst e
                rw [List.drop_length] at k7
                simp only [mLcL, R.bind_ok, List.nil_append] at k7
                refine .inl ⟨w1.stops _ F7 μ7 S7 H7 g7 r7, rfl, hlt, acc7, accD7, F7, μ7, S7, r7, g2.trans g27, pa7, by omega, ?_⟩
                have e : ((mLc2L vs1 gm tt fi1 gm1 tt1 te (wipeD ρ vs) (ds.drop (i + 1)) S7).bind fun zs S => (R.ok zs S)).bind (fun l S => fin (accD7 ++ l) S) = (mLc2L vs1 gm tt fi1 gm1 tt1 te (wipeD ρ vs) (ds.drop (i + 1)) S7).bind fun l S => fin (accD7 ++ l) S := by
                  cases mLc2L vs1 gm tt fi1 gm1 tt1 te (wipeD ρ vs) (ds.drop (i + 1)) S7 <;> rfl
                rw [← e]
                exact k7
  · have e : i = ds.length := by omega
    subst e
    rw [List.drop_length] at k2
    simp only [mLc2L, R.bind_ok, List.append_nil] at k2
    exact .inl ⟨w.stops _ F2 μ2 S2 H2 g2 r2, hfin P F2 μ2 S2 H2 Dl acc accD Q _ r2 nP pa k2⟩
section
variable {X : Cx} {W : WX} {elt tg iter tg1 iter1 : Expr} {ifs ifs1 : List Expr} {scope : Scope} {own : List (Str × Nat)} {pos : Pos} {fi fi1 : IM} {gm gm1 : GM} {tt tt1 : BM} {te : EM} {vs1 : List Nat}
theorem d_lc2 {fin : List D → M D} (hfin : FinL (gX X) fin) (hc : X.calm = true) (hN : X.N.Nodup) (hi : DI X W tg iter fi) (ok : BlkOk X.N X.env.scope scope own) (hv : ∀ i ∈ vs1, i ∈ own.map (·.2))
    (hg : ∀ (s : Shared) (H : Hp) (C : Addr) (cl : List (Str × Addr)) (fp : List Addr), DGw (X.blk s H scope (compEnvC scope cl C X.env) fp) (own.map (·.2)) tg gm) (ht : ∀ (s : Shared) (H : Hp) (C : Addr) (cl : List (Str × Addr)) (fp : List Addr), DT (X.blk s H scope (compEnvC scope cl C X.env) fp) W0 ifs tt)
    (hi1 : ∀ (s : Shared) (H : Hp) (C : Addr) (cl : List (Str × Addr)) (fp : List Addr), DI (X.blk s H scope (compEnvC scope cl C X.env) fp) W0 tg1 iter1 fi1)
    (hg1 : ∀ (s : Shared) (H : Hp) (C : Addr) (cl : List (Str × Addr)) (fp : List Addr), DGw (X.blk s H scope (compEnvC scope cl C X.env) fp) vs1 tg1 gm1) (ht1 : ∀ (s : Shared) (H : Hp) (C : Addr) (cl : List (Str × Addr)) (fp : List Addr), DT (X.blk s H scope (compEnvC scope cl C X.env) fp) W0 ifs1 tt1)
    (he : ∀ (s : Shared) (H : Hp) (C : Addr) (cl : List (Str × Addr)) (fp : List Addr), DE (X.blk s H scope (compEnvC scope cl C X.env) fp) W0 elt te) (hs : ∀ x, foldedSetIterable iter X.env x = pure x := by intro _; rfl) (hs1 : ∀ env x, foldedSetIterable iter1 env x = pure x := by intro _ _; rfl) :
    DE X W (.ListComp elt [⟨tg, iter, ifs, 0⟩, ⟨tg1, iter1, ifs1, 0⟩] scope pos) (mLc2F fin (own.map (·.2)) vs1 fi gm tt fi1 gm1 tt1 te) := PE.weak (pe_lc2 hc hN hi ok hv hg ht hi1 hg1 ht1 he hs hs1) (lc2_run hfin)
theorem ds_setLc2 {fin : List D → M D} (hfin : FinL (gX X) fin) (i : Nat) {y : Str} {py spos : Pos} (hc : X.calm = true) (hN : X.N.Nodup) (hi : DI X W tg iter fi) (ok : BlkOk X.N X.env.scope scope own) (hv : ∀ i ∈ vs1, i ∈ own.map (·.2))
    (hg : ∀ (s : Shared) (H : Hp) (C : Addr) (cl : List (Str × Addr)) (fp : List Addr), DGw (X.blk s H scope (compEnvC scope cl C X.env) fp) (own.map (·.2)) tg gm) (ht : ∀ (s : Shared) (H : Hp) (C : Addr) (cl : List (Str × Addr)) (fp : List Addr), DT (X.blk s H scope (compEnvC scope cl C X.env) fp) W0 ifs tt)
    (hi1 : ∀ (s : Shared) (H : Hp) (C : Addr) (cl : List (Str × Addr)) (fp : List Addr), DI (X.blk s H scope (compEnvC scope cl C X.env) fp) W0 tg1 iter1 fi1)
    (hg1 : ∀ (s : Shared) (H : Hp) (C : Addr) (cl : List (Str × Addr)) (fp : List Addr), DGw (X.blk s H scope (compEnvC scope cl C X.env) fp) vs1 tg1 gm1) (ht1 : ∀ (s : Shared) (H : Hp) (C : Addr) (cl : List (Str × Addr)) (fp : List Addr), DT (X.blk s H scope (compEnvC scope cl C X.env) fp) W0 ifs1 tt1)
    (he : ∀ (s : Shared) (H : Hp) (C : Addr) (cl : List (Str × Addr)) (fp : List Addr), DE (X.blk s H scope (compEnvC scope cl C X.env) fp) W0 elt te)
    (hsw : swapsWith (.ListComp elt [⟨tg, iter, ifs, 0⟩, ⟨tg1, iter1, ifs1, 0⟩] scope pos) (some (.Name y py)) spos.line X.env = pure true) (hy : X.N[i]? = some y := by rfl) (hyl : X.env.scope.names.lookup y = some .local := by rfl) (hs : ∀ x, foldedSetIterable iter X.env x = pure x := by intro _; rfl) (hs1 : ∀ env x, foldedSetIterable iter1 env x = pure x := by intro _ _; rfl) :
    DS X W (.Assign [.Name y py] (.ListComp elt [⟨tg, iter, ifs, 0⟩, ⟨tg1, iter1, ifs1, 0⟩] scope pos) spos) (mAsg (mLc2F fin (own.map (·.2)) vs1 fi gm tt fi1 gm1 tt1 te) (gN i)) := by
  refine PS.weak (ps_setLc2 (wi1 := tDI (gX X) W0 fi1) (g := tDGw (gX X) (own.map (·.2)) gm) (tt := tDB (gX X) W0 tt) (g1 := tDGw (gX X) vs1 gm1) (tt1 := tDB (gX X) W0 tt1) (te := tD (gX X) W0 te) hc hN hy hyl hsw hi ok hv hg ht hi1 hg1 ht1 he hs hs1) fun Dn σ H ⟨P, ρ, F, μ, S, en, rl, k⟩ => ?_
  refine lc2_run hfin σ H _ (tD.run en rl (Fin.imp (FinS.to (rep := repD (gX X)) en k) (fun v H1 ⟨a, F1, μ1, S1, g1, r1, p1, k1⟩ => ?_) fun _ _ _ z => z))
  exact k1 F1 μ1 H1 (Gr.refl _ _) r1 _ ((en.mono g1).set p1)
end

/-! ### extend -/
theorem list_extendW (l : Addr) (xs : Array Value) (n : Nat) (b : Addr) (ys : Array Value) (m : Nat) (sl : Array (Option Value)) (h0 : ¬(!xs.isEmpty && Builtin.List.listTooLong (xs.size + ys.size)) = true) (h1 : xs.size ≤ sizeLine) (h2 : xs.size + ys.size ≤ sizeLine + 1) :
    Meets (Builtin.«list.extend» ⟨[.ref l, .ref b], []⟩) (fun _ R s => s.heap.get? l = some { cls := .type "list", dict := none, data := .seq xs n, slots := #[] } ∧ s.heap.get? b = some { cls := .type "list", dict := none, data := .seq ys m, slots := sl } ∧
      R (.ok (.ret Value.none)) { s with heap := s.heap.update l (Obj.mapSeq fun x => x ++ ys), toks := s.toks }) :=
  .of_wp fun prog w A R s h => by
    obtain ⟨hp, g, d, tk, os⟩ := s
    obtain ⟨hl, hb, h⟩ := h
    have f1 := PySem.AutoSeq1.sub_list_list
    have f2 := PySem.AutoSeq1.sub_tuple_list
    have f3 := PySem.AutoSeq1.sub_list_tuple
    have hz' : (xs ++ ys).size ≤ sizeLine + 1 := by rw [Array.size_append]; exact h2
    wp_walk using (wpAny_updateSeq hl rfl (hz := h1) (_hz' := hz')), PySem.AutoSeq1.wpAny_loadPart' hl, PySem.AutoSeq1.wpAny_loadPart' hb
    exact ⟨_, rfl, h⟩
section
variable {X : Cx}
theorem mt_extendS : MtM X "list.extend" (fun x vs H Q => ∃ l b xs zs, x = .ref l ∧ vs = [.ref b] ∧ H l = some (.lst xs) ∧ SqL X.K H b zs ∧ xs.length + zs.length ≤ sizeLine ∧ Q .non (upd H l (.lst (xs ++ zs)))) := by
  intro pins s σ H x vs v us Q I rx rv h
  obtain ⟨l, b, xs, zs, rfl, rfl, hH, hB, hz, q⟩ := h
  cases rx
  obtain ⟨u, rfl, ru⟩ := rv.one
  cases ru
  obtain ⟨z, its, n, r, hl, e⟩ := I.lstM hH
  obtain ⟨its2, r2, ⟨o2, n2, e2, hc2, hd2, hs2⟩, z2⟩ := I.list hB
  have l2 := r2.length
  obtain ⟨oc2, od2, oda2, osl2⟩ := o2
  dsimp only at hc2 hd2 hs2
  subst hc2 hd2 hs2
  have hsz : its.toArray.size + its2.toArray.size ≤ sizeLine := by rw [List.size_toArray, List.size_toArray]; omega
  have hlong : ¬ (!its.toArray.isEmpty && Builtin.List.listTooLong (its.toArray.size + its2.toArray.size)) = true := by
    rw [notLongL hsz, Bool.and_false]
    exact Bool.false_ne_true
  refine call_meets PySem.F.slot_list_extend ⟨_, e, rfl⟩ PySem.F.entry_list_extend (PySem.F.args_list_extend_2 _ _) (list_extendW l its.toArray n b its2.toArray n2 osl2 hlong (by rw [List.size_toArray]; omega) (by omega)) ⟨e, e2, ?_⟩
  refine ⟨.non, _, I.lset (its' := its ++ its2) hH e (by simp) (r.append r2) ?_, rfl, q⟩
  rw [List.length_append]
  omega
theorem md_extend : MetD X "list" "list.extend" isL extendD := by
  refine ⟨fun P F μ S H d v r p e => isL_ty r p e, ?_⟩
  intro pins s σ H x xs v us Q I rx rxs h
  obtain ⟨d, ds, P, F, μ, S, E, rl, p, ps, k⟩ := h
  unfold extendD at k
  split at k
  rotate_left
  · exact k.elim
  rename_i n d
  split at k
  rotate_left
  · exact k.elim
  rename_i l kk q
  split at k
  rotate_left
  · exact k.elim
  rename_i hl
  obtain ⟨a, ys, rfl, hm, hH, hr⟩ := p.refL rl q
  simp only [Reps] at ps
  obtain ⟨w, _, rfl, pw, rfl⟩ := ps
  obtain ⟨b, zs, rfl, hs, hr2⟩ := pw.lst rl
  refine mt_extendS pins s σ H _ _ v us Q I rx rxs ⟨a, b, ys, zs, rfl, rfl, hH, hs, by rw [← hr.length, ← hr2.length]; exact hl, ?_⟩
  exact k.here (rl.write q (by intro z; cases z) hm ⟨_, rfl, hr.append hr2⟩) rep_non
end
end DL

/-! The data layer, 16: enumerate over a tuple. -/
namespace DL
open PySem PySem.Spec PyProof.Rows L2

theorem meets_enum1 {v : Value} {o : Obj} {Hh : Heap → Prop} (B : Begins v o Hh) :
    Meets (Builtin.«enumerate.__new__» ⟨[.type "enumerate", v], []⟩) (fun _ R s => Hh s.heap ∧
      R (.ok (.ret (.ref (s.heap.push o).objs.size))) { s with heap := (s.heap.push o).push { cls := .type "enumerate", data := .fields #[.none, .bool false, .ref s.heap.objs.size, rawInt 0, .none, .none] } }) :=
  .of_wp fun prog w A R s h => by
    obtain ⟨hp, g, d, tk, os⟩ := s
    obtain ⟨h1, h⟩ := h
    have hsub := sub_enumerate
    have it0 : ∀ {A' : Around} {E : Value → Shared → Prop} {Q : Value → Shared → Prop}, Q (.ref hp.objs.size) ⟨hp.push o, g, d, tk, os⟩ → wpAny (model prog w) A' (pyIter v) Q E ⟨hp, g, d, tk, os⟩ :=
      fun q => B.iter prog w _ _ ⟨hp, g, d, tk, os⟩ _ h1 q
    wp_walk using it0
    refine wpAny_stack_any fun st => wpAny_pure ?_
    split
    · rename_i c _ _ _ _ _
      cases (c == Value.type "enumerate") <;> (wp_walk using it0; exact ⟨_, rfl, h⟩)
    · wp_walk using it0
      exact ⟨_, rfl, h⟩
section
variable {prog : Program} {w : World} {A : Around} {E : Value → Shared → Prop} {s : Shared}
theorem call_enum1 {v : Value} {o : Obj} {Hh : Heap → Prop} {Q : Value → Shared → Prop} (B : Begins v o Hh) (h1 : Hh s.heap)
    (h : ∀ h', IsEnum h' (s.heap.objs.size + 1) s.heap.objs.size 0 .none → h'.get? s.heap.objs.size = some o → (∀ b u, s.heap.get? b = some u → h'.get? b = some u) → Q (.ref (s.heap.objs.size + 1)) { s with heap := h' }) :
    wpAny (model prog w) A (call (.type "enumerate") [v]) Q E s := by
  refine callType_new F.called_enumerate (by decide) (F.typeCall_enumerate_1 _) (F.newCall_enumerate_1 _) (fun obj => F.args_object_init_2 obj _) F.entry_enumerate_new (meets_enum1 B) ⟨h1, ?_⟩
  have hz : (s.heap.push o).objs.size = s.heap.objs.size + 1 := Heap.size_push ..
  rw [hz]
  have he := Heap.get?_push_size (s.heap.push o) (o := { cls := .type "enumerate", data := .fields #[.none, .bool false, .ref s.heap.objs.size, rawInt 0, .none, .none] }) rfl
  rw [hz] at he
  exact ⟨⟨_, he, rfl⟩, h _ he (Heap.get?_push_of_some _ (Heap.get?_push_size _ B.free)) fun b u x => Heap.get?_push_of_some _ (Heap.get?_push_of_some _ x)⟩
end
/-- the tuple at a, each item in a new pair -/
def IteT (K : PySem.W.Frag) (a : Addr) : It :=
  ⟨fun i H => ∃ (xs : List V) (x : V), SqT K H a xs ∧ xs[i]? = some x, fun i H v H' => ∃ T x, v = .ref T ∧ H T = none ∧ H' = upd H T (.tup [.int (i : Nat), x]) ∧ ∀ xs, SqT K H a xs → xs[i]? = some x, fun i H => ∃ xs : List V, SqT K H a xs ∧ xs.length ≤ i⟩
theorem turn_enumT {P : Program} {w : World} {K : PySem.W.Frag} {elts : List Expr} {kk : Nat} {tpos : Pos} (a e it : Addr) :
    Turn P w K (.Tuple elts kk tpos) (IteT K a) [e, it] e (fun i h => (∃ old, IsEnum h e it ((i : Nat) : Int) old) ∧ h.IsTupleIter it a i ∧ e ≠ it ∧ a ≠ it ∧ e ≠ a) where
  mem := by simp
  obj := fun i h st b hb => by
    obtain ⟨⟨old, he⟩, ⟨o, ho, hc, hd⟩, _⟩ := st
    rcases (show b = e ∨ b = it by simpa using hb) with rfl | rfl
    · exact ⟨_, he, fun v q => nomatch q⟩
    · exact ⟨o, ho, fun v q => by rw [hd] at q; cases q⟩
  keep := fun i h h' st k => by
    obtain ⟨⟨old, he⟩, hi, hne⟩ := st
    exact ⟨⟨old, k e (by simp) _ he⟩, hi.at fun o q => k it (by simp) o q, hne⟩
  item := by
    intro X hP hw hK hc i pins s σ H E I hf st hg
    subst hP hw hK
    obtain ⟨⟨old, he⟩, hit, hne, ha, hea⟩ := st
    obtain ⟨xs, x, hq, hx⟩ := hg
    obtain ⟨its, rv, p, hz⟩ := I.tuple hq
    obtain ⟨u, hu, ru⟩ := rv.get hx
    obtain ⟨po, ph, pc, pn, pd⟩ := p
    have hel : e < s.heap.objs.size := Heap.lt_size he
    have hil : it < s.heap.objs.size := by obtain ⟨_, q, _⟩ := hit; exact Heap.lt_size q
    have hlt : i < its.toArray.size := by
      have := (List.getElem?_eq_some_iff.mp hu).1
      simpa using this
    refine wpAny_pyNext_enum_itemD (Draws.tuple (A := X.A.in1) (show X.A.in1.handled = none from I.ok.hd hc) it a ha its.toArray) he ⟨hit, po, ph, pc, pn, pd⟩ hlt hne (by simp [hne, hea]) fun x' h' tk hP ho hst hT hsz hk => ?_
    have ex : x' = u := by
      have h1 : its.toArray[i]? = some u := by simpa using hu
      rw [h1] at hP
      exact (Option.some.inj hP).symm
    subst ex
    refine ⟨_, rfl, wpAny_letOwnedTupleGo_enum (s := { s with heap := h', toks := tk + 1 }) ho fun h'' he' sb => ?_⟩
    have hT2 : h''.get? s.heap.objs.size = some { cls := .type "tuple", data := .seq #[.int i tk, x'] } := (sb.2 _ (Nat.ne_of_gt hel)).trans hT
    have new : ObjOk X.prog X.w (upd H s.heap.objs.size (.tup [.int (i : Nat), x])) h'' s.heap.objs.size (.tup [.int (i : Nat), x]) :=
      ⟨by show 2 ≤ sizeLine; decide, [.int i tk, x'], .cons ⟨_, rfl⟩ (.cons ru .nil), ⟨_, hT2, rfl, _, rfl⟩⟩
    have I1 : Inv X pins σ (upd H s.heap.objs.size (.tup [.int (i : Nat), x])) { s with heap := h'', toks := tk + 1 } :=
      I.turnedNew (ch := [e, it]) (fun b ob hb q => (sb.2 b (fun z => hb (by simp [z]))).trans (hk b ob (fun z => hb (by simp [z])) (fun z => hb (by simp [z])) q)) hf (Nat.le_refl _) new
    refine ⟨.ref s.heap.objs.size, _, I1, rfl, ⟨_, x, rfl, I.hok.fresh (Nat.le_refl _), rfl, fun ys hy => by rw [I.tuple_inj hy hq]; exact hx⟩, ⟨⟨x', ?_⟩, hst.1.at fun o q => (sb.2 it (Ne.symm hne)).trans q, hne, ha, hea⟩, fun b hb => ?_⟩
    · rw [show ((i + 1 : Nat) : Int) = (i : Int) + 1 by omega]
      exact he'
    · have hb' : b < s.heap.objs.size := by
        rcases (show b = e ∨ b = it by simpa using hb) with rfl | rfl
        · exact hel
        · exact hil
      rw [upd_ne (Nat.ne_of_lt hb')]
      exact (hf b hb).1
  done := by
    intro X hP hw hK hc i pins s σ H E I hf st hg
    subst hP hw hK
    obtain ⟨⟨old, he⟩, hit, hne, ha, hea⟩ := st
    obtain ⟨xs, hq, hx⟩ := hg
    obtain ⟨its, rv, p, hz⟩ := I.tuple hq
    obtain ⟨po, ph, pc, pn, pd⟩ := p
    obtain ⟨f0, f1, f2, f3, f4, f5⟩ := hf it (by simp)
    have hl := rv.length
    have hn : its.toArray[i]? = none := by simp; omega
    have D2 : Draws X.prog X.w X.A.in1 it [it, a] i (fun _ _ => True) (fun j h => j = i ∧ h.IsTupleIter it a i ∧ h.IsTuple a its.toArray) :=
      { live := fun _ _ st => let ⟨o, ho, _⟩ := st.2.1; ⟨o, ho⟩
        frame := fun _ _ _ st hk => ⟨st.1, st.2.1.at fun o e => hk it (by simp) o e, st.2.2.at fun o e => hk a (by simp) o e⟩
        item := fun j s Q E hi st hQ => absurd hi (by rw [st.1]; exact Nat.lt_irrefl _)
        done := fun s Q E st hE => wpAny_nextOf_tuple_end (I.ok.hd hc) st.2.1 st.2.2 hn hE }
    exact wpAny_pyNext_enum_endD D2 he ⟨rfl, hit, po, ph, pc, pn, pd⟩ fun h' eb => ⟨rfl, I.turned (t' := s.toks) (fun b o hb q => eb b o hb q) f0 f1 f3 f4 f5⟩
  self := fun A i s Q E st h => by
    obtain ⟨⟨old, he⟩, _⟩ := st
    exact wpAny_pyIter_enum he h
def mEnumQ (fe : EM) : IM := fun ρ S => (fe ρ S).bind fun d S => match d with
  | .lst l => .ok ((enumL 0 l).map D.wt) S
  | .tup l => .ok ((enumL 0 l).map D.wt) S
  | _ => .stuck
theorem pi_enumQ {X : Cx} {e : Expr} {ta : TA} {p pos tpos : Pos} {elts : List Expr} {kk : Nat} (hg : Gl X "enumerate") (hm : X.mg "enumerate" = none) (ha : PA X [e] ta) (hs : starEach [e] X.env = [(false, eval e X.env)] := by rfl) :
    PI X (.Tuple elts kk tpos) (.Call (.Name "enumerate" p) [e] [] pos) (fun σ H R => ta σ H fun vs H1 => ∃ a xs, vs = [.ref a] ∧ ((SqL X.K H1 a xs ∧ R (Ite X.K a) H1) ∨ (SqT X.K H1 a xs ∧ R (IteT X.K a) H1))) := by
  refine ⟨fun pins s σ H R I h => ?_⟩
  refine Call_ (ld_blt I hg hm boot_enumerate (PyProof.Rows.callWith_type1 (thn (ha.run pos pins s σ H _ I h) fun us s1 ⟨vs, H1, I1, r1, q1⟩ => ?_) hs rfl))
  obtain ⟨a, xs, ex, q⟩ := q1
  subst ex
  cases r1 with
  | cons r rr =>
    cases rr
    cases r
    rcases q with ⟨hq, q⟩ | ⟨hq, q⟩
    · obtain ⟨its, rv, p', hz⟩ := I1.list hq
      refine call_enumerate_list p'.isList fun h' he hit hsz hk => wpAny_pyIter_enum he ?_
      have I2 : Inv X pins σ H1 { s1 with heap := h' } := I1.kept (t' := s1.toks) hk
      refine ⟨s1.heap.objs.size + 1, [s1.heap.objs.size + 1, s1.heap.objs.size], _, _, H1, rfl, I2, turn_enum a (s1.heap.objs.size + 1) s1.heap.objs.size, ⟨⟨.none, he⟩, hit, Nat.succ_ne_self _⟩, fun b hb => ?_, q⟩
      have hle : s1.heap.objs.size ≤ b := by
        rcases (show b = s1.heap.objs.size + 1 ∨ b = s1.heap.objs.size by simpa using hb) with z | z <;> rw [z] <;> omega
      exact I1.fpOk hle (I1.hok.fresh hle)
    · obtain ⟨its, rv, ⟨po, ph, pc, pn, pd⟩, hz⟩ := I1.tuple hq
      have hlt := Heap.lt_size ph
      refine call_enum1 (begins_tuple a its.toArray) ⟨po, ph, pc, pn, pd⟩ fun h' he hit hk => wpAny_pyIter_enum he ?_
      have I2 : Inv X pins σ H1 { s1 with heap := h' } := I1.kept (t' := s1.toks) hk
      refine ⟨s1.heap.objs.size + 1, [s1.heap.objs.size + 1, s1.heap.objs.size], _, _, H1, rfl, I2, turn_enumT a (s1.heap.objs.size + 1) s1.heap.objs.size, ⟨⟨.none, he⟩, ⟨_, hit, rfl, rfl⟩, Nat.succ_ne_self _, Nat.ne_of_lt hlt, Ne.symm (Nat.ne_of_lt (Nat.lt_succ_of_lt hlt))⟩, fun b hb => ?_, q⟩
      have hle : s1.heap.objs.size ≤ b := by
        rcases (show b = s1.heap.objs.size + 1 ∨ b = s1.heap.objs.size by simpa using hb) with z | z <;> rw [z] <;> omega
      exact I1.fpOk hle (I1.hok.fresh hle)
theorem walkD_enumT {g : G} {F : Hp} {μ : List Addr} {ds : List D} {xs : List V} {a : Addr} (hs : SqT g.K F a xs) (hr : Reps g F μ ds xs) : WalkD g F μ ((enumL 0 ds).map D.wt) (IteT g.K a) := by
  refine walkD_pair fun F' H h1 h2 => ?_
  have hx : SqT g.K H a xs := sqT_mono (μ := μ) (μ' := μ) ⟨fun c o e => h2 c o (h1 c o e), fun _ _ z => z⟩ hs
  refine ⟨fun i hi => ?_, ?_, fun i x H' z e y => ?_⟩
  · have hi : i < xs.length := by rw [← hr.length, ← enumL_len 0]; exact hi
    exact ⟨xs, xs[i], hx, by simp [hi]⟩
  · rw [enumL_len, hr.length]; exact ⟨xs, hx, Nat.le_refl _⟩
  · obtain ⟨d, e1, rfl⟩ := enumL_get e
    obtain ⟨v, e2, e3⟩ := hr.get e1
    obtain ⟨T, u, h3, h4, h5, h6⟩ := y
    have h6 := h6 xs hx
    rw [e2] at h6; cases h6
    refine ⟨T, _, h3, h4, h5, reps_cons ?_ (reps_cons e3 reps_nil)⟩
    rw [Nat.zero_add]; exact rep_int
theorem di_enumQ {X : Cx} {W : WX} {e : Expr} {fe : EM} {p pos tpos : Pos} {elts : List Expr} {kk : Nat} (hm : X.mg "enumerate" = none) (h : DE X W e fe) (hg : Gl X "enumerate" := by rfl) (hs : starEach [e] X.env = [(false, eval e X.env)] := by rfl) :
    DI X W (.Tuple elts kk tpos) (.Call (.Name "enumerate" p) [e] [] pos) (mEnumQ fe) := by
  refine PI.weak (pi_enumQ hg hm (pa_cons h pa_nil hs) hs) fun σ H R ⟨P, ρ, F, μ, S, en, rl, k⟩ => ?_
  refine tD.run en rl (Fin.imp (Fin.bind (rep := repD (gX X)) k) (fun v H1 ⟨d, F1, μ1, S1, g1, r1, p1, k1⟩ => ?_) fun _ _ _ z => z)
  cases d <;> first | exact k1.elim | skip
  · simp only [Rep] at p1
    obtain ⟨a, xs, ea, ⟨hs, _⟩, hr⟩ := p1
    exact ⟨a, xs, by rw [ea], .inr ⟨sqT_mono (g := gX X) r1.gr0 hs, k1.here r1 (walkD_enumT hs hr)⟩⟩
  · simp only [Rep] at p1
    obtain ⟨a, xs, ea, hs, hr⟩ := p1
    exact ⟨a, xs, by rw [ea], .inl ⟨sqL_mono (g := gX X) r1.gr0 hs, k1.here r1 (walkD_enum hs hr)⟩⟩
end DL

/-! The data layer, 17: zip of a tuple and a list. -/
namespace DL
open PySem PySem.Spec PyProof.Rows L2

def ItzM (K : PySem.W.Frag) (a b : Addr) : It :=
  ⟨fun i H => ∃ (xs ys : List V) (x y : V), SqT K H a xs ∧ SqL K H b ys ∧ xs[i]? = some x ∧ ys[i]? = some y,
    fun i H v H' => ∃ T x y, v = .ref T ∧ H T = none ∧ H' = upd H T (.tup [x, y]) ∧ (∀ xs, SqT K H a xs → xs[i]? = some x) ∧ ∀ ys, SqL K H b ys → ys[i]? = some y,
    fun i H => ∃ xs ys : List V, SqT K H a xs ∧ SqL K H b ys ∧ i ≤ xs.length ∧ i ≤ ys.length ∧ (i = xs.length ∨ i = ys.length)⟩
theorem turn_zipM {P : Program} {w : World} {K : PySem.W.Frag} {elts : List Expr} {kk : Nat} {tpos : Pos} {a b z TI TO i1 i2 : Addr} (D : ZipSep2 z TI TO i1 i2 [i1, a] [i2, b]) (ha : a ≠ i1) (hb : b ≠ i2) :
    Turn P w K (.Tuple elts kk tpos) (ItzM K a b) [z, TI, TO, i1, i2] z (fun i h => IsZip h z TI TO .none ∧ IsTupOf2 h TI (.ref i1) (.ref i2) ∧ (∃ x y, IsTupOf2 h TO x y) ∧ h.IsTupleIter i1 a i ∧ h.IsListIter i2 b i) where
  mem := by simp
  obj := fun i h st c hc => by
    obtain ⟨hz, hTI, ⟨x, y, hTO⟩, ⟨o1, e1, _, d1⟩, ⟨o2, e2, _, d2⟩⟩ := st
    rcases (show c = z ∨ c = TI ∨ c = TO ∨ c = i1 ∨ c = i2 by simpa using hc) with rfl | rfl | rfl | rfl | rfl
    · exact ⟨_, hz, fun v q => nomatch q⟩
    · exact ⟨_, hTI, fun v q => nomatch q⟩
    · exact ⟨_, hTO, fun v q => nomatch q⟩
    · exact ⟨o1, e1, fun v q => by rw [d1] at q; cases q⟩
    · exact ⟨o2, e2, fun v q => by rw [d2] at q; cases q⟩
  keep := fun i h h' st k => by
    obtain ⟨hz, hTI, ⟨x, y, hTO⟩, h1, h2⟩ := st
    exact ⟨k z (by simp) _ hz, k TI (by simp) _ hTI, ⟨x, y, k TO (by simp) _ hTO⟩, h1.at fun o q => k i1 (by simp) o q, h2.at fun o q => k i2 (by simp) o q⟩
  item := by
    intro X hP hw hK hc i pins s σ H E I hf st hg
    subst hP hw hK
    obtain ⟨hz, hTI, ⟨x0, y0, hTO⟩, h1, h2⟩ := st
    obtain ⟨xs, ys, x, y, hqx, hqy, hx, hy⟩ := hg
    obtain ⟨its, rv, ⟨po, ph, pc, pn, pd⟩, _⟩ := I.tuple hqx
    obtain ⟨its2, rv2, p2, _⟩ := I.list hqy
    obtain ⟨u, hu, ru⟩ := rv.get hx
    obtain ⟨u2, hu2, ru2⟩ := rv2.get hy
    have hzl : z < s.heap.objs.size := Heap.lt_size hz
    have lt1 : i < its.toArray.size := by
      have := (List.getElem?_eq_some_iff.mp hu).1
      simpa using this
    have lt2 : i < its2.toArray.size := by
      have := (List.getElem?_eq_some_iff.mp hu2).1
      simpa using this
    have hd : X.A.in1.handled = none := I.ok.hd hc
    refine wpAny_pyNext_zipD2_item D (Draws.tuple (A := X.A.in1) hd i1 a ha its.toArray) (Draws.list (A := X.A.in1) hd i2 b hb its2.toArray) hz hTI hTO ⟨h1, po, ph, pc, pn, pd⟩ ⟨h2, p2.isList⟩ lt1 lt2 fun v1 v2 h' tk e1 e2 z' TO' s1' s2' hT hsz hk => ?_
    have ex : v1 = u := by
      have q : its.toArray[i]? = some u := by simpa using hu
      rw [q] at e1
      exact (Option.some.inj e1).symm
    have ey : v2 = u2 := by
      have q : its2.toArray[i]? = some u2 := by simpa using hu2
      rw [q] at e2
      exact (Option.some.inj e2).symm
    subst ex ey
    refine ⟨_, rfl, wpAny_letOwnedTupleGo_zip (s := { s with heap := h', toks := tk }) z' fun h'' z'' sb => ?_⟩
    have hT2 : h''.get? s.heap.objs.size = some { cls := .type "tuple", data := .seq #[v1, v2] } := (sb.2 _ (Nat.ne_of_gt hzl)).trans hT
    have new : ObjOk X.prog X.w (upd H s.heap.objs.size (.tup [x, y])) h'' s.heap.objs.size (.tup [x, y]) :=
      ⟨by show 2 ≤ sizeLine; decide, [v1, v2], .cons ru (.cons ru2 .nil), ⟨_, hT2, rfl, _, rfl⟩⟩
    have I1 : Inv X pins σ (upd H s.heap.objs.size (.tup [x, y])) { s with heap := h'', toks := tk } :=
      I.turnedNew (ch := [z, TI, TO, i1, i2]) (fun c o hb q => (sb.2 c (fun q' => hb (by simp [q']))).trans (hk c o (fun q' => hb (by simp [q'])) (fun q' => hb (by simp [q'])) (fun q' => hb (by simp [q'])) (fun q' => hb (by simp [q'])) q)) hf (Nat.le_refl _) new
    refine ⟨.ref s.heap.objs.size, _, I1, rfl, ⟨_, x, y, rfl, I.hok.fresh (Nat.le_refl _), rfl, fun l hl => by rw [I.tuple_inj hl hqx]; exact hx, fun l hl => by rw [I.list_inj hl hqy]; exact hy⟩, ⟨z'', ?_, ⟨v1, v2, ?_⟩, ?_, ?_⟩, fun c hcm => ?_⟩
    · exact (sb.2 _ D.TIz).trans (hk _ _ D.TIz D.TITO D.TIi1 D.TIi2 hTI)
    · exact (sb.2 _ D.TOz).trans TO'
    · exact s1'.1.at fun o q => (sb.2 _ (Ne.symm D.zi1)).trans q
    · exact s2'.1.at fun o q => (sb.2 _ (Ne.symm D.zi2)).trans q
    · have hlt : c < s.heap.objs.size := by
        rcases (show c = z ∨ c = TI ∨ c = TO ∨ c = i1 ∨ c = i2 by simpa using hcm) with rfl | rfl | rfl | rfl | rfl
        · exact hzl
        · exact Heap.lt_size hTI
        · exact Heap.lt_size hTO
        · obtain ⟨_, e1, _⟩ := h1; exact Heap.lt_size e1
        · obtain ⟨_, e2, _⟩ := h2; exact Heap.lt_size e2
      rw [upd_ne (Nat.ne_of_lt hlt)]
      exact (hf c hcm).1
  done := by
    intro X hP hw hK hc i pins s σ H E I hf st hg
    subst hP hw hK
    obtain ⟨hz, hTI, ⟨x0, y0, hTO⟩, h1, h2⟩ := st
    obtain ⟨xs, ys, hqx, hqy, le1, le2, hend⟩ := hg
    obtain ⟨its, rv, ⟨po, ph, pc, pn, pd⟩, _⟩ := I.tuple hqx
    obtain ⟨its2, rv2, p2, _⟩ := I.list hqy
    have l1 := rv.length
    have l2 := rv2.length
    have hd : X.A.in1.handled = none := I.ok.hd hc
    exact wpAny_pyNext_zipD2_end D (Draws.tuple (A := X.A.in1) hd i1 a ha its.toArray) (Draws.list (A := X.A.in1) hd i2 b hb its2.toArray) hz hTI hTO ⟨h1, po, ph, pc, pn, pd⟩ ⟨h2, p2.isList⟩ (by simp; omega) (by simp; omega) (by simp; omega) fun h' tk hk => ⟨rfl, I.turnedL (t' := tk) (ch := [z, TI, TO, i1, i2]) (fun c o hb q =>
      hk c o (fun q' => hb (by simp [q'])) (fun q' => hb (by simp [q'])) (fun q' => hb (by simp [q'])) (fun q' => hb (by simp [q'])) q) hf⟩
  self := fun A i s Q E st h => wpAny_pyIter_zip st.1 h
theorem notin2 {x y z : Nat} (h1 : x ≠ y) (h2 : x ≠ z) : x ∉ [y, z] := by simp [h1, h2]
theorem sep_new (n a b : Nat) (ha : a < n) (hb : b < n) : ZipSep2 (n + 4) (n + 2) (n + 3) n (n + 1) [n, a] [n + 1, b] where
  TIz := Nat.ne_of_lt (by omega)
  TOz := Nat.ne_of_lt (by omega)
  TITO := Nat.ne_of_lt (by omega)
  TIi1 := Nat.ne_of_gt (by omega)
  mem1 := List.mem_cons_self
  zf1 := notin2 (by omega) (by omega)
  Tf1 := notin2 (by omega) (by omega)
  TIi2 := Nat.ne_of_gt (by omega)
  mem2 := List.mem_cons_self
  zf2 := notin2 (by omega) (by omega)
  Tf2 := notin2 (by omega) (by omega)
  sep1_2 := notin2 (by omega) (by omega)
  sep2_1 := notin2 (by omega) (by omega)
theorem pi_zipM {X : Cx} {e e2 : Expr} {ta : TA} {p pos tpos : Pos} {elts : List Expr} {kk : Nat} (hg : Gl X "zip") (hm : X.mg "zip" = none) (ha : PA X [e, e2] ta)
    (hs : starEach [e, e2] X.env = (false, eval e X.env) :: starEach [e2] X.env := by rfl) (hpl : (backTo pos (starEach [e2] X.env)).any (·.1) = false := by rfl) :
    PI X (.Tuple elts kk tpos) (.Call (.Name "zip" p) [e, e2] [] pos) (fun σ H R => ta σ H fun vs H1 => ∃ a b xs ys, vs = [.ref a, .ref b] ∧ SqT X.K H1 a xs ∧ SqL X.K H1 b ys ∧ R (ItzM X.K a b) H1) := by
  refine ⟨fun pins s σ H R I h => ?_⟩
  refine Call_ (ld_blt I hg hm PyProof.Rows.boot_zip (PyProof.Rows.callWith_type1 (thn (ha.run pos pins s σ H _ I h) fun us s1 ⟨vs, H1, I1, r1, q1⟩ => ?_) hs hpl))
  obtain ⟨a, b, xs, ys, ex, hqx, hqy, q⟩ := q1
  subst ex
  cases r1 with
  | cons r rr =>
    cases rr with
    | cons r' rr =>
      cases rr
      cases r
      cases r'
      obtain ⟨its, rv, ⟨po, ph, pc, pn, pd⟩, _⟩ := I1.tuple hqx
      obtain ⟨its2, rv2, p2, _⟩ := I1.list hqy
      have la := Heap.lt_size ph
      have lb := p2.lt
      refine zip_begins2 (begins_tuple a its.toArray) (begins_list b its2.toArray) ⟨po, ph, pc, pn, pd⟩ p2.isList fun h' hz hTI hTO h1 h2 hsz hk => wpAny_pyIter_zip hz ?_
      have I2 : Inv X pins σ H1 { s1 with heap := h' } := I1.kept (t' := s1.toks) hk
      have sep : ZipSep2 (s1.heap.objs.size + 4) (s1.heap.objs.size + 2) (s1.heap.objs.size + 3) s1.heap.objs.size (s1.heap.objs.size + 1) [s1.heap.objs.size, a] [s1.heap.objs.size + 1, b] := sep_new _ a b la lb
      refine ⟨s1.heap.objs.size + 4, [s1.heap.objs.size + 4, s1.heap.objs.size + 2, s1.heap.objs.size + 3, s1.heap.objs.size, s1.heap.objs.size + 1], _, _, H1, rfl, I2, turn_zipM sep (Nat.ne_of_lt la) (Nat.ne_of_lt (Nat.lt_succ_of_lt lb)), ⟨hz, hTI, ⟨_, _, hTO⟩, ⟨_, h1, rfl, rfl⟩, ⟨_, h2, rfl, rfl⟩⟩, fun c hcm => ?_, q⟩
      have hle : s1.heap.objs.size ≤ c := by
        rcases (show c = s1.heap.objs.size + 4 ∨ c = s1.heap.objs.size + 2 ∨ c = s1.heap.objs.size + 3 ∨ c = s1.heap.objs.size ∨ c = s1.heap.objs.size + 1 by simpa using hcm) with z | z | z | z | z <;> rw [z]
        · exact Nat.le_add_right _ _
        · exact Nat.le_add_right _ _
        · exact Nat.le_add_right _ _
        · exact Nat.le_refl _
        · exact Nat.le_add_right _ _
      exact I1.fpOk hle (I1.hok.fresh hle)
theorem walkD_zipM {g : G} {F : Hp} {μ : List Addr} {ds es : List D} {xs ys : List V} {a b : Addr} (hs : SqT g.K F a xs) (hr : Reps g F μ ds xs) (hs2 : SqL g.K F b ys) (hr2 : Reps g F μ es ys) : WalkD g F μ ((zipL ds es).map D.wt) (ItzM g.K a b) := by
  refine walkD_pair fun F' H h1 h2 => ?_
  have gr : Gr F μ H μ := ⟨fun c o e => h2 c o (h1 c o e), fun _ _ z => z⟩
  have hx := sqT_mono (g := g) gr hs
  have hy := sqL_mono (g := g) gr hs2
  have l1 := hr.length
  have l2 := hr2.length
  have zl := zipL_len ds es
  refine ⟨fun i hi => ?_, ?_, fun i x H' z e y => ?_⟩
  · have i1 : i < xs.length := by omega
    have i2 : i < ys.length := by omega
    exact ⟨xs, ys, xs[i], ys[i], hx, hy, by simp [i1], by simp [i2]⟩
  · exact ⟨xs, ys, hx, hy, by omega, by omega, by omega⟩
  · obtain ⟨d, d2, e1, e1', rfl⟩ := zipL_get e
    obtain ⟨v, e2, e3⟩ := hr.get e1
    obtain ⟨v2, e2', e3'⟩ := hr2.get e1'
    obtain ⟨T, u, u', h3, h4, h5, h6, h7⟩ := y
    have h6 := h6 xs hx
    have h7 := h7 ys hy
    rw [e2] at h6; cases h6
    rw [e2'] at h7; cases h7
    exact ⟨T, _, h3, h4, h5, reps_cons e3 (reps_cons e3' reps_nil)⟩
def mZipM (fa fb : EM) : IM := fun ρ S => (fa ρ S).bind fun d S => (fb ρ S).bind fun e S => match d, e with
  | .tup l, .lst k => .ok ((zipL l k).map D.wt) S
  | _, _ => .stuck
def mZipQ (fa fb : EM) : IM := fun ρ S => (fa ρ S).bind fun d S => (fb ρ S).bind fun e S => match d, e with
  | .lst l, .lst k => .ok ((zipL l k).map D.wt) S
  | .tup l, .tup k => .ok ((zipL l k).map D.wt) S
  | .tup l, .lst k => .ok ((zipL l k).map D.wt) S
  | _, _ => .stuck
theorem zipQ_or (fa fb : EM) (ρ : Env) (S : Store) : mZipQ fa fb ρ S = mZip fa fb ρ S ∨ mZipQ fa fb ρ S = mZipM fa fb ρ S := by
  unfold mZipQ mZip mZipM
  cases fa ρ S with
  | stuck => exact .inl rfl
  | exn e S => exact .inl rfl
  | ok d S =>
    simp only [R.bind_ok]
    cases fb ρ S with
    | stuck => exact .inl rfl
    | exn e S => exact .inl rfl
    | ok e S =>
      simp only [R.bind_ok]
      cases d <;> cases e <;> first | exact .inl rfl | exact .inr rfl
section
variable {X : Cx} {W : WX} {e e2 : Expr} {fe fe2 : EM} {p pos tpos : Pos} {elts : List Expr} {kk : Nat}
theorem di_zipM (hm : X.mg "zip" = none) (h : DE X W e fe) (h2 : DE X W e2 fe2) (hg : Gl X "zip" := by rfl) (hs : starEach [e, e2] X.env = [(false, eval e X.env), (false, eval e2 X.env)] := by rfl) (hs2 : starEach [e2] X.env = [(false, eval e2 X.env)] := by rfl) (hz : (backTo pos (starEach [e2] X.env)).any (·.1) = false := by rfl) :
    DI X W (.Tuple elts kk tpos) (.Call (.Name "zip" p) [e, e2] [] pos) (mZipM fe fe2) := by
  refine PI.weak (pi_zipM hg hm (pa_cons h (pa_cons h2 pa_nil hs2) (by rw [hs, hs2])) (by rw [hs, hs2]) hz) fun σ H R ⟨P, ρ, F, μ, S, en, rl, k⟩ => ?_
  refine tD.run en rl (Fin.imp (Fin.bind (rep := repD (gX X)) k) (fun v H1 ⟨d, F1, μ1, S1, g1, r1, p1, k1⟩ => ?_) fun _ _ _ z => z)
  refine tD.run (en.mono g1) r1 (Fin.imp (Fin.bind (rep := repD (gX X)) k1) (fun v2 H2 ⟨d2, F2, μ2, S2, g2, r2, p2, k2⟩ => ?_) fun _ _ _ z => z)
  have p1 := p1.mono g2
  cases d <;> cases d2 <;> first | exact k2.elim | skip
  simp only [Rep] at p1 p2
  obtain ⟨a, xs, ea, ⟨hs, _⟩, hr⟩ := p1
  obtain ⟨b, ys, eb, hs', hr'⟩ := p2
  exact ⟨a, b, xs, ys, by rw [ea, eb], sqT_mono (g := gX X) r2.gr0 hs, sqL_mono (g := gX X) r2.gr0 hs', k2.here r2 (walkD_zipM hs hr hs' hr')⟩
theorem di_zipQ (hm : X.mg "zip" = none) (h : DE X W e fe) (h2 : DE X W e2 fe2) (hg : Gl X "zip" := by rfl) (hs : starEach [e, e2] X.env = [(false, eval e X.env), (false, eval e2 X.env)] := by rfl) (hs2 : starEach [e2] X.env = [(false, eval e2 X.env)] := by rfl) (hz : (backTo pos (starEach [e2] X.env)).any (·.1) = false := by rfl) :
    DI X W (.Tuple elts kk tpos) (.Call (.Name "zip" p) [e, e2] [] pos) (mZipQ fe fe2) := by
  refine ⟨fun pins s σ H R I ⟨P, ρ, F, μ, S, en, rl, k⟩ => ?_⟩
  rcases zipQ_or fe fe2 ρ S with q | q
  · exact (di_zip hm h h2 hg hs hs2 hz).run pins s σ H R I ⟨P, ρ, F, μ, S, en, rl, q ▸ k⟩
  · exact (di_zipM hm h h2 hg hs hs2 hz).run pins s σ H R I ⟨P, ρ, F, μ, S, en, rl, q ▸ k⟩
end
end DL

/-! Plain laws, 1: one step of a mirror; sizes; fractions. -/
namespace DL
open PySem PySem.Spec PyProof.Rows L2

section
variable (ρ : Env) (S : Store)
@[simp] theorem x_var (i : Nat) : mVar i ρ S = match ρ[i]? with
  | some (some d) => .ok d S
  | _ => .stuck := rfl
@[simp] theorem x_c (d : D) : mC d ρ S = .ok d S := rfl
@[simp] theorem x_nil : mNil ρ S = .ok [] S := rfl
@[simp] theorem x_cons (f : EM) (r : AM) : mCons f r ρ S = (f ρ S).bind fun x S => (r ρ S).bind fun xs S => .ok (x :: xs) S := rfl
@[simp] theorem x_op (m : D → D → M D) (a b : EM) : mOp m a b ρ S = (a ρ S).bind fun x S => (b ρ S).bind fun y S => m x y S := rfl
@[simp] theorem x_toB (b : Bool) : toB (.bl b) S = .ok b S := rfl
@[simp] theorem x_b (f : EM) : mB f ρ S = (f ρ S).bind toB := rfl
@[simp] theorem x_un (m : D → M D) (a : EM) : mUn m a ρ S = (a ρ S).bind m := rfl
@[simp] theorem x_and (f h : BM) : mAnd f h ρ S = (f ρ S).bind fun b S => if b then h ρ S else .ok false S := rfl
@[simp] theorem x_or (f h : BM) : mOr f h ρ S = (f ρ S).bind fun b S => if b then .ok true S else h ρ S := rfl
@[simp] theorem x_not (f : BM) : mNot f ρ S = (f ρ S).bind fun b S => .ok (!b) S := rfl
@[simp] theorem x_andV (f h : EM) : mAndV f h ρ S = (f ρ S).bind fun d S => (toB d S).bind fun b S => if b then h ρ S else .ok (.bl false) S := rfl
@[simp] theorem x_orV (f h : EM) : mOrV f h ρ S = (f ρ S).bind fun d S => (toB d S).bind fun b S => if b then .ok (.bl true) S else h ρ S := rfl
@[simp] theorem x_notV (f : EM) : mNotV f ρ S = (f ρ S).bind fun d S => (toB d S).bind fun b S => .ok (.bl (!b)) S := rfl
@[simp] theorem x_if (c : BM) (f h : EM) : mIf c f h ρ S = (c ρ S).bind fun b S => if b then f ρ S else h ρ S := rfl
@[simp] theorem x_next : mNext ρ S = .go .nx ρ S := rfl
@[simp] theorem x_brk : mBreak ρ S = .go .bk ρ S := rfl
@[simp] theorem x_cont : mCont ρ S = .go .ct ρ S := rfl
@[simp] theorem x_seq (f h : SM) : mSeq f h ρ S = (f ρ S).then h := rfl
@[simp] theorem x_drop (f : EM) : mDrop f ρ S = (f ρ S).to ρ fun _ S => .go .nx ρ S := rfl
@[simp] theorem x_ret (f : EM) : mRet f ρ S = (f ρ S).to ρ fun d S => .go (.rt d) ρ S := rfl
@[simp] theorem x_retN : mRetN ρ S = .go (.rt .non) ρ S := rfl
@[simp] theorem x_ifS (c : BM) (f h : SM) : mIfS c f h ρ S = (c ρ S).to ρ fun b S => if b then f ρ S else h ρ S := rfl
@[simp] theorem x_gN (i : Nat) (d : D) : gN i d ρ S = some (ρ.set i (some d), S) := rfl
@[simp] theorem x_gNil : gNilM [] ρ S = some (ρ, S) := rfl
@[simp] theorem x_gCons (f : GM) (r : List D → Env → Store → Option (Env × Store)) (d : D) (ds : List D) : gConsM f r (d :: ds) ρ S = (f d ρ S).bind fun x => r ds x.1 x.2 := rfl
@[simp] theorem x_gTup (n : Nat) (r : List D → Env → Store → Option (Env × Store)) (l : List D) : gTupM n r (.tup l) ρ S = if l.length = n then r l ρ S else none := rfl
@[simp] theorem x_gTupW (n : Nat) (r : List D → Env → Store → Option (Env × Store)) (l : List D) : gTupM n r (.wt l) ρ S = if l.length = n then r l ρ S else none := rfl
@[simp] theorem x_gTupL (n : Nat) (r : List D → Env → Store → Option (Env × Store)) (l : List D) : gTupM n r (.lst l) ρ S = if l.length = n then r l ρ S else none := rfl
@[simp] theorem x_asg (f : EM) (g : GM) : mAsg f g ρ S = (f ρ S).to ρ fun d S => match g d ρ S with
  | some (ρ', S') => .go .nx ρ' S'
  | none => .stuck := rfl
@[simp] theorem x_par (i j : Nat) (a b : EM) : mPar i j a b ρ S = ((a ρ S).bind fun x S => (b ρ S).bind fun y S => .ok (x, y) S).to ρ fun z S => .go .nx ((ρ.set i (some z.1)).set j (some z.2)) S := rfl
@[simp] theorem x_aug (i : Nat) (m : D → D → M D) (f : EM) : mAug i m f ρ S = ((mVar i ρ S).bind fun x S => (f ρ S).bind fun y S => m x y S).to ρ fun z S => .go .nx (ρ.set i (some z)) S := rfl
@[simp] theorem x_call (n : Nat) (m : List D → M D) (a : AM) : mCall n m a ρ S = (a ρ S).bind fun ds S => if ds.length = n then m ds S else .stuck := rfl
@[simp] theorem x_tup (a : AM) : mTup a ρ S = (a ρ S).bind fun l S => if l.length ≤ sizeLine then .ok (.tup l) S else .stuck := rfl
@[simp] theorem x_lst (a : AM) : mLst a ρ S = (a ρ S).bind fun l S => if l.length ≤ sizeLine then .ok (.lst l) S else .stuck := rfl
@[simp] theorem x_new (a : AM) : mNew a ρ S = (a ρ S).bind fun l S => if l.length ≤ sizeLine then .ok (.ref S.length) (S ++ [.lst l]) else .stuck := rfl
@[simp] theorem x_frz (f : EM) : mFrz f ρ S = (f ρ S).bind frzD := rfl
@[simp] theorem x_cb (m : List D → M D) (a : AM) : mCB m a ρ S = (a ρ S).bind m := rfl
@[simp] theorem x_noP : mNoP ρ S = .ok none S := rfl
@[simp] theorem x_part (f : EM) (i : Int) (S' : Store) (h : f ρ S = .ok (.int i) S') (hi : -(2 ^ 62) ≤ i ∧ i < 2 ^ 62) : mPart f ρ S = .ok (some i) S' := by
  unfold mPart; rw [h]; simp only [R.bind_ok]
@[simp] theorem x_sl (f : EM) (l h : PM) : mSl f l h ρ S = (f ρ S).bind fun x S => (l ρ S).bind fun l S => (h ρ S).bind fun h S => slD x l h S := rfl
@[simp] theorem x_yes : mYes ρ S = .ok true S := rfl
@[simp] theorem x_it (f : EM) : mIt f ρ S = (f ρ S).bind itemsD := rfl
@[simp] theorem x_itT (l : List D) : itemsD (.tup l) S = .ok l S := rfl
@[simp] theorem x_itL (l : List D) : itemsD (.lst l) S = .ok l S := rfl
@[simp] theorem x_raise (c : Str) : mRaise c ρ S = .go (.ex (.exc c [] [])) ρ S := rfl
@[simp] theorem x_for (fi : IM) (gm : GM) (fb : SM) : mFor fi gm fb ρ S = (fi ρ S).to ρ fun ds S => mForL gm fb ds ρ S := rfl
@[simp] theorem x_range1 (j : Int) : mRange1 (mC (.int j)) ρ S = if -(2 ^ 62) ≤ j ∧ j < 2 ^ 62 then .ok (rangeL 0 j.toNat) S else .stuck := rfl
@[simp] theorem x_forNil (gm : GM) (fb : SM) : mForL gm fb [] ρ S = .go .nx ρ S := rfl
@[simp] theorem x_lc (fin : List D → M D) (vs : List Nat) (fi : IM) (gm : GM) (tt : BM) (te : EM) : mLcF fin vs fi gm tt te ρ S = (fi ρ S).bind fun ds S => if ds.length ≤ sizeLine then (mLcL gm tt te (wipeD ρ vs) ds S).bind fin else .stuck := rfl
@[simp] theorem x_fun (n : Nat) (b : SM) (ds : List D) : mFun n b ds S = match b (start0 n ds) S with
  | .go .nx _ S => .ok .non S
  | .go (.rt d) _ S => .ok d S
  | .go (.ex e) _ S => .exn e S
  | _ => .stuck := rfl
@[simp] theorem x_add (i j : Int) : addD (.int i) (.int j) S = .ok (.int (i + j)) S := rfl
@[simp] theorem x_addB (i : Int) (j : Bool) : addD (.int i) (.bl j) S = .ok (.int (i + b2 j)) S := rfl
@[simp] theorem x_sub (i j : Int) : subD (.int i) (.int j) S = .ok (.int (i - j)) S := rfl
@[simp] theorem x_subB (i j : Bool) : subD (.bl i) (.bl j) S = .ok (.int (b2 i - b2 j)) S := rfl
@[simp] theorem x_mul (i j : Int) : mulD (.int i) (.int j) S = if i.natAbs.log2 + j.natAbs.log2 < 1000000 then .ok (.int (i * j)) S else .stuck := rfl
@[simp] theorem x_fdiv (i j : Int) : fdivD (.int i) (.int j) S = if j ≠ 0 ∧ j.natAbs.log2 < 9000 then .ok (.int (i.fdiv j)) S else .stuck := rfl
@[simp] theorem x_mod (i j : Int) : modD (.int i) (.int j) S = if j ≠ 0 then .ok (.int (i.fmod j)) S else .stuck := rfl
@[simp] theorem x_pow (i j : Int) : powD (.int i) (.int j) S = if 0 ≤ j ∧ j ≤ 1000000 ∧ i.natAbs < 2 ^ 64 then .ok (.int (i ^ j.toNat)) S else .stuck := rfl
@[simp] theorem x_neg (i : Int) : negD (.int i) S = .ok (.int (-i)) S := rfl
@[simp] theorem x_cmp (p : Int → Int → Bool) (i j : Int) : cmpD p (.int i) (.int j) S = .ok (.bl (p i j)) S := rfl
@[simp] theorem x_abs (i : Int) : absD (.int i) S = .ok (.int (if i < 0 then -i else i)) S := rfl
@[simp] theorem x_lenL (l : List D) : lenD (.lst l) S = .ok (.int l.length) S := rfl
@[simp] theorem x_lenT (l : List D) : lenD (.tup l) S = .ok (.int l.length) S := rfl
@[simp] theorem x_tupL (l : List D) : tupleD (.lst l) S = .ok (.tup l) S := rfl
@[simp] theorem x_tupT (l : List D) : tupleD (.tup l) S = .ok (.tup l) S := rfl
@[simp] theorem x_listL (l : List D) : listD (.lst l) S = .ok (.lst l) S := rfl
@[simp] theorem x_listT (l : List D) : listD (.tup l) S = .ok (.lst l) S := rfl
@[simp] theorem x_eqI (i j : Int) : eqD (.int i) (.int j) S = .ok (.bl (i == j)) S := rfl
@[simp] theorem x_neI (i j : Int) : neD (.int i) (.int j) S = .ok (.bl (!(i == j))) S := rfl
@[simp] theorem x_isN (d : D) : isND d .non S = .ok (.bl (isNon d)) S := rfl
@[simp] theorem x_notN (d : D) : notND d .non S = .ok (.bl (!isNon d)) S := rfl
@[simp] theorem x_ixT (l : List D) (i : Int) : ixD (.tup l) (.int i) S = match atI l i with
  | some d => .ok d S
  | none => .stuck := rfl
@[simp] theorem x_ixL (l : List D) (i : Int) : ixD (.lst l) (.int i) S = match atI l i with
  | some d => .ok d S
  | none => .stuck := rfl
end
theorem atI_nat {α : Type} (l : List α) (i : Nat) : atI l (i : Int) = l[i]? := by
  unfold atI ixN
  by_cases h : i < l.length
  · rw [if_pos (by omega), if_pos (by omega)]; rfl
  · rw [if_pos (by omega), if_neg (by omega), List.getElem?_eq_none (by omega)]; rfl
@[simp] theorem atI_0 {α : Type} (x : α) (l : List α) : atI (x :: l) 0 = some x := atI_nat _ 0
@[simp] theorem atI_1 {α : Type} (x y : α) (l : List α) : atI (x :: y :: l) 1 = some y := atI_nat _ 1
@[simp] theorem atI_2 {α : Type} (x y z : α) (l : List α) : atI (x :: y :: z :: l) 2 = some z := atI_nat _ 2
@[simp] theorem atI_3 {α : Type} (x y z t : α) (l : List α) : atI (x :: y :: z :: t :: l) 3 = some t := atI_nat _ 3
@[simp] theorem b2_t : b2 true = 1 := rfl
@[simp] theorem b2_f : b2 false = 0 := rfl
@[simp] theorem start_def (n : Nat) (ds : List D) : start0 n ds = ds.map some ++ List.replicate (n - ds.length) none := rfl

/-! ### sizes -/
def Sz (n : Nat) (z : Int) : Prop := z.natAbs < 2 ^ n
theorem Sz.mono {m n : Nat} {z : Int} (h : Sz n z) (k : n ≤ m) : Sz m z := Nat.lt_of_lt_of_le h (Nat.pow_le_pow_right (by decide) k)
theorem Sz.mul {m n : Nat} {x y : Int} (h : Sz m x) (k : Sz n y) : Sz (m + n) (x * y) := by
  unfold Sz at *
  rw [Int.natAbs_mul, Nat.pow_add]
  exact Nat.mul_lt_mul'' h k
theorem Sz.add {n : Nat} {x y : Int} (h : Sz n x) (k : Sz n y) : Sz (n + 1) (x + y) := by
  unfold Sz at *
  rw [Nat.pow_succ]; omega
theorem Sz.sub {n : Nat} {x y : Int} (h : Sz n x) (k : Sz n y) : Sz (n + 1) (x - y) := by
  unfold Sz at *
  rw [Nat.pow_succ]; omega
theorem Sz.neg {n : Nat} {x : Int} (h : Sz n x) : Sz n (-x) := by
  unfold Sz at *
  omega
theorem Sz.log2 {n : Nat} {x : Int} (h : Sz n x) : x.natAbs.log2 ≤ n := by
  by_cases z : x.natAbs = 0
  · rw [z]; simp
  · exact Nat.le_of_lt ((Nat.log2_lt z).mpr h)
theorem Sz.log2' {n : Nat} {x : Int} (h : Sz n x) (hn : 0 < n) : x.natAbs.log2 < n := by
  by_cases z : x.natAbs = 0
  · rw [z]; simpa using hn
  · exact (Nat.log2_lt z).mpr h
theorem mul_ok {m n : Nat} {x y : Int} (S : Store) (h : Sz m x) (k : Sz n y) (hn : m + n < 1000000) : mulD (.int x) (.int y) S = .ok (.int (x * y)) S := by
  rw [x_mul, if_pos]
  have := h.log2; have := k.log2; omega
theorem fdiv_ok {n : Nat} {x y : Int} (S : Store) (h : Sz n y) (hn : n < 9000) (h0 : y ≠ 0) : fdivD (.int x) (.int y) S = .ok (.int (x.fdiv y)) S := by
  rw [x_fdiv, if_pos]
  have := h.log2
  exact ⟨h0, by omega⟩
theorem mod_ok {x y : Int} (S : Store) (h0 : y ≠ 0) : modD (.int x) (.int y) S = .ok (.int (x.fmod y)) S := by
  rw [x_mod, if_pos h0]

/-! ### Euclid -/
theorem fmod_lt {x y : Int} (h : y ≠ 0) : (x.fmod y).natAbs < y.natAbs := by
  rcases Int.lt_or_gt_of_ne h with h | h
  · have e : x.fmod y = -((-x).fmod (-y)) := by
      rw [Int.fmod_def, Int.fmod_def, Int.neg_fdiv_neg, Int.neg_mul]; omega
    have h1 := Int.fmod_lt_of_pos (-x) (b := -y) (by omega)
    have h2 := Int.fmod_nonneg_of_pos (-x) (b := -y) (by omega)
    omega
  · have h1 := Int.fmod_lt_of_pos x h
    have h2 := Int.fmod_nonneg_of_pos x h
    omega
theorem fmod_gcd (x y : Int) : Int.gcd y (x.fmod y) = Int.gcd x y := by
  rw [Int.fmod_def, Int.gcd_sub_mul_left_right, Int.gcd_comm]
def euB (i j : Nat) : SM := mPar i j (mVar j) (mOp modD (mVar i) (mVar j))
def euC (j : Nat) : BM := mB (mOp neD (mVar j) (mC (.int 0)))
theorem eu_loop {i j : Nat} (hij : i ≠ j) : ∀ (n : Nat) (ρ : Env) (x y : Int) (S : Store), ρ[i]? = some (some (.int x)) → ρ[j]? = some (some (.int y)) → y.natAbs ≤ n →
    ∃ g : Int, mWhile (mB (mOp neD (mVar j) (mC (.int 0)))) (mPar i j (mVar j) (mOp modD (mVar i) (mVar j))) ρ S = .go .nx ((ρ.set i (some (.int g))).set j (some (.int 0))) S ∧ g.natAbs = Int.gcd x y ∧ (0 ≤ x → 0 ≤ y → 0 ≤ g) := by
  intro n
  induction n with
  | zero =>
    intro ρ x y S hi hj hy
    have hy0 : y = 0 := by omega
    subst hy0
    refine ⟨x, ?_, by simp, fun h _ => h⟩
    rw [mWhile_eq]
    simp [hj]
    have : (ρ.set i (some (D.int x))).set j (some (D.int 0)) = ρ := by
      apply List.ext_getElem?
      intro k
      by_cases h1 : j = k
      · subst h1
        have := (List.getElem?_eq_some_iff.mp hj).1
        rw [List.getElem?_set_self (by simpa using this), hj]
      · rw [List.getElem?_set_ne h1]
        by_cases h2 : i = k
        · subst h2
          have := (List.getElem?_eq_some_iff.mp hi).1
          rw [List.getElem?_set_self this, hi]
        · rw [List.getElem?_set_ne h2]
    rw [this]
  | succ n ih =>
    intro ρ x y S hi hj hy
    by_cases hy0 : y = 0
    · subst hy0
      exact ih ρ x 0 S hi hj (by simp)
    · have hil := (List.getElem?_eq_some_iff.mp hi).1
      have hjl := (List.getElem?_eq_some_iff.mp hj).1
      have hl := fmod_lt (x := x) hy0
      obtain ⟨g, h1, h2, h3⟩ := ih ((ρ.set i (some (.int y))).set j (some (.int (x.fmod y)))) y (x.fmod y) S
        (by rw [List.getElem?_set_ne (Ne.symm hij), List.getElem?_set_self hil]) (by rw [List.getElem?_set_self (by simpa using hjl)]) (by omega)
      refine ⟨g, ?_, by rw [h2, fmod_gcd], fun hx hyy => h3 hyy (Int.fmod_nonneg_of_pos x (by omega))⟩
      rw [mWhile_eq]
      simp [hj, hi, hy0]
      rw [h1]
      congr 1
      rw [List.set_comm _ _ hij, List.set_set, List.set_comm _ _ (Ne.symm hij), List.set_set]
end DL

/-! Plain laws, 2: fractions as rationals. -/
namespace DL
open PySem PySem.Spec PyProof.Rows L2

/-- the pair that stands for a rational -/
def fr (q : Rat) : D := .tup [.int q.num, .int q.den]
def RS (n : Nat) (q : Rat) : Prop := Sz n q.num ∧ q.den < 2 ^ n
theorem RS.mono {m n : Nat} {q : Rat} (h : RS m q) (k : m ≤ n) : RS n q := ⟨h.1.mono k, Nat.lt_of_lt_of_le h.2 (Nat.pow_le_pow_right (by decide) k)⟩
theorem RS.den {m : Nat} {q : Rat} (h : RS m q) : Sz m (q.den : Int) := by
  unfold Sz; simpa using h.2
theorem den_ne (q : Rat) : (q.den : Int) ≠ 0 := by have := q.den_nz; omega
theorem den_pos (q : Rat) : (0 : Int) < q.den := by have := q.den_nz; omega
theorem divInt_parts {t b g : Int} (hb : b ≠ 0) (hg : g.natAbs = Int.gcd t b) (h1 : 0 < b → 0 ≤ g) (h2 : b < 0 → g ≤ 0) :
    g ≠ 0 ∧ t.fdiv g = (Rat.divInt t b).num ∧ b.fdiv g = ((Rat.divInt t b).den : Int) := by
  have hgc : Int.gcd t b ≠ 0 := by
    intro z
    exact hb (Int.gcd_eq_zero_iff.mp z).2
  have g0 : g ≠ 0 := by omega
  have dt : ((Int.gcd t b : Nat) : Int) ∣ t := Int.gcd_dvd_left t b
  have db : ((Int.gcd t b : Nat) : Int) ∣ b := Int.gcd_dvd_right t b
  refine ⟨g0, ?_, ?_⟩
  · rw [Rat.num_divInt, Int.gcd_comm b t]
    rcases Int.lt_or_gt_of_ne hb with h | h
    · have e : g = -((Int.gcd t b : Nat) : Int) := by have := h2 h; omega
      rw [Int.sign_eq_neg_one_of_neg h, e, Int.fdiv_eq_ediv_of_dvd (by rw [Int.neg_dvd]; exact dt), Int.ediv_neg, ← Int.neg_ediv_of_dvd dt, Int.neg_one_mul]
    · have e : g = ((Int.gcd t b : Nat) : Int) := by have := h1 h; omega
      rw [Int.sign_eq_one_of_pos h, e, Int.fdiv_eq_ediv_of_dvd dt, Int.one_mul]
  · rw [Rat.den_divInt, if_neg hb, Int.gcd_comm b t]
    rcases Int.lt_or_gt_of_ne hb with h | h
    · have e : g = -((Int.gcd t b : Nat) : Int) := by have := h2 h; omega
      have eb : b = -((b.natAbs : Nat) : Int) := by omega
      rw [e, Int.fdiv_eq_ediv_of_dvd (by rw [Int.neg_dvd]; exact db), Int.ediv_neg, ← Int.neg_ediv_of_dvd db]
      rw [Int.natCast_ediv]
      congr 1; omega
    · have e : g = ((Int.gcd t b : Nat) : Int) := by have := h1 h; omega
      rw [e, Int.fdiv_eq_ediv_of_dvd db, Int.natCast_ediv]
      congr 1; omega
theorem RS.divInt {n : Nat} {t b : Int} (ht : Sz n t) (hb : Sz n b) (hn : 0 < n) : RS n (Rat.divInt t b) := by
  constructor
  · unfold Sz at *
    rw [Rat.num_divInt]
    refine Nat.lt_of_le_of_lt ?_ ht
    rw [Int.natAbs_ediv_of_dvd]
    · refine Nat.le_trans (Nat.div_le_self _ _) ?_
      rw [Int.natAbs_mul]
      have : b.sign.natAbs ≤ 1 := by
        rw [Int.natAbs_sign]; split <;> omega
      calc b.sign.natAbs * t.natAbs ≤ 1 * t.natAbs := Nat.mul_le_mul_right _ this
        _ = t.natAbs := Nat.one_mul _
    · exact Int.dvd_mul_of_dvd_right (Int.gcd_dvd_right b t)
  · rw [Rat.den_divInt]
    split
    · exact Nat.one_lt_two_pow (by omega)
    · exact Nat.lt_of_le_of_lt (Nat.div_le_self _ _) hb
theorem add_eq (q r : Rat) : Rat.divInt (q.num * r.den + r.num * q.den) (q.den * r.den) = q + r := by
  rw [← Rat.divInt_add_divInt _ _ (den_ne q) (den_ne r), Rat.num_divInt_den, Rat.num_divInt_den]
theorem sub_eq (q r : Rat) : Rat.divInt (q.num * r.den - r.num * q.den) (q.den * r.den) = q - r := by
  rw [← Rat.divInt_sub_divInt _ _ (den_ne q) (den_ne r), Rat.num_divInt_den, Rat.num_divInt_den]
theorem mul_eq (q r : Rat) : Rat.divInt (q.num * r.num) (q.den * r.den) = q * r := by
  rw [← Rat.divInt_mul_divInt, Rat.num_divInt_den, Rat.num_divInt_den]
theorem div_eq (q r : Rat) : Rat.divInt (q.num * r.den) (q.den * r.num) = q / r := by
  rw [← Rat.divInt_mul_divInt, Rat.num_divInt_den, Rat.div_def, Rat.inv_def]
theorem neg_fr (q : Rat) : D.tup [.int (-q.num), .int q.den] = fr (-q) := by
  unfold fr; rw [Rat.neg_num, Rat.neg_den]
@[simp] theorem ix_fr0 (q : Rat) (S : Store) : ixD (fr q) (.int 0) S = .ok (.int q.num) S := rfl
@[simp] theorem ix_fr1 (q : Rat) (S : Store) : ixD (fr q) (.int 1) S = .ok (.int q.den) S := rfl
theorem RS.neg {n : Nat} {q : Rat} (h : RS n q) : RS n (-q) := by
  unfold RS; rw [Rat.neg_num, Rat.neg_den]; exact ⟨h.1.neg, h.2⟩
theorem RS.add {m n : Nat} {q r : Rat} (h : RS m q) (k : RS n r) : RS (m + n + 1) (q + r) := by
  rw [← add_eq]
  refine RS.divInt ((h.1.mul k.den).add ((k.1.mul h.den).mono (by omega))) ((h.den.mul k.den).mono (by omega)) (by omega)
theorem RS.sub {m n : Nat} {q r : Rat} (h : RS m q) (k : RS n r) : RS (m + n + 1) (q - r) := by
  rw [← sub_eq]
  refine RS.divInt ((h.1.mul k.den).sub ((k.1.mul h.den).mono (by omega))) ((h.den.mul k.den).mono (by omega)) (by omega)
theorem RS.pos {n : Nat} {q : Rat} (h : RS n q) : 0 < n := by
  have h1 := h.2
  have h2 := q.den_nz
  rcases Nat.eq_zero_or_pos n with z | z
  · subst z; simp at h1; omega
  · exact z
theorem RS.mul {m n : Nat} {q r : Rat} (h : RS m q) (k : RS n r) : RS (m + n) (q * r) := by
  rw [← mul_eq]
  exact RS.divInt (h.1.mul k.1) (h.den.mul k.den) (by have := h.pos; omega)
theorem RS.div {m n : Nat} {q r : Rat} (h : RS m q) (k : RS n r) : RS (m + n) (q / r) := by
  rw [← div_eq]
  exact RS.divInt (h.1.mul k.den) (h.den.mul k.1) (by have := h.pos; omega)
theorem RS.zero : RS 1 0 := by
  refine ⟨?_, ?_⟩ <;> simp [Sz] <;> decide
theorem RS.int {n : Nat} {z : Int} (h : Sz n z) (hn : 0 < n) : RS n (z : Rat) := by
  refine ⟨?_, ?_⟩
  · simpa using h
  · simp; omega
end DL

/-! Plain laws, 3: what is shown, what is equal. -/
namespace DL
open PySem PySem.Spec PyProof.Rows L2

mutual
/-- all ints of a datum are less than n bits long -/
def szD (n : Nat) : D → Prop
  | .int i => Sz n i
  | .tup l => szDs n l
  | .lst l => szDs n l
  | _ => True
def szDs (n : Nat) : List D → Prop
  | [] => True
  | d :: ds => szD n d ∧ szDs n ds
end
theorem pow_digits : 2 ^ 14000 ≤ 10 ^ 4300 := by decide +kernel
mutual
theorem shw_few : ∀ (d : D) (n : Nat), szD 14000 d → plain n d = true → fewB (toPy d) = true ∧ (toPy d).leavesShort 4301 = true
  | .non, _, _, _ => ⟨rfl, rfl⟩
  | .bl _, _, _, _ => ⟨rfl, rfl⟩
  | .int i, _, h, _ => by
    simp only [szD] at h
    have h1 : i.natAbs < 10 ^ 4300 := Nat.lt_of_lt_of_le h pow_digits
    refine ⟨by simp only [toPy, fewB]; exact decide_eq_true h1, ?_⟩
    simp only [toPy, PyData.leavesShort]
    refine decide_eq_true ?_
    have e := int_text_length_le10 (a := i) (k := 4300) (by decide) h1
    show (Str.ofString (toString i)).length ≤ 4301
    rw [PySem.ofString_length]; exact e
  | .str x, _, _, h => by
    refine ⟨rfl, ?_⟩
    have hx : PyData.strOk x = true := by simpa [plain] using h
    have := PyData.leavesShort_of_canLay0 4301 (.str x) (by simpa [PyData.canLay0] using hx) rfl
    simpa [toPy] using this
  | .tup l, 0, _, hp => by simp [plain] at hp
  | .tup l, n + 1, h, hp => by
    simp only [szD] at h
    simp only [plain] at hp
    simpa [toPy, fewB, PyData.leavesShort] using shws_few l n h hp
  | .lst l, 0, _, hp => by simp [plain] at hp
  | .lst l, n + 1, h, hp => by
    simp only [szD] at h
    simp only [plain] at hp
    simpa [toPy, fewB, PyData.leavesShort] using shws_few l n h hp
  | .wt .., _, _, hp => by simp [plain] at hp
  | .obj .., _, _, hp => by simp [plain] at hp
  | .exc .., _, _, hp => by simp [plain] at hp
  | .ref .., _, _, hp => by simp [plain] at hp
theorem shws_few : ∀ (ds : List D) (n : Nat), szDs 14000 ds → plains n ds = true → fewsB (toPys ds) = true ∧ PyData.leavesShortAll 4301 (toPys ds) = true
  | [], _, _, _ => ⟨rfl, rfl⟩
  | d :: ds, n, h, hp => by
    simp only [szDs] at h
    simp only [plains, Bool.and_eq_true] at hp
    have h1 := shw_few d n h.1 hp.1
    have h2 := shws_few ds n h.2 hp.2
    simp [toPys, fewsB, PyData.leavesShortAll, h1, h2]
end
/-- a datum that repr shows -/
structure Shw (d : D) : Prop where
  p : plain 63 d = true
  s : fewB (toPy d) = true
  l : (toPy d).shown.length ≤ sizeLine
theorem shw_of {d : D} (hp : plain 63 d = true) (hs : szD 14000 d) (hb : (toPy d).bulk ≤ 3800) : Shw d := by
  obtain ⟨h1, h2⟩ := shw_few d 63 hs hp
  refine ⟨hp, h1, ?_⟩
  have := PyData.shown_le_bulk 4301 (by decide) _ h2
  have e : sizeLine = 16777216 := rfl
  have : (4301 + 2) * (toPy d).bulk ≤ 4303 * 3800 := Nat.mul_le_mul_left _ hb
  omega
theorem der_plain {d : D} {n : Nat} (S : Store) (h : plain n d = true) : derD d S = d := by
  cases d <;> first | rfl | (simp [plain] at h)
theorem repr_ok {d : D} (S : Store) (h : Shw d) : reprD d S = .ok (.str (toPy d).shown) S := by
  unfold reprD
  rw [der_plain S h.p]
  simp [h.p, h.s, h.l]
/-- equal texts -/
theorem eq_str (x y : Str) (S : Store) : eqD (.str x) (.str y) S = .ok (.bl (x == y)) S := rfl
theorem shw_fr {n : Nat} {q : Rat} (h : RS n q) (hn : n ≤ 14000) : Shw (fr q) :=
  shw_of rfl (by simp only [fr, szD, szDs]; exact ⟨h.1.mono hn, h.den.mono hn, trivial⟩) (by simp [fr, toPy, toPys, PyData.bulk, PyData.bulkAll])
theorem shw_pt {m n : Nat} {q r : Rat} (h : RS m q) (k : RS n r) (hm : m ≤ 14000) (hn : n ≤ 14000) : Shw (.tup [fr q, fr r]) :=
  shw_of rfl (by simp only [fr, szD, szDs]; exact ⟨⟨h.1.mono hm, h.den.mono hm, trivial⟩, ⟨k.1.mono hn, k.den.mono hn, trivial⟩, trivial⟩) (by simp [fr, toPy, toPys, PyData.bulk, PyData.bulkAll])
end DL

/-! Plain laws, 4: steps of exceptions, of methods. -/
namespace DL
open PySem PySem.Spec PyProof.Rows L2
section
variable (ρ : Env) (S : Store)
@[simp] theorem x_met (ok : D → Store → Bool) (m : D → List D → M D) (fo : EM) (fa : AM) : mMet ok m fo fa ρ S = (fo ρ S).bind fun o S => if ok o S then (fa ρ S).bind fun ds S => m o ds S else .stuck := rfl
@[simp] theorem x_metA (ok : D → Store → Bool) (m : D → List D → M D) (fo : EM) (fa : AM) : mMetA ok m fo fa ρ S = (fo ρ S).bind fun o S => if ok o S then (fa ρ S).bind fun ds S => if ok o S then m o ds S else .stuck else .stuck := rfl
@[simp] theorem x_is (T : String) (tab : List (Str × Bool)) (fe : EM) : mIs T tab fe ρ S = (fe ρ S).bind (isD T tab) := rfl
@[simp] theorem x_isC (tab : List (Str × Bool)) (fe : EM) : mIsC tab fe ρ S = (fe ρ S).bind (isC tab) := rfl
@[simp] theorem x_isCe (tab : List (Str × Bool)) (c : Str) (ns : List Str) (ds : List D) : isC tab (.exc c ns ds) S = match tab.lookup c with
  | some b => .ok (.bl b) S
  | none => .stuck := rfl
@[simp] theorem x_isDe (T : String) (tab : List (Str × Bool)) (c : Str) (ns : List Str) (ds : List D) : isD T tab (.exc c ns ds) S = match tab.lookup c with
  | some b => .ok (.bl b) S
  | none => .stuck := rfl
@[simp] theorem x_xf (cs : List Str) (f : Str) (fe : EM) : mXfC cs f fe ρ S = (fe ρ S).bind (xfC cs f) := rfl
@[simp] theorem x_try (cs : List Str) (i j : Nat) (b : SM) : mTryK cs i j b ρ S = match b ρ S with
  | .go (.ex (.exc c ns ds)) ρ' S' => if cs.contains c && decide (i < ρ'.length) then .go .nx (((ρ'.set i (some (.exc c ns ds))).set j (some (.exc c ns ds))).set i none) S' else .stuck
  | .go (.ex _) _ _ => .stuck
  | o => o := rfl
end
/-- the store has grown, what was there (but for u) stands -/
structure Ext (u : Nat) (S S' : Store) : Prop where
  len : S.length ≤ S'.length
  at_ : ∀ n, n < S.length → n ≠ u → S'[n]? = S[n]?
theorem Ext.refl (u : Nat) (S : Store) : Ext u S S := ⟨Nat.le_refl _, fun _ _ _ => rfl⟩
theorem Ext.trans {u : Nat} {S S1 S2 : Store} (h : Ext u S S1) (k : Ext u S1 S2) : Ext u S S2 := ⟨Nat.le_trans h.len k.len, fun n hn hu => (k.at_ n (Nat.lt_of_lt_of_le hn h.len) hu).trans (h.at_ n hn hu)⟩
theorem Ext.app (u : Nat) (S X : Store) : Ext u S (S ++ X) := ⟨by simp, fun n hn _ => List.getElem?_append_left hn⟩
end DL

/-! Plain laws: faces near a face, in their order. -/
namespace DL
open PySem PySem.Spec PyProof.Rows L2
/-- all choices, in order -/
def prodF : List (List Int) → List (List Int)
  | [] => [[]]
  | o :: os => o.flatMap fun v => (prodF os).map (v :: ·)
/-- .. built from the left -/
theorem prod_left : ∀ (os acc : List (List Int)), os.foldl (fun found o => found.flatMap fun one => o.map fun v => one ++ [v]) acc = acc.flatMap fun one => (prodF os).map (one ++ ·)
  | [], acc => by simp [prodF]
  | o :: os, acc => by
    rw [List.foldl_cons, prod_left os]
    simp only [prodF, List.flatMap_assoc]
    congr 1
    funext one
    rw [List.flatMap_map, List.map_flatMap]
    congr 1
    funext v
    rw [List.map_map]
    congr 1
    funext t
    simp
def free3 (h : List Int) : List (List Int) := h.map fun v => if v = 0 then [1, 0, -1] else [v]
def free2 (h : List Int) : List (List Int) := h.map fun v => if v = 0 then [1, -1] else [v]
/-- all faces that agree with h where it is not 0; the patches, the edges among them -/
def allF (h : List Int) : List (List Int) := prodF (free3 h)
def patF (h : List Int) : List (List Int) := prodF (free2 h)
def edgF : List Int → List (List Int)
  | [] => []
  | v :: h => if v = 0 then (edgF h).map (1 :: ·) ++ ((patF h).map (0 :: ·) ++ (edgF h).map (-1 :: ·)) else (edgF h).map (v :: ·)
theorem patF_cons (v : Int) (h : List Int) : patF (v :: h) = if v = 0 then (patF h).map (1 :: ·) ++ (patF h).map (-1 :: ·) else (patF h).map (v :: ·) := by
  unfold patF free2
  by_cases z : v = 0
  · simp [z, prodF]
  · simp [z, prodF]
theorem allF_cons (v : Int) (h : List Int) : allF (v :: h) = if v = 0 then (allF h).map (1 :: ·) ++ ((allF h).map (0 :: ·) ++ (allF h).map (-1 :: ·)) else (allF h).map (v :: ·) := by
  unfold allF free3
  by_cases z : v = 0
  · simp [z, prodF]
  · simp [z, prodF]
theorem filt_cons {v : Int} (hv : v ≠ 0) (n : Nat) (l : List (List Int)) : (l.map (v :: ·)).filter (fun f => f.count 0 == n) = (l.filter fun f => f.count 0 == n).map (v :: ·) := by
  rw [List.filter_map]
  congr 1
  apply List.filter_congr
  intro x _
  simp [List.count_cons, hv]
theorem filt_cons0 (n : Nat) (l : List (List Int)) : (l.map ((0 : Int) :: ·)).filter (fun f => f.count 0 == n + 1) = (l.filter fun f => f.count 0 == n).map (0 :: ·) := by
  rw [List.filter_map]
  congr 1
  apply List.filter_congr
  intro x _
  simp [List.count_cons]
theorem filt_none (l : List (List Int)) : (l.map ((0 : Int) :: ·)).filter (fun f => f.count 0 == 0) = [] := by
  rw [List.filter_map, List.map_eq_nil_iff, List.filter_eq_nil_iff]
  intro x _
  simp [List.count_cons]
theorem allF_pat : ∀ h : List Int, (allF h).filter (fun f => f.count 0 == 0) = patF h
  | [] => rfl
  | v :: h => by
    rw [allF_cons, patF_cons]
    by_cases z : v = 0
    · simp only [z, if_true, List.filter_append]
      rw [filt_cons (v := 1) (by decide), filt_cons (v := -1) (by decide), filt_none, allF_pat h]
      simp
    · rw [if_neg z, if_neg z, filt_cons z, allF_pat h]
theorem allF_edg : ∀ h : List Int, (allF h).filter (fun f => f.count 0 == 1) = edgF h
  | [] => rfl
  | v :: h => by
    rw [allF_cons]
    unfold edgF
    by_cases z : v = 0
    · simp only [z, if_true, List.filter_append]
      rw [filt_cons (v := 1) (by decide), filt_cons (v := -1) (by decide), filt_cons0, allF_pat h, allF_edg h]
    · rw [if_neg z, if_neg z, filt_cons z, allF_edg h]
/-- strictly descending -/
def DescF (l : List (List Int)) : Prop := l.Pairwise fun a b => HT.lexLt a b = false
theorem desc_cons {v : Int} {l : List (List Int)} (h : DescF l) : DescF (l.map (v :: ·)) := by
  unfold DescF at *
  rw [List.pairwise_map]
  exact h.imp fun {a b} q => by rw [HT.lexLt_cons, if_pos rfl]; exact q
theorem lex_head {v w : Int} (h : w < v) (a b : List Int) : HT.lexLt (v :: a) (w :: b) = false := by
  rw [HT.lexLt_cons, if_neg (by omega)]
  exact decide_eq_false (by omega)
theorem allF_desc : ∀ h : List Int, DescF (allF h)
  | [] => List.pairwise_singleton _ _
  | v :: h => by
    have ih := allF_desc h
    rw [allF_cons]
    by_cases z : v = 0
    · simp only [z, if_true]
      unfold DescF
      rw [List.pairwise_append, List.pairwise_append]
      refine ⟨desc_cons ih, ⟨desc_cons ih, desc_cons ih, fun a ha b hb => ?_⟩, fun a ha b hb => ?_⟩
      · obtain ⟨x, _, rfl⟩ := List.mem_map.mp ha
        obtain ⟨y, _, rfl⟩ := List.mem_map.mp hb
        exact lex_head (by decide) x y
      · obtain ⟨x, _, rfl⟩ := List.mem_map.mp ha
        rcases List.mem_append.mp hb with hb | hb
        · obtain ⟨y, _, rfl⟩ := List.mem_map.mp hb
          exact lex_head (by decide) x y
        · obtain ⟨y, _, rfl⟩ := List.mem_map.mp hb
          exact lex_head (by decide) x y
    · rw [if_neg z]
      exact desc_cons ih
theorem edgF_desc (h : List Int) : DescF (edgF h) := by
  rw [← allF_edg]
  exact (allF_desc h).sublist List.filter_sublist
/-- the places of zeros -/
def zerosF : List Int → List Nat
  | [] => []
  | v :: h => if v = 0 then 0 :: (zerosF h).map (· + 1) else (zerosF h).map (· + 1)
/-- 1 and -1 at some places -/
def chG (f : List Int) (ps : List Nat) : List (List Int) := ps.foldl (fun found p => found.flatMap fun one => [one.set p 1, one.set p (-1)]) [f]
theorem ch_shift (v : Int) : ∀ (ps : List Nat) (l : List (List Int)), (ps.map (· + 1)).foldl (fun found p => found.flatMap fun one => [one.set p 1, one.set p (-1)]) (l.map (v :: ·)) = (ps.foldl (fun found p => found.flatMap fun one => [one.set p 1, one.set p (-1)]) l).map (v :: ·)
  | [], l => rfl
  | p :: ps, l => by
    rw [List.map_cons, List.foldl_cons, List.foldl_cons, ← ch_shift v ps]
    congr 1
    rw [List.flatMap_map, List.map_flatMap]
    rfl
theorem ch_skip (v : Int) (f : List Int) (ps : List Nat) : chG (v :: f) (ps.map (· + 1)) = (chG f ps).map (v :: ·) := ch_shift v ps [f]
theorem ch_app : ∀ (ps : List Nat) (l m : List (List Int)), ps.foldl (fun found p => found.flatMap fun one => [one.set p 1, one.set p (-1)]) (l ++ m) = ps.foldl (fun found p => found.flatMap fun one => [one.set p 1, one.set p (-1)]) l ++ ps.foldl (fun found p => found.flatMap fun one => [one.set p 1, one.set p (-1)]) m
  | [], l, m => rfl
  | p :: ps, l, m => by
    rw [List.foldl_cons, List.foldl_cons, List.foldl_cons, List.flatMap_append, ch_app ps]
theorem ch_take (v : Int) (f : List Int) (ps : List Nat) : chG (v :: f) (0 :: ps.map (· + 1)) = (chG f ps).map (1 :: ·) ++ (chG f ps).map (-1 :: ·) := by
  have h1 := ch_shift 1 ps [f]
  have h2 := ch_shift (-1) ps [f]
  unfold chG
  rw [List.foldl_cons]
  have e : ([v :: f] : List (List Int)).flatMap (fun one => [one.set 0 1, one.set 0 (-1)]) = [1 :: f] ++ [-1 :: f] := rfl
  rw [e, ch_app]
  exact congr (congrArg (· ++ ·) h1) h2
theorem ch_pat : ∀ h : List Int, chG h (zerosF h) = patF h
  | [] => rfl
  | v :: h => by
    rw [patF_cons]
    unfold zerosF
    by_cases z : v = 0
    · rw [if_pos z, if_pos z, ch_take, ch_pat h]
    · rw [if_neg z, if_neg z, ch_skip, ch_pat h]
/-- the edges as the package makes them -/
def edgG (h : List Int) : List (List Int) := (zerosF h).flatMap fun p => chG h ((zerosF h).filter fun q => q != p)
theorem filt_shift (ps : List Nat) (p : Nat) : (ps.map (· + 1)).filter (fun q => q != p + 1) = (ps.filter fun q => q != p).map (· + 1) := by
  rw [List.filter_map]
  congr 1
  apply List.filter_congr
  intro x _
  simp [bne]
theorem filt_zero (ps : List Nat) : (ps.map (· + 1)).filter (fun q => q != 0) = ps.map (· + 1) := by
  rw [List.filter_eq_self]
  intro x hx
  obtain ⟨y, _, rfl⟩ := List.mem_map.mp hx
  simp
theorem flat_two {α β : Type} (f g : α → List β) : ∀ l : List α, (l.flatMap fun x => f x ++ g x).Perm (l.flatMap f ++ l.flatMap g)
  | [] => List.Perm.refl _
  | x :: l => by
    simp only [List.flatMap_cons]
    have ih := flat_two f g l
    refine (List.Perm.append_left _ ih).trans ?_
    rw [List.append_assoc, List.append_assoc]
    refine List.Perm.append_left _ ?_
    rw [← List.append_assoc, ← List.append_assoc]
    exact List.Perm.append_right _ List.perm_append_comm
theorem edg_perm : ∀ h : List Int, (edgF h).Perm (edgG h)
  | [] => List.Perm.refl _
  | v :: h => by
    have ih := edg_perm h
    unfold edgG zerosF edgF
    by_cases z : v = 0
    · simp only [z, if_true, List.flatMap_cons, List.flatMap_map]
      have e1 : ((0 : Nat) :: (zerosF h).map (· + 1)).filter (fun q => q != 0) = (zerosF h).map (· + 1) := by
        rw [List.filter_cons, if_neg (by simp), filt_zero]
      have e2 : ∀ p : Nat, ((0 : Nat) :: (zerosF h).map (· + 1)).filter (fun q => q != p + 1) = 0 :: ((zerosF h).filter fun q => q != p).map (· + 1) := fun p => by
        rw [List.filter_cons, if_pos (by simp), filt_shift]
      rw [e1, ch_skip, ch_pat]
      simp only [e2, ch_take]
      refine List.Perm.trans ?_ (List.Perm.append_left _ (flat_two _ _ _).symm)
      have m : ∀ v : Int, ((zerosF h).flatMap fun p => (chG h ((zerosF h).filter fun q => q != p)).map (v :: ·)) = (edgG h).map (v :: ·) := fun v => by
        rw [edgG, List.map_flatMap]
      rw [m, m, ← List.append_assoc, ← List.append_assoc]
      exact List.Perm.append (List.perm_append_comm.trans (List.Perm.append_left _ (ih.map _))) (ih.map _)
    · simp only [if_neg z, List.flatMap_map]
      have e2 : ∀ p : Nat, ((zerosF h).map (· + 1)).filter (fun q => q != p + 1) = ((zerosF h).filter fun q => q != p).map (· + 1) := fun p => filt_shift _ _
      simp only [e2, ch_skip]
      rw [← List.map_flatMap]
      exact ih.map _
theorem edg_sorted (h : List Int) : (sortF (edgG h)).reverse = edgF h := by
  rw [sortF_eq (m := (edgF h).reverse) ((List.reverse_perm _).trans (edg_perm h)), List.reverse_reverse]
  rw [List.pairwise_reverse]
  exact edgF_desc h
theorem prod_len : ∀ (os : List (List Int)) (f : List Int), f ∈ prodF os → f.length = os.length
  | [], f, h => by simp [prodF] at h; simp [h]
  | o :: os, f, h => by
    simp only [prodF, List.mem_flatMap, List.mem_map] at h
    obtain ⟨v, _, t, ht, rfl⟩ := h
    simp [prod_len os t ht]
theorem allF_len {h f : List Int} (q : f ∈ allF h) : f.length = h.length := by
  have := prod_len _ _ q
  simpa [free3] using this
theorem patF_len {h f : List Int} (q : f ∈ patF h) : f.length = h.length := by
  rw [← allF_pat] at q
  exact allF_len (List.mem_filter.mp q).1
theorem edgF_len {h f : List Int} (q : f ∈ edgF h) : f.length = h.length := by
  rw [← allF_edg] at q
  exact allF_len (List.mem_filter.mp q).1
end DL

namespace DL
open PySem PySem.Spec PyProof.Rows L2
def k_ZERO : D := (.tup [(.int 0), (.int 1)])
def k_ONE : D := (.tup [(.int 1), (.int 1)])
def k_STILL : D := (.tup [k_ZERO, k_ZERO])
noncomputable def m_L_twin : List D → M D := mFun 2 (mRet (mOp eqD (mCB (one reprD) (mCons (mVar 0) mNil)) (mCB (one reprD) (mCons (mVar 1) mNil))))
noncomputable def m_L_low : List D → M D := mFun 4 (mSeq (mPar 2 3 (mCB (one absD) (mCons (mVar 0) mNil)) (mCB (one absD) (mCons (mVar 1) mNil)))
  (mSeq (mWhile (mB (mOp neD (mVar 3) (mC (.int 0)))) (mPar 2 3 (mVar 3) (mOp modD (mVar 2) (mVar 3))))
  (mSeq (mAsg (mIf (mB (mOp gtD (mVar 1) (mC (.int 0)))) (mVar 2) (mOp subD (mC (.int 0)) (mVar 2))) (gN 2))
  (mRet (mTup (mCons (mOp fdivD (mVar 0) (mVar 2)) (mCons (mOp fdivD (mVar 1) (mVar 2)) mNil)))))))
noncomputable def m_L_sum : List D → M D := mFun 2 (mRet (mCall 2 m_L_low (mCons (mOp addD (mOp mulD (mOp ixD (mVar 0) (mC (.int 0))) (mOp ixD (mVar 1) (mC (.int 1)))) (mOp mulD (mOp ixD (mVar 1) (mC (.int 0))) (mOp ixD (mVar 0) (mC (.int 1))))) (mCons (mOp mulD (mOp ixD (mVar 0) (mC (.int 1))) (mOp ixD (mVar 1) (mC (.int 1)))) mNil))))
noncomputable def m_L_product : List D → M D := mFun 2 (mRet (mCall 2 m_L_low (mCons (mOp mulD (mOp ixD (mVar 0) (mC (.int 0))) (mOp ixD (mVar 1) (mC (.int 0)))) (mCons (mOp mulD (mOp ixD (mVar 0) (mC (.int 1))) (mOp ixD (mVar 1) (mC (.int 1)))) mNil))))
noncomputable def m_L_minus : List D → M D := mFun 2 (mRet (mCall 2 m_L_low (mCons (mOp subD (mOp mulD (mOp ixD (mVar 0) (mC (.int 0))) (mOp ixD (mVar 1) (mC (.int 1)))) (mOp mulD (mOp ixD (mVar 1) (mC (.int 0))) (mOp ixD (mVar 0) (mC (.int 1))))) (mCons (mOp mulD (mOp ixD (mVar 0) (mC (.int 1))) (mOp ixD (mVar 1) (mC (.int 1)))) mNil))))
noncomputable def m_L_value : List D → M D := mFun 2 (mRet (mCall 2 m_L_sum (mCons (mCall 2 m_L_product (mCons (mOp ixD (mVar 0) (mC (.int 1))) (mCons (mOp ixD (mVar 1) (mC (.int 0))) mNil))) (mCons (mCall 2 m_L_product (mCons (mOp ixD (mVar 0) (mC (.int 2))) (mCons (mOp ixD (mVar 1) (mC (.int 1))) mNil))) mNil))))
noncomputable def b_L_next_1 : SM := (mSeq (mAsg (mCall 2 m_L_value (mCons (mVar 5) (mCons (mVar 3) mNil))) (gN 7))
  (mSeq (mAsg (mCall 2 m_L_minus (mCons (mOp ixD (mVar 5) (mC (.int 3))) (mCons (mCall 2 m_L_value (mCons (mVar 5) (mCons (mVar 1) mNil))) mNil))) (gN 8))
  (mIfS (mAnd (mB (mOp neD (mVar 6) (mC (.int 0)))) (mB (mOp gtD (mOp mulD (mOp ixD (mVar 8) (mC (.int 0))) (mOp ixD (mVar 7) (mC (.int 0)))) (mC (.int 0))))) (mSeq (mAsg (mCall 2 m_L_low (mCons (mOp mulD (mOp ixD (mVar 8) (mC (.int 0))) (mOp ixD (mVar 7) (mC (.int 1)))) (mCons (mOp mulD (mOp ixD (mVar 8) (mC (.int 1))) (mOp ixD (mVar 7) (mC (.int 0)))) mNil))) (gN 9))
  (mAsg (mIf (mOr (mB (mOp isND (mVar 4) (mC .non))) (mB (mOp ltD (mOp mulD (mOp ixD (mVar 9) (mC (.int 0))) (mOp ixD (mVar 4) (mC (.int 1)))) (mOp mulD (mOp ixD (mVar 4) (mC (.int 0))) (mOp ixD (mVar 9) (mC (.int 1))))))) (mVar 9) (mVar 4)) (gN 4))) mNext)))
noncomputable def m_L_next : List D → M D := mFun 10 (mSeq (mAsg (mC .non) (gN 4))
  (mSeq (mFor (mZip (mOp ixD (mVar 0) (mC (.int 0))) (mVar 2)) (gTupM 2 (gConsM (gN 5) (gConsM (gN 6) gNilM))) b_L_next_1)
  (mRet (mVar 4))))
noncomputable def e_L_all_faces_1 : EM := (mOp addD (mVar 6) (mTup (mCons (mVar 7) mNil)))
noncomputable def b_L_all_faces_2 : SM := (mAsg (mOp addD (mVar 5) (mLc [7] (mIt (mIf (mB (mOp inD (mVar 3) (mVar 1))) (mTup (mCons (mC (.int 1)) (mCons (mC (.int 0)) (mCons (mOp subD (mC (.int 0)) (mC (.int 1))) mNil)))) (mTup (mCons (mVar 4) mNil)))) (gN 7) mYes e_L_all_faces_1)) (gN 5))
noncomputable def b_L_all_faces_3 : SM := (mSeq (mAsg (mLst mNil) (gN 5))
  (mSeq (mFor (mIt (mVar 2)) (gN 6) b_L_all_faces_2)
  (mAsg (mVar 5) (gN 2))))
noncomputable def m_L_all_faces : List D → M D := mFun 8 (mSeq (mAsg (mLst (mCons (mTup mNil) mNil)) (gN 2))
  (mSeq (mFor (mEnumQ (mVar 0)) (gTupM 2 (gConsM (gN 3) (gConsM (gN 4) gNilM))) b_L_all_faces_3)
  (mRet (mVar 2))))
noncomputable def m_L_patch_drift : List D → M D := mFun 8 (mSeq (mAsg (mLc [5] (mIt (mOp ixD (mVar 0) (mC (.int 0)))) (gN 5) mYes (mOp ixD (mVar 5) (mC (.int 0)))) (gN 2))
  (mSeq (mFor (mIt (mOp ixD (mVar 0) (mC (.int 1)))) (gTupM 2 (gConsM (gN 3) (gConsM (gN 4) gNilM))) (mIfS (mB (mOp eqD (mLc [6, 7] (mIt (mVar 4)) (gTupM 2 (gConsM (gN 6) (gConsM (gN 7) gNilM))) (mB (mOp neD (mOp ixD (mVar 1) (mMetA isQ indexD (mVar 2) (mCons (mVar 6) mNil))) (mVar 7))) (mC (.int 1))) (mLst mNil))) (mRet (mVar 3)) mNext))
  (mRet (mC .non))))
noncomputable def m_L_drift : List D → M D := mFun 13 (mSeq (mIfS (mB (mOp eqD (mMetA isQ countD (mVar 1) (mCons (mC (.int 0)) mNil)) (mC (.int 0)))) (mRet (mCall 2 m_L_patch_drift (mCons (mVar 0) (mCons (mVar 1) mNil)))) mNext)
  (mSeq (mIfS (mB (mOp gtD (mMetA isQ countD (mVar 1) (mCons (mC (.int 0)) mNil)) (mC (.int 1)))) (mRet (mC .non)) mNext)
  (mSeq (mAsg (mMetA isQ indexD (mVar 1) (mCons (mC (.int 0)) mNil)) (gN 2))
  (mSeq (mAsg (mOp ixD (mOp ixD (mVar 0) (mC (.int 0))) (mVar 2)) (gN 3))
  (mSeq (mAsg (mCall 2 m_L_patch_drift (mCons (mVar 0) (mCons (mOp addD (mOp addD (mSl (mVar 1) mNoP (mPart (mVar 2))) (mTup (mCons (mC (.int 1)) mNil))) (mSl (mVar 1) (mPart (mOp addD (mVar 2) (mC (.int 1)))) mNoP)) mNil))) (gN 4))
  (mSeq (mAsg (mCall 2 m_L_patch_drift (mCons (mVar 0) (mCons (mOp addD (mOp addD (mSl (mVar 1) mNoP (mPart (mVar 2))) (mTup (mCons (mOp subD (mC (.int 0)) (mC (.int 1))) mNil))) (mSl (mVar 1) (mPart (mOp addD (mVar 2) (mC (.int 1)))) mNoP)) mNil))) (gN 5))
  (mSeq (mPar 6 7 (mCall 2 m_L_value (mCons (mVar 3) (mCons (mVar 4) mNil))) (mCall 2 m_L_value (mCons (mVar 3) (mCons (mVar 5) mNil))))
  (mSeq (mIfS (mOr (mB (mOp gtD (mOp ixD (mVar 6) (mC (.int 0))) (mC (.int 0)))) (mB (mOp ltD (mOp ixD (mVar 7) (mC (.int 0))) (mC (.int 0))))) (mRet (mC .non)) mNext)
  (mSeq (mIfS (mB (mOp eqD (mVar 6) (mVar 7))) (mRet (mVar 4)) mNext)
  (mSeq (mAsg (mCall 2 m_L_minus (mCons (mVar 7) (mCons (mVar 6) mNil))) (gN 8))
  (mSeq (mAsg (mCall 2 m_L_low (mCons (mOp mulD (mOp ixD (mVar 7) (mC (.int 0))) (mOp ixD (mVar 8) (mC (.int 1)))) (mCons (mOp mulD (mOp ixD (mVar 7) (mC (.int 1))) (mOp ixD (mVar 8) (mC (.int 0)))) mNil))) (gN 9))
  (mSeq (mAsg (mCall 2 m_L_low (mCons (mOp subD (mC (.int 0)) (mOp mulD (mOp ixD (mVar 6) (mC (.int 0))) (mOp ixD (mVar 8) (mC (.int 1))))) (mCons (mOp mulD (mOp ixD (mVar 6) (mC (.int 1))) (mOp ixD (mVar 8) (mC (.int 0)))) mNil))) (gN 10))
  (mRet (mCB (one tupleD) (mCons (mLc [11, 12] (mZip (mVar 4) (mVar 5)) (gTupM 2 (gConsM (gN 11) (gConsM (gN 12) gNilM))) mYes (mCall 2 m_L_sum (mCons (mCall 2 m_L_product (mCons (mVar 9) (mCons (mVar 11) mNil))) (mCons (mCall 2 m_L_product (mCons (mVar 10) (mCons (mVar 12) mNil))) mNil)))) mNil)))))))))))))))
noncomputable def m_L_signum : List D → M D := mFun 1 (mRet (mOp subD (mCB (one intD) (mCons (mOp gtD (mOp ixD (mVar 0) (mC (.int 0))) (mC (.int 0))) mNil)) (mCB (one intD) (mCons (mOp ltD (mOp ixD (mVar 0) (mC (.int 0))) (mC (.int 0))) mNil))))
noncomputable def e_L_move_1 : EM := (mC (.int 1))
noncomputable def t_L_move_2 : BM := (mB (mOp neD (mCall 1 m_L_signum (mCons (mCall 2 m_L_value (mCons (mOp ixD (mOp ixD (mVar 0) (mC (.int 0))) (mVar 6)) (mCons (mVar 5) mNil))) mNil)) (mOp ixD (mVar 4) (mVar 6))))
noncomputable def b_L_move_3 : SM := (mIfS (mAnd (mB (mOp eqD (mMetA isQ countD (mVar 4) (mCons (mC (.int 0)) mNil)) (mVar 3))) (mB (mOp notND (mCall 2 m_L_drift (mCons (mVar 0) (mCons (mVar 4) mNil))) (mC .non)))) (mSeq (mAsg (mCall 2 m_L_drift (mCons (mVar 0) (mCons (mVar 4) mNil))) (gN 5))
  (mIfS (mB (mOp eqD (mLc [6] (mIt (mVar 2)) (gN 6) t_L_move_2 e_L_move_1) (mLst mNil))) (mRet (mTup (mCons (mVar 4) (mCons (mVar 5) mNil)))) mNext)) mNext)
noncomputable def b_L_move_4 : SM := (mFor (mIt (mCall 2 m_L_all_faces (mCons (mVar 1) (mCons (mVar 2) mNil)))) (gN 4) b_L_move_3)
noncomputable def e_L_move_5 : EM := (mVar 6)
noncomputable def t_L_move_6 : BM := (mB (mOp eqD (mVar 7) (mC (.int 0))))
noncomputable def m_L_move : List D → M D := mFun 8 (mSeq (mAsg (mLc [6, 7] (mEnumQ (mVar 1)) (gTupM 2 (gConsM (gN 6) (gConsM (gN 7) gNilM))) t_L_move_6 e_L_move_5) (gN 2))
  (mSeq (mFor (mIt (mTup (mCons (mC (.int 0)) (mCons (mC (.int 1)) mNil)))) (gN 3) b_L_move_4)
  (mRet (mTup (mCons (mVar 1) (mCons (mTup (mCons (mTup (mCons (mC (.int 0)) (mCons (mC (.int 1)) mNil))) (mCons (mTup (mCons (mC (.int 0)) (mCons (mC (.int 1)) mNil))) mNil))) mNil))))))
noncomputable def m_L_sides : List D → M D := mFun 3 (mRet (mCB (one tupleD) (mCons (mLc [2] (mIt (mOp ixD (mVar 0) (mC (.int 0)))) (gN 2) mYes (mCall 1 m_L_signum (mCons (mCall 2 m_L_minus (mCons (mCall 2 m_L_value (mCons (mVar 2) (mCons (mVar 1) mNil))) (mCons (mOp ixD (mVar 2) (mC (.int 3))) mNil))) mNil))) mNil)))
noncomputable def e_L_entries_1 : EM := (mCall 2 m_L_sum (mCons (mVar 9) (mCons (mCall 2 m_L_product (mCons (mVar 10) (mCons (mVar 8) mNil))) mNil)))
noncomputable def t_L_entries_2 : BM := (mB (mOp leD (mCB (one lenD) (mCons (mVar 3) mNil)) (mVar 2)))
noncomputable def b_L_entries_3 : SM := (mSeq (mAsg (mCall 2 m_L_move (mCons (mVar 0) (mCons (mCall 2 m_L_sides (mCons (mVar 0) (mCons (mVar 5) mNil))) mNil))) (gTupM 2 (gConsM (gN 6) (gConsM (gN 7) gNilM))))
  (mSeq (mDrop (mMet isL appendD (mVar 3) (mCons (mTup (mCons (mVar 4) (mCons (mVar 5) (mCons (mVar 6) (mCons (mVar 7) mNil))))) mNil)))
  (mSeq (mAsg (mCall 4 m_L_next (mCons (mVar 0) (mCons (mVar 5) (mCons (mVar 6) (mCons (mVar 7) mNil))))) (gN 8))
  (mSeq (mIfS (mB (mOp isND (mVar 8) (mC .non))) (mRet (mFrz (mVar 3))) mNext)
  (mSeq (mAsg (mCall 2 m_L_sum (mCons (mVar 4) (mCons (mVar 8) mNil))) (gN 4))
  (mAsg (mCB (one tupleD) (mCons (mLc [9, 10] (mZip (mVar 5) (mVar 7)) (gTupM 2 (gConsM (gN 9) (gConsM (gN 10) gNilM))) mYes e_L_entries_1) mNil)) (gN 5)))))))
noncomputable def m_L_entries : List D → M D := mFun 11 (mSeq (mAsg (mNew mNil) (gN 3))
  (mSeq (mPar 4 5 (mTup (mCons (mC (.int 0)) (mCons (mC (.int 1)) mNil))) (mVar 1))
  (mSeq (mWhile t_L_entries_2 b_L_entries_3)
  (mRet (mFrz (mVar 3))))))
noncomputable def m_greatest_divisor : List D → M D := mFun 2 (mSeq (mWhile (mB (mOp neD (mVar 1) (mC (.int 0)))) (mPar 0 1 (mVar 1) (mOp modD (mVar 0) (mVar 1))))
  (mRet (mCB (one absD) (mCons (mVar 0) mNil))))
noncomputable def m_fraction : List D → M D := mFun 3 (mSeq (mIfS (mB (mOp eqD (mVar 1) (mC (.int 0)))) (mRaise "ZeroDivisor") mNext)
  (mSeq (mAsg (mCall 2 m_greatest_divisor (mCons (mVar 0) (mCons (mVar 1) mNil))) (gN 2))
  (mSeq (mAsg (mIf (mB (mOp ltD (mVar 1) (mC (.int 0)))) (mUn negD (mVar 2)) (mVar 2)) (gN 2))
  (mRet (mTup (mCons (mOp fdivD (mVar 0) (mVar 2)) (mCons (mOp fdivD (mVar 1) (mVar 2)) mNil)))))))
noncomputable def m_plus : List D → M D := mFun 2 (mRet (mCall 2 m_fraction (mCons (mOp addD (mOp mulD (mOp ixD (mVar 0) (mC (.int 0))) (mOp ixD (mVar 1) (mC (.int 1)))) (mOp mulD (mOp ixD (mVar 1) (mC (.int 0))) (mOp ixD (mVar 0) (mC (.int 1))))) (mCons (mOp mulD (mOp ixD (mVar 0) (mC (.int 1))) (mOp ixD (mVar 1) (mC (.int 1)))) mNil))))
noncomputable def m_times : List D → M D := mFun 2 (mRet (mCall 2 m_fraction (mCons (mOp mulD (mOp ixD (mVar 0) (mC (.int 0))) (mOp ixD (mVar 1) (mC (.int 0)))) (mCons (mOp mulD (mOp ixD (mVar 0) (mC (.int 1))) (mOp ixD (mVar 1) (mC (.int 1)))) mNil))))
noncomputable def m_moved : List D → M D := mFun 3 (mRet (mTup (mCons (mCall 2 m_plus (mCons (mOp ixD (mVar 0) (mC (.int 0))) (mCons (mCall 2 m_times (mCons (mOp ixD (mVar 1) (mC (.int 0))) (mCons (mVar 2) mNil))) mNil))) (mCons (mCall 2 m_plus (mCons (mOp ixD (mVar 0) (mC (.int 1))) (mCons (mCall 2 m_times (mCons (mOp ixD (mVar 1) (mC (.int 1))) (mCons (mVar 2) mNil))) mNil))) mNil))))
noncomputable def m_sign : List D → M D := mFun 1 (mRet (mOp subD (mOp gtD (mOp ixD (mVar 0) (mC (.int 0))) (mC (.int 0))) (mOp ltD (mOp ixD (mVar 0) (mC (.int 0))) (mC (.int 0)))))
noncomputable def m_is_less : List D → M D := mFun 2 (mRet (mOp ltD (mOp mulD (mOp ixD (mVar 0) (mC (.int 0))) (mOp ixD (mVar 1) (mC (.int 1)))) (mOp mulD (mOp ixD (mVar 1) (mC (.int 0))) (mOp ixD (mVar 0) (mC (.int 1))))))
noncomputable def m_over : List D → M D := mFun 2 (mRet (mCall 2 m_fraction (mCons (mOp mulD (mOp ixD (mVar 0) (mC (.int 0))) (mOp ixD (mVar 1) (mC (.int 1)))) (mCons (mOp mulD (mOp ixD (mVar 0) (mC (.int 1))) (mOp ixD (mVar 1) (mC (.int 0)))) mNil))))
noncomputable def m_opposite : List D → M D := mFun 1 (mRet (mTup (mCons (mUn negD (mOp ixD (mVar 0) (mC (.int 0)))) (mCons (mOp ixD (mVar 0) (mC (.int 1))) mNil))))
noncomputable def m_minus : List D → M D := mFun 2 (mRet (mCall 2 m_fraction (mCons (mOp subD (mOp mulD (mOp ixD (mVar 0) (mC (.int 0))) (mOp ixD (mVar 1) (mC (.int 1)))) (mOp mulD (mOp ixD (mVar 1) (mC (.int 0))) (mOp ixD (mVar 0) (mC (.int 1))))) (mCons (mOp mulD (mOp ixD (mVar 0) (mC (.int 1))) (mOp ixD (mVar 1) (mC (.int 1)))) mNil))))
noncomputable def m_dot : List D → M D := mFun 2 (mRet (mCall 2 m_plus (mCons (mCall 2 m_times (mCons (mOp ixD (mVar 0) (mC (.int 0))) (mCons (mOp ixD (mVar 1) (mC (.int 0))) mNil))) (mCons (mCall 2 m_times (mCons (mOp ixD (mVar 0) (mC (.int 1))) (mCons (mOp ixD (mVar 1) (mC (.int 1))) mNil))) mNil))))
noncomputable def m_value_at : List D → M D := mFun 2 (mRet (mCall 2 m_minus (mCons (mCall 2 m_dot (mCons (mSl (mVar 0) (mPart (mC (.int 1))) (mPart (mC (.int 3)))) (mCons (mVar 1) mNil))) (mCons (mOp ixD (mVar 0) (mC (.int 3))) mNil))))
noncomputable def b_time_to_cross_1 : SM := (mSeq (mAsg (mCall 2 m_dot (mCons (mSl (mVar 5) (mPart (mC (.int 1))) (mPart (mC (.int 3)))) (mCons (mVar 3) mNil))) (gN 7))
  (mSeq (mAsg (mCall 2 m_value_at (mCons (mVar 5) (mCons (mVar 1) mNil))) (gN 8))
  (mIfS (mAnd (mB (mOp ltD (mOp mulD (mCall 1 m_sign (mCons (mVar 8) mNil)) (mCall 1 m_sign (mCons (mVar 7) mNil))) (mC (.int 0)))) (mB (mOp neD (mVar 6) (mC (.int 0))))) (mSeq (mAsg (mCall 2 m_over (mCons (mCall 1 m_opposite (mCons (mVar 8) mNil)) (mCons (mVar 7) mNil))) (gN 9))
  (mAsg (mIf (mOr (mB (mOp isND (mVar 4) (mC .non))) (mB (mCall 2 m_is_less (mCons (mVar 9) (mCons (mVar 4) mNil))))) (mVar 9) (mVar 4)) (gN 4))) mNext)))
noncomputable def m_time_to_cross : List D → M D := mFun 10 (mSeq (mAsg (mC .non) (gN 4))
  (mSeq (mFor (mZip (mOp ixD (mVar 0) (mC (.int 0))) (mVar 2)) (gTupM 2 (gConsM (gN 5) (gConsM (gN 6) gNilM))) b_time_to_cross_1)
  (mRet (mVar 4))))
noncomputable def m_with_side : List D → M D := mFun 3 (mRet (mOp addD (mOp addD (mSl (mVar 0) mNoP (mPart (mVar 1))) (mTup (mCons (mVar 2) mNil))) (mSl (mVar 0) (mPart (mOp addD (mVar 1) (mC (.int 1)))) mNoP)))
noncomputable def e_choices_1 : EM := (mCall 3 m_with_side (mCons (mVar 4) (mCons (mVar 3) (mCons (mVar 5) mNil))))
noncomputable def b_choices_2 : SM := (mAsg (mLc2F fzL [4, 5] [5] (mIt (mVar 2)) (gN 4) mYes (mIt (mTup (mCons (mC (.int 1)) (mCons (mUn negD (mC (.int 1))) mNil)))) (gN 5) mYes e_choices_1) (gN 2))
noncomputable def m_choices : List D → M D := mFun 6 (mSeq (mAsg (mLst (mCons (mVar 0) mNil)) (gN 2))
  (mSeq (mFor (mIt (mVar 1)) (gN 3) b_choices_2)
  (mRet (mVar 2))))
noncomputable def m_patch_drift : List D → M D := mFun 8 (mSeq (mAsg (mDc [3, 4] (mZip (mOp ixD (mVar 0) (mC (.int 0))) (mVar 1)) (gTupM 2 (gConsM (gN 3) (gConsM (gN 4) gNilM))) mYes (mOp ixD (mVar 3) (mC (.int 0))) (mVar 4)) (gN 2))
  (mRet (mOp ixD (mLc [5, 6] (mIt (mOp ixD (mVar 0) (mC (.int 1)))) (gTupM 2 (gConsM (gN 5) (gConsM (gN 6) gNilM))) (mB (mCB (one allD) (mCons (mLc [7, 4] (mIt (mVar 6)) (gTupM 2 (gConsM (gN 7) (gConsM (gN 4) gNilM))) mYes (mOp eqD (mOp dgetD (mVar 2) (mVar 7)) (mVar 4))) mNil))) (mVar 5)) (mC (.int 0)))))
noncomputable def m_edge_drift : List D → M D := mFun 12 (mSeq (mAsg (mSl (mOp ixD (mOp ixD (mVar 0) (mC (.int 0))) (mVar 2)) (mPart (mC (.int 1))) (mPart (mC (.int 3)))) (gN 3))
  (mSeq (mPar 4 5 (mCall 2 m_patch_drift (mCons (mVar 0) (mCons (mCall 3 m_with_side (mCons (mVar 1) (mCons (mVar 2) (mCons (mC (.int 1)) mNil)))) mNil))) (mCall 2 m_patch_drift (mCons (mVar 0) (mCons (mCall 3 m_with_side (mCons (mVar 1) (mCons (mVar 2) (mCons (mUn negD (mC (.int 1))) mNil)))) mNil))))
  (mSeq (mPar 6 7 (mCall 2 m_dot (mCons (mVar 3) (mCons (mVar 4) mNil))) (mCall 2 m_dot (mCons (mVar 3) (mCons (mVar 5) mNil))))
  (mSeq (mIfS (mOr (mB (mOp gtD (mCall 1 m_sign (mCons (mVar 6) mNil)) (mC (.int 0)))) (mB (mOp ltD (mCall 1 m_sign (mCons (mVar 7) mNil)) (mC (.int 0))))) (mRet (mC .non)) mNext)
  (mSeq (mIfS (mB (mOp eqD (mVar 6) (mVar 7))) (mRet (mVar 4)) mNext)
  (mSeq (mAsg (mCall 2 m_over (mCons (mVar 7) (mCons (mCall 2 m_minus (mCons (mVar 7) (mCons (mVar 6) mNil))) mNil))) (gN 8))
  (mSeq (mAsg (mCall 2 m_minus (mCons (mC k_ONE) (mCons (mVar 8) mNil))) (gN 9))
  (mRet (mCB (one tupleD) (mCons (mLc [10, 11] (mZip (mVar 4) (mVar 5)) (gTupM 2 (gConsM (gN 10) (gConsM (gN 11) gNilM))) mYes (mCall 2 m_plus (mCons (mCall 2 m_times (mCons (mVar 8) (mCons (mVar 10) mNil))) (mCons (mCall 2 m_times (mCons (mVar 9) (mCons (mVar 11) mNil))) mNil)))) mNil))))))))))
noncomputable def m_drift_of : List D → M D := mFun 2 (mSeq (mIfS (mB (mOp eqD (mMetA isQ countD (mVar 1) (mCons (mC (.int 0)) mNil)) (mC (.int 0)))) (mRet (mCall 2 m_patch_drift (mCons (mVar 0) (mCons (mVar 1) mNil)))) mNext)
  (mRet (mIf (mB (mOp eqD (mMetA isQ countD (mVar 1) (mCons (mC (.int 0)) mNil)) (mC (.int 1)))) (mCall 3 m_edge_drift (mCons (mVar 0) (mCons (mVar 1) (mCons (mMetA isQ indexD (mVar 1) (mCons (mC (.int 0)) mNil)) mNil)))) (mC .non))))
noncomputable def e_fits_1 : EM := (mOp eqD (mCall 1 m_sign (mCons (mCall 2 m_dot (mCons (mSl (mOp ixD (mOp ixD (mVar 0) (mC (.int 0))) (mVar 4)) (mPart (mC (.int 1))) (mPart (mC (.int 3)))) (mCons (mVar 3) mNil))) mNil)) (mOp ixD (mVar 1) (mVar 4)))
noncomputable def m_fits : List D → M D := mFun 5 (mSeq (mAsg (mCall 2 m_drift_of (mCons (mVar 0) (mCons (mVar 1) mNil))) (gN 3))
  (mRet (mAndV (mOp notND (mVar 3) (mC .non)) (mCB (one allD) (mCons (mLc [4] (mIt (mVar 2)) (gN 4) mYes e_fits_1) mNil)))))
noncomputable def b_move_from_1 : SM := (mIfS (mB (mCall 3 m_fits (mCons (mVar 0) (mCons (mVar 5) (mCons (mVar 2) mNil))))) (mRet (mTup (mCons (mVar 5) (mCons (mCall 2 m_drift_of (mCons (mVar 0) (mCons (mVar 5) mNil))) mNil)))) mNext)
noncomputable def e_move_from_2 : EM := (mVar 7)
noncomputable def t_move_from_3 : BM := (mB (mOp neD (mVar 7) (mVar 4)))
noncomputable def b_move_from_4 : SM := (mDrop (mMet isL extendD (mVar 3) (mCons (mCall 2 m_choices (mCons (mVar 1) (mCons (mLc [7] (mIt (mVar 2)) (gN 7) t_move_from_3 e_move_from_2) mNil))) mNil)))
noncomputable def e_move_from_5 : EM := (mVar 4)
noncomputable def t_move_from_6 : BM := (mB (mOp eqD (mVar 6) (mC (.int 0))))
noncomputable def m_move_from : List D → M D := mFun 8 (mSeq (mAsg (mLc [4, 6] (mEnumQ (mVar 1)) (gTupM 2 (gConsM (gN 4) (gConsM (gN 6) gNilM))) t_move_from_6 e_move_from_5) (gN 2))
  (mSeq (mAsg (mNew mNil) (gN 3))
  (mSeq (mFor (mIt (mVar 2)) (gN 4) b_move_from_4)
  (mSeq (mFor (mIt (mOp addD (mCall 2 m_choices (mCons (mVar 1) (mCons (mVar 2) mNil))) (mUn revD (mCB (one sortedD) (mCons (mVar 3) mNil))))) (gN 5) b_move_from_1)
  (mRet (mTup (mCons (mVar 1) (mCons (mC k_STILL) mNil))))))))
noncomputable def m_sides : List D → M D := mFun 3 (mRet (mCB (one tupleD) (mCons (mLc [2] (mIt (mOp ixD (mVar 0) (mC (.int 0)))) (gN 2) mYes (mCall 1 m_sign (mCons (mCall 2 m_value_at (mCons (mVar 2) (mCons (mVar 1) mNil))) mNil))) mNil)))
noncomputable def m_move : List D → M D := mFun 2 (mRet (mCall 2 m_move_from (mCons (mVar 0) (mCons (mCall 2 m_sides (mCons (mVar 0) (mCons (mVar 1) mNil))) mNil))))
noncomputable def t_course_1 : BM := (mB (mOp leD (mCB (one lenD) (mCons (mVar 3) mNil)) (mVar 2)))
noncomputable def b_course_2 : SM := (mSeq (mAsg (mCall 2 m_move (mCons (mVar 0) (mCons (mVar 5) mNil))) (gTupM 2 (gConsM (gN 6) (gConsM (gN 7) gNilM))))
  (mSeq (mDrop (mMet isL appendD (mVar 3) (mCons (mTup (mCons (mVar 4) (mCons (mVar 5) (mCons (mVar 6) (mCons (mVar 7) mNil))))) mNil)))
  (mSeq (mAsg (mIf (mB (mOp neD (mVar 7) (mC k_STILL))) (mCall 4 m_time_to_cross (mCons (mVar 0) (mCons (mVar 5) (mCons (mVar 6) (mCons (mVar 7) mNil))))) (mC .non)) (gN 8))
  (mSeq (mIfS (mB (mOp isND (mVar 8) (mC .non))) (mRet (mVar 3)) mNext)
  (mPar 4 5 (mCall 2 m_plus (mCons (mVar 4) (mCons (mVar 8) mNil))) (mCall 3 m_moved (mCons (mVar 5) (mCons (mVar 7) (mCons (mVar 8) mNil)))))))))
noncomputable def m_course : List D → M D := mFun 9 (mSeq (mAsg (mNew mNil) (gN 3))
  (mSeq (mPar 4 5 (mC k_ZERO) (mVar 1))
  (mSeq (mWhile t_course_1 b_course_2)
  (mRet (mVar 3)))))
noncomputable def m_L_blown : List D → M D := mFun 5 (mSeq (mAsg (mC (.int 1000000000000001429)) (gN 2))
  (mSeq (mAsg (mOp modD (mOp addD (mOp addD (mOp mulD (mVar 0) (mC (.int 5281877500950955839))) (mOp mulD (mC (.int 1442695040888963407)) (mVar 1))) (mC (.int 53))) (mVar 2)) (gN 3))
  (mSeq (mFor (mRange1 (mC (.int 4))) (gN 4) (mAsg (mOp modD (mOp addD (mOp addD (mOp addD (mOp mulD (mVar 3) (mVar 3)) (mOp mulD (mC (.int 10)) (mVar 3))) (mOp mulD (mC (.int 401)) (mVar 4))) (mVar 1)) (mVar 2)) (gN 3)))
  (mRet (mOp addD (mOp mulD (mVar 3) (mVar 2)) (mOp modD (mOp addD (mOp mulD (mVar 3) (mC (.int 69069))) (mVar 1)) (mVar 2)))))))
noncomputable def m_L_pull : List D → M D := mFun 6 (mSeq (mIfS (mB (mOp ltD (mOp ixD (mVar 0) (mC (.int 2))) (mVar 1))) (mSeq (mPar 2 3 (mOp ixD (mVar 0) (mC (.int 0))) (mOp ixD (mVar 0) (mC (.int 1))))
  (mSeq (mAsg (mIf (mB (mOp neD (mVar 2) (mLst mNil))) (mOp ixD (mVar 2) (mOp modD (mVar 3) (mCB (one lenD) (mCons (mVar 2) mNil)))) (mC (.int 0))) (gN 4))
  (mSeq (mIfS (mOr (mB (mOp ltD (mVar 4) (mOp powD (mC (.int 10)) (mC (.int 18))))) (mB (mOp geD (mVar 3) (mCB (one lenD) (mCons (mVar 2) mNil))))) (mAsg (mCall 2 m_L_blown (mCons (mOp addD (mOp modD (mVar 4) (mOp powD (mC (.int 10)) (mC (.int 15)))) (mOp fdivD (mVar 3) (mOp addD (mCB (one lenD) (mCons (mVar 2) mNil)) (mC (.int 1))))) (mCons (mVar 3) mNil))) (gN 4)) mNext)
  (mSeq (mAsg (mOp addD (mVar 3) (mC (.int 1))) (gSubM (mVar 0) (mC (.int 1))))
  (mAsg (mVar 4) (gSubM (mVar 0) (mC (.int 2)))))))) mNext)
  (mSeq (mAsg (mOp modD (mOp ixD (mVar 0) (mC (.int 2))) (mVar 1)) (gN 5))
  (mSeq (mAsg (mOp fdivD (mOp ixD (mVar 0) (mC (.int 2))) (mVar 1)) (gSubM (mVar 0) (mC (.int 2))))
  (mRet (mVar 5)))))
noncomputable def m_L_item : List D → M D := mFun 2 (mRet (mOp ixD (mVar 1) (mCall 2 m_L_pull (mCons (mVar 0) (mCons (mCB (one lenD) (mCons (mVar 1) mNil)) mNil)))))
noncomputable def m_L_small : List D → M D := mFun 2 (mRet (mCall 2 m_L_low (mCons (mOp subD (mCall 2 m_L_pull (mCons (mVar 0) (mCons (mOp addD (mOp mulD (mC (.int 2)) (mVar 1)) (mC (.int 1))) mNil))) (mVar 1)) (mCons (mCall 2 m_L_item (mCons (mVar 0) (mCons (mLst (mCons (mC (.int 1)) (mCons (mC (.int 1)) (mCons (mC (.int 1)) (mCons (mC (.int 2)) (mCons (mC (.int 3)) mNil)))))) mNil))) mNil))))
noncomputable def m_L_some_point : List D → M D := mFun 14 (mSeq (mAsg (mCB (one listD) (mCons (mOp ixD (mVar 1) (mC (.int 0))) mNil)) (gN 2))
  (mSeq (mAsg (mCall 2 m_L_pull (mCons (mVar 0) (mCons (mC (.int 4)) mNil))) (gN 3))
  (mSeq (mIfS (mOr (mB (mOp eqD (mVar 3) (mC (.int 0)))) (mB (mOp eqD (mVar 2) (mLst mNil)))) (mRet (mTup (mCons (mCall 2 m_L_small (mCons (mVar 0) (mCons (mC (.int 4)) mNil))) (mCons (mCall 2 m_L_small (mCons (mVar 0) (mCons (mC (.int 4)) mNil))) mNil)))) mNext)
  (mSeq (mAsg (mCall 2 m_L_item (mCons (mVar 0) (mCons (mVar 2) mNil))) (gTupM 4 (gConsM (gN 4) (gConsM (gN 5) (gConsM (gN 6) (gConsM (gN 7) gNilM))))))
  (mSeq (mAsg (mCall 2 m_L_item (mCons (mVar 0) (mCons (mVar 2) mNil))) (gN 8))
  (mSeq (mAsg (mCall 2 m_L_minus (mCons (mCall 2 m_L_product (mCons (mVar 5) (mCons (mOp ixD (mVar 8) (mC (.int 2))) mNil))) (mCons (mCall 2 m_L_product (mCons (mVar 6) (mCons (mOp ixD (mVar 8) (mC (.int 1))) mNil))) mNil))) (gN 9))
  (mSeq (mIfS (mAnd (mB (mOp gtD (mVar 3) (mC (.int 1)))) (mB (mOp neD (mOp ixD (mVar 9) (mC (.int 0))) (mC (.int 0))))) (mSeq (mAsg (mCall 2 m_L_minus (mCons (mCall 2 m_L_product (mCons (mVar 7) (mCons (mOp ixD (mVar 8) (mC (.int 2))) mNil))) (mCons (mCall 2 m_L_product (mCons (mVar 6) (mCons (mOp ixD (mVar 8) (mC (.int 3))) mNil))) mNil))) (gN 10))
  (mSeq (mAsg (mCall 2 m_L_minus (mCons (mCall 2 m_L_product (mCons (mVar 5) (mCons (mOp ixD (mVar 8) (mC (.int 3))) mNil))) (mCons (mCall 2 m_L_product (mCons (mVar 7) (mCons (mOp ixD (mVar 8) (mC (.int 1))) mNil))) mNil))) (gN 11))
  (mRet (mTup (mCons (mCall 2 m_L_low (mCons (mOp mulD (mOp ixD (mVar 10) (mC (.int 0))) (mOp ixD (mVar 9) (mC (.int 1)))) (mCons (mOp mulD (mOp ixD (mVar 10) (mC (.int 1))) (mOp ixD (mVar 9) (mC (.int 0)))) mNil))) (mCons (mCall 2 m_L_low (mCons (mOp mulD (mOp ixD (mVar 11) (mC (.int 0))) (mOp ixD (mVar 9) (mC (.int 1)))) (mCons (mOp mulD (mOp ixD (mVar 11) (mC (.int 1))) (mOp ixD (mVar 9) (mC (.int 0)))) mNil))) mNil)))))) mNext)
  (mSeq (mAsg (mCall 2 m_L_small (mCons (mVar 0) (mCons (mC (.int 4)) mNil))) (gN 12))
  (mSeq (mIfS (mB (mOp eqD (mOp ixD (mVar 6) (mC (.int 0))) (mC (.int 0)))) (mRet (mTup (mCons (mCall 2 m_L_low (mCons (mOp mulD (mOp ixD (mVar 7) (mC (.int 0))) (mOp ixD (mVar 5) (mC (.int 1)))) (mCons (mOp mulD (mOp ixD (mVar 7) (mC (.int 1))) (mOp ixD (mVar 5) (mC (.int 0)))) mNil))) (mCons (mVar 12) mNil)))) mNext)
  (mSeq (mAsg (mCall 2 m_L_minus (mCons (mVar 7) (mCons (mCall 2 m_L_product (mCons (mVar 5) (mCons (mVar 12) mNil))) mNil))) (gN 13))
  (mRet (mTup (mCons (mVar 12) (mCons (mCall 2 m_L_low (mCons (mOp mulD (mOp ixD (mVar 13) (mC (.int 0))) (mOp ixD (mVar 6) (mC (.int 1)))) (mCons (mOp mulD (mOp ixD (mVar 13) (mC (.int 1))) (mOp ixD (mVar 6) (mC (.int 0)))) mNil))) mNil))))))))))))))
noncomputable def e_L_strip_1 : EM := (mTup (mCons (mOp subD (mC (.int 0)) (mOp ixD (mVar 10) (mC (.int 0)))) (mCons (mOp ixD (mVar 10) (mC (.int 1))) mNil)))
noncomputable def e_L_strip_2 : EM := (mTup (mCons (mOp subD (mC (.int 0)) (mOp ixD (mVar 10) (mC (.int 0)))) (mCons (mOp ixD (mVar 10) (mC (.int 1))) mNil)))
noncomputable def e_L_strip_3 : EM := (mCall 2 m_L_low (mCons (mOp addD (mC (.int 1)) (mCall 2 m_L_pull (mCons (mVar 0) (mCons (mC (.int 3)) mNil)))) (mCons (mOp addD (mC (.int 1)) (mCall 2 m_L_pull (mCons (mVar 0) (mCons (mC (.int 2)) mNil)))) mNil)))
noncomputable def e_L_strip_4 : EM := (mCall 2 m_L_low (mCons (mOp addD (mC (.int 1)) (mCall 2 m_L_pull (mCons (mVar 0) (mCons (mC (.int 3)) mNil)))) (mCons (mOp addD (mC (.int 1)) (mCall 2 m_L_pull (mCons (mVar 0) (mCons (mC (.int 2)) mNil)))) mNil)))
noncomputable def m_L_strip : List D → M D := mFun 11 (mSeq (mPar 1 2 (mCall 2 m_L_low (mCons (mOp addD (mC (.int 1)) (mCall 2 m_L_pull (mCons (mVar 0) (mCons (mC (.int 3)) mNil)))) (mCons (mOp addD (mC (.int 1)) (mCall 2 m_L_pull (mCons (mVar 0) (mCons (mC (.int 2)) mNil)))) mNil))) (mCall 2 m_L_small (mCons (mVar 0) (mCons (mC (.int 2)) mNil))))
  (mSeq (mAsg (mLc [9] (mRange1 (mC (.int 5))) (gN 9) mYes e_L_strip_4) (gN 3))
  (mSeq (mAsg (mLc [9] (mRange1 (mC (.int 5))) (gN 9) mYes e_L_strip_3) (gN 4))
  (mSeq (mPar 5 6 (mLc [10] (mIt (mVar 3)) (gN 10) mYes e_L_strip_1) (mLc [10] (mIt (mVar 4)) (gN 10) mYes e_L_strip_2))
  (mSeq (mAsg (mTup (mCons (mTup (mCons (mC (.str "x")) (mCons (mTup (mCons (mC (.int 1)) (mCons (mC (.int 1)) mNil))) (mCons (mTup (mCons (mC (.int 0)) (mCons (mC (.int 1)) mNil))) (mCons (mTup (mCons (mC (.int 0)) (mCons (mC (.int 1)) mNil))) mNil))))) (mCons (mTup (mCons (mC (.str "u")) (mCons (mTup (mCons (mC (.int 0)) (mCons (mC (.int 1)) mNil))) (mCons (mTup (mCons (mC (.int 1)) (mCons (mC (.int 1)) mNil))) (mCons (mTup (mCons (mC (.int 0)) (mCons (mC (.int 1)) mNil))) mNil))))) (mCons (mTup (mCons (mC (.str "v")) (mCons (mTup (mCons (mC (.int 0)) (mCons (mC (.int 1)) mNil))) (mCons (mTup (mCons (mC (.int 1)) (mCons (mC (.int 1)) mNil))) (mCons (mVar 1) mNil))))) mNil)))) (gN 7))
  (mSeq (mAsg (mLst (mCons (mTup (mCons (mTup (mCons (mOp ixD (mVar 5) (mC (.int 0))) (mCons (mOp ixD (mVar 4) (mC (.int 0))) mNil))) (mCons (mTup (mCons (mTup (mCons (mC (.str "x")) (mCons (mC (.int 1)) mNil))) (mCons (mTup (mCons (mC (.str "v")) (mCons (mC (.int 1)) mNil))) mNil))) mNil))) (mCons (mTup (mCons (mTup (mCons (mVar 2) (mCons (mOp ixD (mVar 4) (mC (.int 1))) mNil))) (mCons (mTup (mCons (mTup (mCons (mC (.str "x")) (mCons (mC (.int 1)) mNil))) (mCons (mTup (mCons (mC (.str "u")) (mCons (mC (.int 1)) mNil))) mNil))) mNil))) mNil))) (gN 8))
  (mSeq (mAsg (mOp addD (mVar 8) (mLst (mCons (mTup (mCons (mTup (mCons (mOp ixD (mVar 3) (mC (.int 2))) (mCons (mOp ixD (mVar 4) (mC (.int 2))) mNil))) (mCons (mTup (mCons (mTup (mCons (mC (.str "x")) (mCons (mC (.int 1)) mNil))) mNil)) mNil))) (mCons (mTup (mCons (mTup (mCons (mOp ixD (mVar 5) (mC (.int 3))) (mCons (mOp ixD (mVar 6) (mC (.int 3))) mNil))) (mCons (mTup (mCons (mTup (mCons (mC (.str "v")) (mCons (mC (.int 1)) mNil))) mNil)) mNil))) mNil)))) (gN 8))
  (mRet (mTup (mCons (mVar 7) (mCons (mOp addD (mCB (one tupleD) (mCons (mVar 8) mNil)) (mTup (mCons (mTup (mCons (mTup (mCons (mTup (mCons (mC (.int 0)) (mCons (mC (.int 1)) mNil))) (mCons (mOp ixD (mVar 6) (mC (.int 4))) mNil))) (mCons (mTup (mCons (mTup (mCons (mC (.str "u")) (mCons (mC (.int 1)) mNil))) mNil)) mNil))) (mCons (mTup (mCons (mTup (mCons (mOp ixD (mVar 3) (mC (.int 4))) (mCons (mOp ixD (mVar 6) (mC (.int 2))) mNil))) (mCons (mTup mNil) mNil))) mNil)))) mNil)))))))))))
noncomputable def e_L_wheel_1 : EM := (mTup (mCons (mOp mulD (mVar 16) (mOp ixD (mVar 17) (mC (.int 0)))) (mCons (mOp ixD (mVar 17) (mC (.int 1))) mNil)))
noncomputable def e_L_wheel_2 : EM := (mCall 2 m_L_low (mCons (mOp addD (mC (.int 1)) (mCall 2 m_L_pull (mCons (mVar 0) (mCons (mCall 2 m_L_item (mCons (mVar 0) (mCons (mLst (mCons (mC (.int 1)) (mCons (mC (.int 2)) (mCons (mC (.int 3)) mNil)))) mNil))) mNil)))) (mCons (mOp addD (mC (.int 1)) (mCall 2 m_L_pull (mCons (mVar 0) (mCons (mC (.int 2)) mNil)))) mNil)))
noncomputable def b_L_wheel_3 : SM := (mSeq (mAsg (mLc [15] (mRange1 (mC (.int 2))) (gN 15) mYes e_L_wheel_2) (gN 13))
  (mSeq (mAsg (mCB (one tupleD) (mCons (mLc [16, 17] (mZipQ (mVar 12) (mVar 13)) (gTupM 2 (gConsM (gN 16) (gConsM (gN 17) gNilM))) mYes e_L_wheel_1) mNil)) (gN 14))
  (mDrop (mMet isL appendD (mVar 10) (mCons (mTup (mCons (mVar 14) (mCons (mTup (mCons (mTup (mCons (mC (.str "x")) (mCons (mOp ixD (mVar 11) (mC (.int 0))) mNil))) (mCons (mTup (mCons (mC (.str "y")) (mCons (mOp ixD (mVar 11) (mC (.int 1))) mNil))) mNil))) mNil))) mNil)))))
noncomputable def b_L_wheel_4 : SM := (mSeq (mAsg (mCall 2 m_L_sum (mCons (mCall 2 m_L_product (mCons (mOp ixD (mVar 6) (mC (.int 0))) (mCons (mOp ixD (mVar 3) (mC (.int 0))) mNil))) (mCons (mCall 2 m_L_product (mCons (mOp ixD (mVar 6) (mC (.int 1))) (mCons (mOp ixD (mVar 3) (mC (.int 1))) mNil))) mNil))) (gN 7))
  (mDrop (mMet isL appendD (mVar 4) (mCons (mTup (mCons (mVar 5) (mCons (mOp ixD (mVar 6) (mC (.int 0))) (mCons (mOp ixD (mVar 6) (mC (.int 1))) (mCons (mVar 7) mNil))))) mNil))))
noncomputable def m_L_wheel : List D → M D := mFun 18 (mSeq (mAsg (mCall 2 m_L_item (mCons (mVar 0) (mCons (mLst (mCons (mTup (mCons (mTup (mCons (mC (.int 1)) (mCons (mC (.int 1)) mNil))) (mCons (mTup (mCons (mC (.int 0)) (mCons (mC (.int 1)) mNil))) mNil))) (mCons (mTup (mCons (mTup (mCons (mC (.int 1)) (mCons (mC (.int 1)) mNil))) (mCons (mTup (mCons (mC (.int 1)) (mCons (mC (.int 2)) mNil))) mNil))) mNil))) mNil))) (gN 1))
  (mSeq (mAsg (mCall 2 m_L_item (mCons (mVar 0) (mCons (mLst (mCons (mTup (mCons (mTup (mCons (mC (.int 0)) (mCons (mC (.int 1)) mNil))) (mCons (mTup (mCons (mC (.int 1)) (mCons (mC (.int 1)) mNil))) mNil))) (mCons (mTup (mCons (mTup (mCons (mOp subD (mC (.int 0)) (mC (.int 1))) (mCons (mC (.int 3)) mNil))) (mCons (mTup (mCons (mC (.int 1)) (mCons (mC (.int 1)) mNil))) mNil))) mNil))) mNil))) (gN 2))
  (mSeq (mAsg (mTup (mCons (mCall 2 m_L_small (mCons (mVar 0) (mCons (mC (.int 2)) mNil))) (mCons (mCall 2 m_L_small (mCons (mVar 0) (mCons (mC (.int 2)) mNil))) mNil))) (gN 3))
  (mSeq (mAsg (mNew mNil) (gN 4))
  (mSeq (mFor (mIt (mLst (mCons (mTup (mCons (mC (.str "x")) (mCons (mVar 1) mNil))) (mCons (mTup (mCons (mC (.str "y")) (mCons (mVar 2) mNil))) mNil)))) (gTupM 2 (gConsM (gN 5) (gConsM (gN 6) gNilM))) b_L_wheel_4)
  (mSeq (mAsg (mLst (mCons (mTup (mCons (mC (.int 1)) (mCons (mC (.int 1)) mNil))) (mCons (mTup (mCons (mOp subD (mC (.int 0)) (mC (.int 1))) (mCons (mC (.int 1)) mNil))) (mCons (mTup (mCons (mOp subD (mC (.int 0)) (mC (.int 1))) (mCons (mOp subD (mC (.int 0)) (mC (.int 1))) mNil))) (mCons (mTup (mCons (mC (.int 1)) (mCons (mOp subD (mC (.int 0)) (mC (.int 1))) mNil))) mNil))))) (gN 8))
  (mSeq (mAsg (mLst (mCons (mTup (mCons (mOp subD (mC (.int 0)) (mC (.int 1))) (mCons (mC (.int 1)) mNil))) (mCons (mTup (mCons (mOp subD (mC (.int 0)) (mC (.int 1))) (mCons (mOp subD (mC (.int 0)) (mC (.int 1))) mNil))) (mCons (mTup (mCons (mC (.int 1)) (mCons (mOp subD (mC (.int 0)) (mC (.int 1))) mNil))) (mCons (mTup (mCons (mC (.int 1)) (mCons (mC (.int 1)) mNil))) mNil))))) (gN 9))
  (mSeq (mIfS (mB (mOp eqD (mCall 2 m_L_pull (mCons (mVar 0) (mCons (mC (.int 2)) mNil))) (mC (.int 0)))) (mAsg (mLst (mCons (mTup (mCons (mC (.int 1)) (mCons (mOp subD (mC (.int 0)) (mC (.int 1))) mNil))) (mCons (mTup (mCons (mC (.int 1)) (mCons (mC (.int 1)) mNil))) (mCons (mTup (mCons (mOp subD (mC (.int 0)) (mC (.int 1))) (mCons (mC (.int 1)) mNil))) (mCons (mTup (mCons (mOp subD (mC (.int 0)) (mC (.int 1))) (mCons (mOp subD (mC (.int 0)) (mC (.int 1))) mNil))) mNil))))) (gN 9)) mNext)
  (mSeq (mAsg (mNew mNil) (gN 10))
  (mSeq (mFor (mZipQ (mVar 8) (mVar 9)) (gTupM 2 (gConsM (gN 11) (gConsM (gN 12) gNilM))) b_L_wheel_3)
  (mSeq (mIfS (mB (mOp eqD (mCall 2 m_L_pull (mCons (mVar 0) (mCons (mC (.int 3)) mNil))) (mC (.int 0)))) (mSeq (mDrop (mMet isL appendD (mVar 4) (mCons (mTup (mCons (mC (.str "z")) (mCons (mTup (mCons (mC (.int 1)) (mCons (mC (.int 1)) mNil))) (mCons (mTup (mCons (mOp subD (mCall 2 m_L_pull (mCons (mVar 0) (mCons (mC (.int 3)) mNil))) (mC (.int 1))) (mCons (mC (.int 1)) mNil))) (mCons (mTup (mCons (mOp addD (mC (.int 5)) (mCall 2 m_L_pull (mCons (mVar 0) (mCons (mC (.int 9)) mNil)))) (mCons (mC (.int 1)) mNil))) mNil))))) mNil)))
  (mAsg (mOp addN (mLst (mCons (mTup (mCons (mTup (mCons (mCall 2 m_L_small (mCons (mVar 0) (mCons (mC (.int 2)) mNil))) (mCons (mCall 2 m_L_small (mCons (mVar 0) (mCons (mC (.int 2)) mNil))) mNil))) (mCons (mTup (mCons (mTup (mCons (mC (.str "z")) (mCons (mC (.int 1)) mNil))) mNil)) mNil))) mNil)) (mVar 10)) (gN 10))) mNext)
  (mRet (mTup (mCons (mCB (one tupleD) (mCons (mVar 4) mNil)) (mCons (mOp addD (mCB (one tupleD) (mCons (mVar 10) mNil)) (mTup (mCons (mTup (mCons (mTup (mCons (mTup (mCons (mC (.int 1)) (mCons (mC (.int 1)) mNil))) (mCons (mTup (mCons (mC (.int 1)) (mCons (mC (.int 1)) mNil))) mNil))) (mCons (mTup mNil) mNil))) mNil))) mNil)))))))))))))))
noncomputable def m_L_same_place : List D → M D := mFun 5 (mSeq (mFor (mIt (mLst (mCons (mTup (mCons (mC (.int 0)) (mCons (mC (.int 1)) mNil))) (mCons (mTup (mCons (mC (.int 0)) (mCons (mC (.int 2)) mNil))) (mCons (mTup (mCons (mC (.int 1)) (mCons (mC (.int 2)) mNil))) mNil))))) (gTupM 2 (gConsM (gN 2) (gConsM (gN 3) gNilM))) (mSeq (mAsg (mCall 2 m_L_product (mCons (mOp ixD (mVar 0) (mVar 2)) (mCons (mOp ixD (mVar 1) (mVar 3)) mNil))) (gN 4))
  (mIfS (mB (mOp neD (mVar 4) (mCall 2 m_L_product (mCons (mOp ixD (mVar 0) (mVar 3)) (mCons (mOp ixD (mVar 1) (mVar 2)) mNil))))) (mRet (mC (.bl false))) mNext)))
  (mRet (mC (.bl true))))
noncomputable def m_L_some_lines : List D → M D := mFun 13 (mSeq (mAsg (mNew mNil) (gN 2))
  (mSeq (mAsg (mLst (mCons (mLst (mCons (mC (.str "x")) (mCons (mC (.str "y")) (mCons (mC (.str "z")) (mCons (mC (.str "u")) (mCons (mC (.str "v")) (mCons (mC (.str "w")) mNil))))))) (mCons (mLst (mCons (mC (.str "wall1")) (mCons (mC (.str "wall2")) (mCons (mC (.str "x")) (mCons (mC (.str "x2")) (mCons (mC (.str "wall")) (mCons (mC (.str "x12")) mNil))))))) mNil))) (gN 3))
  (mSeq (mFor (mIt (mSl (mCall 2 m_L_item (mCons (mVar 0) (mCons (mVar 3) mNil))) mNoP (mPart (mCall 2 m_L_pull (mCons (mVar 0) (mCons (mOp addD (mVar 1) (mC (.int 1))) mNil)))))) (gN 4) (mSeq (mAsg (mLst (mCons (mTup (mCons (mTup (mCons (mC (.int 1)) (mCons (mC (.int 1)) mNil))) (mCons (mTup (mCons (mC (.int 0)) (mCons (mC (.int 1)) mNil))) (mCons (mTup (mCons (mC (.int 0)) (mCons (mC (.int 1)) mNil))) mNil)))) (mCons (mTup (mCons (mTup (mCons (mC (.int 0)) (mCons (mC (.int 1)) mNil))) (mCons (mTup (mCons (mC (.int 1)) (mCons (mC (.int 1)) mNil))) (mCons (mTup (mCons (mC (.int 0)) (mCons (mC (.int 1)) mNil))) mNil)))) mNil))) (gN 5))
  (mSeq (mAsg (mOp addD (mVar 5) (mLst (mCons (mTup (mCons (mTup (mCons (mC (.int 1)) (mCons (mC (.int 1)) mNil))) (mCons (mTup (mCons (mC (.int 1)) (mCons (mC (.int 1)) mNil))) (mCons (mTup (mCons (mC (.int 0)) (mCons (mC (.int 1)) mNil))) mNil)))) (mCons (mTup (mCons (mTup (mCons (mC (.int 1)) (mCons (mC (.int 1)) mNil))) (mCons (mTup (mCons (mOp subD (mC (.int 0)) (mC (.int 1))) (mCons (mC (.int 1)) mNil))) (mCons (mTup (mCons (mC (.int 0)) (mCons (mC (.int 1)) mNil))) mNil)))) mNil)))) (gN 5))
  (mSeq (mAsg (mCall 2 m_L_item (mCons (mVar 0) (mCons (mOp addD (mVar 5) (mRep 2 (mCons (mTup (mCons (mCall 2 m_L_small (mCons (mVar 0) (mCons (mC (.int 3)) mNil))) (mCons (mCall 2 m_L_small (mCons (mVar 0) (mCons (mC (.int 3)) mNil))) (mCons (mTup (mCons (mC (.int 0)) (mCons (mC (.int 1)) mNil))) mNil)))) mNil))) mNil))) (gTupM 3 (gConsM (gN 6) (gConsM (gN 7) (gConsM (gN 8) gNilM)))))
  (mSeq (mAsg (mCall 2 m_L_item (mCons (mVar 0) (mCons (mLst (mCons (mVar 8) (mCons (mVar 8) (mCons (mCall 2 m_L_small (mCons (mVar 0) (mCons (mC (.int 3)) mNil))) mNil)))) mNil))) (gN 8))
  (mSeq (mAsg (mCall 2 m_L_item (mCons (mVar 0) (mCons (mLst (mCons (mTup (mCons (mC (.int 1)) (mCons (mC (.int 1)) mNil))) (mCons (mTup (mCons (mC (.int 1)) (mCons (mC (.int 1)) mNil))) (mCons (mTup (mCons (mOp subD (mC (.int 0)) (mC (.int 1))) (mCons (mC (.int 1)) mNil))) (mCons (mTup (mCons (mC (.int 2)) (mCons (mC (.int 3)) mNil))) mNil))))) mNil))) (gN 9))
  (mSeq (mAsg (mCB (one tupleD) (mCons (mLc [11] (mIt (mTup (mCons (mVar 6) (mCons (mVar 7) (mCons (mVar 8) mNil))))) (gN 11) mYes (mCall 2 m_L_product (mCons (mVar 11) (mCons (mVar 9) mNil)))) mNil)) (gN 10))
  (mIfS (mAnd (mB (mOp neD (mSl (mVar 10) mNoP (mPart (mC (.int 2)))) (mTup (mCons (mTup (mCons (mC (.int 0)) (mCons (mC (.int 1)) mNil))) (mCons (mTup (mCons (mC (.int 0)) (mCons (mC (.int 1)) mNil))) mNil))))) (mB (mOp eqD (mLcS fzL [12] (mVar 2) (gN 12) (mB (mCall 2 m_L_same_place (mCons (mVar 10) (mCons (mSl (mVar 12) (mPart (mC (.int 1))) mNoP) mNil)))) (mC (.int 1))) (mLst mNil)))) (mDrop (mMet isL appendD (mVar 2) (mCons (mOp addD (mTup (mCons (mVar 4) mNil)) (mVar 10)) mNil))) mNext))))))))
  (mRet (mCB (one tupleD) (mCons (mVar 2) mNil))))))
noncomputable def m_L_some_plan : List D → M D := mFun 7 (mSeq (mAsg (mCall 2 m_L_some_lines (mCons (mVar 0) (mCons (mVar 1) mNil))) (gN 2))
  (mSeq (mAsg (mNew mNil) (gN 3))
  (mSeq (mFor (mRange1 (mCall 2 m_L_pull (mCons (mVar 0) (mCons (mCall 2 m_L_item (mCons (mVar 0) (mCons (mLst (mCons (mC (.int 5)) (mCons (mC (.int 12)) mNil))) mNil))) mNil)))) (gN 4) (mSeq (mAsg (mLc [6] (mIt (mVar 2)) (gN 6) (mB (mOp eqD (mCall 2 m_L_pull (mCons (mVar 0) (mCons (mC (.int 2)) mNil))) (mC (.int 0)))) (mTup (mCons (mOp ixD (mVar 6) (mC (.int 0))) (mCons (mCall 2 m_L_item (mCons (mVar 0) (mCons (mLst (mCons (mC (.int 1)) (mCons (mOp subD (mC (.int 0)) (mC (.int 1))) mNil))) mNil))) mNil)))) (gN 5))
  (mIfS (mB (mOp neD (mVar 5) (mLst mNil))) (mDrop (mMet isL appendD (mVar 3) (mCons (mTup (mCons (mTup (mCons (mCall 2 m_L_small (mCons (mVar 0) (mCons (mC (.int 2)) mNil))) (mCons (mCall 2 m_L_small (mCons (mVar 0) (mCons (mC (.int 2)) mNil))) mNil))) (mCons (mCB (one tupleD) (mCons (mVar 5) mNil)) mNil))) mNil))) mNext)))
  (mSeq (mAsg (mOp addN (mVar 3) (mIf (mAnd (mB (mOp ltD (mCB (one lenD) (mCons (mVar 3) mNil)) (mC (.int 11)))) (mB (mOp eqD (mCall 2 m_L_pull (mCons (mVar 0) (mCons (mC (.int 4)) mNil))) (mC (.int 0))))) (mSl (mVar 3) mNoP (mPart (mC (.int 1)))) (mLst mNil))) (gN 3))
  (mRet (mTup (mCons (mVar 2) (mCons (mOp addD (mCB (one tupleD) (mCons (mVar 3) mNil)) (mTup (mCons (mTup (mCons (mTup (mCons (mCall 2 m_L_small (mCons (mVar 0) (mCons (mC (.int 2)) mNil))) (mCons (mCall 2 m_L_small (mCons (mVar 0) (mCons (mC (.int 2)) mNil))) mNil))) (mCons (mTup mNil) mNil))) mNil))) mNil))))))))
noncomputable def m_L_urn : List D → M D := mFun 4 (mSeq (mAsg (mLcN [3] (mIt (mSl (mVar 0) mNoP (mPart (mC (.int 13))))) (gN 3) mYes (mCB (one absD) (mCons (mVar 3) mNil))) (gN 1))
  (mSeq (mFor (mEnum (mSl (mVar 0) (mPart (mC (.int 13))) (mPart (mC (.int 60))))) (gTupM 2 (gConsM (gN 2) (gConsM (gN 3) gNilM))) (mAsg (mOp addD (mOp ixD (mVar 1) (mOp modD (mVar 2) (mC (.int 13)))) (mCB (one absD) (mCons (mVar 3) mNil))) (gSubM (mVar 1) (mOp modD (mVar 2) (mC (.int 13))))))
  (mRet (mNew (mCons (mFrz (mVar 1)) (mCons (mC (.int 0)) (mCons (mC (.int 0)) mNil)))))))
noncomputable def b_law_1 : SM := (mSeq (mAsg (mCall 3 m_course (mCons (mVar 3) (mCons (mVar 6) (mCons (mVar 7) mNil)))) (gN 10))
  (mSeq (mIfS (mNot (mB (mCall 2 m_L_twin (mCons (mVar 10) (mCons (mVar 8) mNil))))) (mRet (mC (.bl false))) mNext)
  (mDrop (mMet isL appendD (mVar 10) (mCons (mC (.str "")) mNil)))))
noncomputable def b_law_2 : SM := (mSeq (mAsg (mCall 2 m_L_some_point (mCons (mVar 1) (mCons (mVar 3) mNil))) (gN 6))
  (mSeq (mAsg (mCall 2 m_L_pull (mCons (mVar 1) (mCons (mCall 2 m_L_item (mCons (mVar 1) (mCons (mLst (mCons (mC (.int 1)) (mCons (mC (.int 4)) (mCons (mC (.int 31)) mNil)))) mNil))) mNil))) (gN 7))
  (mSeq (mAsg (mCall 3 m_L_entries (mCons (mVar 3) (mCons (mVar 6) (mCons (mVar 7) mNil)))) (gN 8))
  (mFor (mRange1 (mC (.int 2))) (gN 9) b_law_1))))
noncomputable def b_law_3 : SM := (mSeq (mAsg (mCall 2 m_L_some_plan (mCons (mVar 1) (mCons (mC (.int 6)) mNil))) (gN 3))
  (mSeq (mAsg (mCB (one reprD) (mCons (mVar 3) mNil)) (gN 4))
  (mSeq (mFor (mRange1 (mC (.int 3))) (gN 5) b_law_2)
  (mIfS (mB (mOp neD (mCB (one reprD) (mCons (mVar 3) mNil)) (mVar 4))) (mRet (mC (.bl false))) mNext))))
noncomputable def m_law : List D → M D := mFun 11 (mSeq (mAsg (mCall 1 m_L_urn (mCons (mVar 0) mNil)) (gN 1))
  (mSeq (mFor (mRange1 (mC (.int 6))) (gN 2) b_law_3)
  (mSeq (mAsg (mCall 2 m_L_item (mCons (mVar 1) (mCons (mLst (mCons (mCall 1 m_L_wheel (mCons (mVar 1) mNil)) (mCons (mCall 1 m_L_strip (mCons (mVar 1) mNil)) mNil))) mNil))) (gN 3))
  (mSeq (mPar 6 7 (mCall 2 m_L_some_point (mCons (mVar 1) (mCons (mVar 3) mNil))) (mOp addD (mC (.int 31)) (mCall 2 m_L_pull (mCons (mVar 1) (mCons (mC (.int 170)) mNil)))))
  (mRet (mCall 2 m_L_twin (mCons (mCall 3 m_course (mCons (mVar 3) (mCons (mVar 6) (mCons (mVar 7) mNil)))) (mCons (mCall 3 m_L_entries (mCons (mVar 3) (mCons (mVar 6) (mCons (mVar 7) mNil)))) mNil))))))))
end DL

/-! Plain laws: the package's and the law's fractions. -/
namespace DL
open PySem PySem.Spec PyProof.Rows L2

theorem s_divisor (x y : Int) (S : Store) : m_greatest_divisor [.int x, .int y] S = .ok (.int (Int.gcd x y : Nat)) S := by
  obtain ⟨g, h1, h2, _⟩ := eu_loop (i := 0) (j := 1) (by decide) y.natAbs [some (.int x), some (.int y)] x y S rfl rfl (Nat.le_refl _)
  unfold m_greatest_divisor
  simp only [x_fun, x_seq, start_def, List.map, List.length, Nat.sub_self, List.replicate, List.append_nil, h1, O.then_nx]
  simp
  split <;> omega
theorem s_fraction {n : Nat} {t b : Int} (S : Store) (hb : b ≠ 0) (hs : Sz n b) (hn : n < 9000) : m_fraction [.int t, .int b] S = .ok (fr (Rat.divInt t b)) S := by
  unfold m_fraction
  simp [hb, s_divisor]
  have hg : (Int.gcd t b : Nat) ≤ b.natAbs := Nat.le_of_dvd (by omega) (Nat.gcd_dvd_right t.natAbs b.natAbs)
  by_cases h : b < 0
  · obtain ⟨g0, h1, h2⟩ := divInt_parts (t := t) (b := b) (g := -((Int.gcd t b : Nat) : Int)) hb (by omega) (fun z => by omega) (fun z => by omega)
    have sg : Sz n (-((Int.gcd t b : Nat) : Int)) := by unfold Sz at *; omega
    simp [h, fdiv_ok S sg hn g0, h1, h2, -x_fdiv, sizeLine]
    rfl
  · obtain ⟨g0, h1, h2⟩ := divInt_parts (t := t) (b := b) (g := ((Int.gcd t b : Nat) : Int)) hb (by omega) (fun z => by omega) (fun z => by omega)
    have sg : Sz n (((Int.gcd t b : Nat) : Int)) := by unfold Sz at *; omega
    simp [h, fdiv_ok S sg hn g0, h1, h2, -x_fdiv, sizeLine]
    rfl
theorem s_fraction0 (t : Int) (S : Store) : m_fraction [.int t, .int 0] S = .exn (.exc "ZeroDivisor" [] []) S := by
  unfold m_fraction
  simp
theorem s_low {n : Nat} {t b : Int} (S : Store) (hb : b ≠ 0) (hs : Sz n b) (hn : n < 9000) : m_L_low [.int t, .int b] S = .ok (fr (Rat.divInt t b)) S := by
  have e1 : (if t < 0 then -t else t) = (t.natAbs : Int) := by split <;> omega
  have e2 : (if b < 0 then -b else b) = (b.natAbs : Int) := by split <;> omega
  obtain ⟨g, h1, h2, h3⟩ := eu_loop (i := 2) (j := 3) (by decide) b.natAbs [some (.int t), some (.int b), some (.int t.natAbs), some (.int b.natAbs)] t.natAbs b.natAbs S rfl rfl (by omega)
  have g0 : 0 ≤ g := h3 (by omega) (by omega)
  have h2 : g.natAbs = Int.gcd t b := by rw [h2]; simp [Int.gcd]
  have hg : (Int.gcd t b : Nat) ≤ b.natAbs := Nat.le_of_dvd (by omega) (Nat.gcd_dvd_right t.natAbs b.natAbs)
  unfold m_L_low
  simp [e1, e2, h1]
  by_cases h : 0 < b
  · obtain ⟨g0, h1, h2⟩ := divInt_parts (t := t) (b := b) (g := g) hb (by omega) (fun z => by omega) (fun z => by omega)
    have sg : Sz n g := by unfold Sz at *; omega
    simp [h, fdiv_ok S sg hn g0, h1, h2, -x_fdiv, sizeLine]
    rfl
  · obtain ⟨g0, h1, h2⟩ := divInt_parts (t := t) (b := b) (g := -g) hb (by omega) (fun z => by omega) (fun z => by omega)
    have sg : Sz n (-g) := by unfold Sz at *; omega
    simp [h, fdiv_ok S sg hn g0, h1, h2, -x_fdiv, sizeLine]
    rfl
theorem s_plus {m n : Nat} {q r : Rat} (S : Store) (h : RS m q) (k : RS n r) (hn : m + n < 9000) : m_plus [fr q, fr r] S = .ok (fr (q + r)) S := by
  unfold m_plus
  simp [fr, -x_mul, mul_ok S h.1 k.den (by omega), mul_ok S k.1 h.den (by omega), mul_ok S h.den k.den (by omega)]
  rw [s_fraction S (Int.mul_ne_zero (den_ne q) (den_ne r)) (h.den.mul k.den) hn, add_eq]
  rfl
theorem s_times {m n : Nat} {q r : Rat} (S : Store) (h : RS m q) (k : RS n r) (hn : m + n < 9000) : m_times [fr q, fr r] S = .ok (fr (q * r)) S := by
  unfold m_times
  simp [fr, -x_mul, mul_ok S h.1 k.1 (by omega), mul_ok S h.den k.den (by omega)]
  rw [s_fraction S (Int.mul_ne_zero (den_ne q) (den_ne r)) (h.den.mul k.den) hn, mul_eq]
  rfl
theorem s_Lsum {m n : Nat} {q r : Rat} (S : Store) (h : RS m q) (k : RS n r) (hn : m + n < 9000) : m_L_sum [fr q, fr r] S = .ok (fr (q + r)) S := by
  unfold m_L_sum
  simp [fr, -x_mul, mul_ok S h.1 k.den (by omega), mul_ok S k.1 h.den (by omega), mul_ok S h.den k.den (by omega)]
  rw [s_low S (Int.mul_ne_zero (den_ne q) (den_ne r)) (h.den.mul k.den) hn, add_eq]
  rfl
theorem s_Lproduct {m n : Nat} {q r : Rat} (S : Store) (h : RS m q) (k : RS n r) (hn : m + n < 9000) : m_L_product [fr q, fr r] S = .ok (fr (q * r)) S := by
  unfold m_L_product
  simp [fr, -x_mul, mul_ok S h.1 k.1 (by omega), mul_ok S h.den k.den (by omega)]
  rw [s_low S (Int.mul_ne_zero (den_ne q) (den_ne r)) (h.den.mul k.den) hn, mul_eq]
  rfl
end DL

/-! Plain laws: the urn. -/
namespace DL
open PySem PySem.Spec PyProof.Rows L2

theorem sz_lit {n : Nat} {z : Int} (h : z.natAbs < 2 ^ n) : Sz n z := h
theorem sz_lt {n : Nat} {z : Int} (h0 : 0 ≤ z) (h : z < 2 ^ n) : Sz n z := by
  unfold Sz
  have : (z.natAbs : Int) < ((2 ^ n : Nat) : Int) := by
    rw [show (z.natAbs : Int) = z by omega]; simpa using h
  omega
def blownB : SM := mAsg (mOp modD (mOp addD (mOp addD (mOp addD (mOp mulD (mVar 3) (mVar 3)) (mOp mulD (mC (.int 10)) (mVar 3))) (mOp mulD (mC (.int 401)) (mVar 4))) (mVar 1)) (mVar 2)) (gN 3)
theorem blown_def : m_L_blown = mFun 5 (mSeq (mAsg (mC (.int 1000000000000001429)) (gN 2))
  (mSeq (mAsg (mOp modD (mOp addD (mOp addD (mOp mulD (mVar 0) (mC (.int 5281877500950955839))) (mOp mulD (mC (.int 1442695040888963407)) (mVar 1))) (mC (.int 53))) (mVar 2)) (gN 3))
  (mSeq (mFor (mRange1 (mC (.int 4))) (gN 4) blownB)
  (mRet (mOp addD (mOp mulD (mVar 3) (mVar 2)) (mOp modD (mOp addD (mOp mulD (mVar 3) (mC (.int 69069))) (mVar 1)) (mVar 2))))))) := rfl
theorem blown_turn {a f t x : Int} {ρ4 : Option D} {v : D} (S : Store) (hf : 0 ≤ f ∧ f < 1000000000000001429) (ht : Sz 8 t) :
    ∃ f' : Int, blownB [some v, some (.int a), some (.int 1000000000000001429), some (.int f), some (.int t)] S = .go .nx [some v, some (.int a), some (.int 1000000000000001429), some (.int f'), some (.int t)] S ∧ 0 ≤ f' ∧ f' < 1000000000000001429 := by
  have sf : Sz 60 f := sz_lt hf.1 (by have := hf.2; omega)
  have e1 := mul_ok S sf sf (by decide)
  have e2 := mul_ok S (sz_lit (n := 4) (z := 10) (by decide)) sf (by decide)
  have e3 := mul_ok S (sz_lit (n := 9) (z := 401) (by decide)) ht (by decide)
  refine ⟨(f * f + 10 * f + 401 * t + a).fmod 1000000000000001429, ?_, Int.fmod_nonneg_of_pos _ (by decide), Int.fmod_lt_of_pos _ (by decide)⟩
  simp [blownB, -x_mul, e1, e2, e3]
theorem s_blown {v a : Int} (S : Store) (hv : Sz 70 v) (ha : Sz 64 a) : ∃ r : Int, m_L_blown [.int v, .int a] S = .ok (.int r) S ∧ 0 ≤ r := by
  have e1 := mul_ok S hv (sz_lit (n := 63) (z := 5281877500950955839) (by decide)) (by decide)
  have e2 := mul_ok S (sz_lit (n := 61) (z := 1442695040888963407) (by decide)) ha (by decide)
  have f0 : 0 ≤ (v * 5281877500950955839 + 1442695040888963407 * a + 53).fmod 1000000000000001429 ∧ (v * 5281877500950955839 + 1442695040888963407 * a + 53).fmod 1000000000000001429 < 1000000000000001429 := ⟨Int.fmod_nonneg_of_pos _ (by decide), Int.fmod_lt_of_pos _ (by decide)⟩
  obtain ⟨f1, h1, g1⟩ := blown_turn (a := a) (t := 0) (x := 0) (ρ4 := none) (v := .int v) S f0 (by unfold Sz; decide)
  obtain ⟨f2, h2, g2⟩ := blown_turn (a := a) (t := 1) (x := 0) (ρ4 := none) (v := .int v) S g1 (by unfold Sz; decide)
  obtain ⟨f3, h3, g3⟩ := blown_turn (a := a) (t := 2) (x := 0) (ρ4 := none) (v := .int v) S g2 (by unfold Sz; decide)
  obtain ⟨f4, h4, g4⟩ := blown_turn (a := a) (t := 3) (x := 0) (ρ4 := none) (v := .int v) S g3 (by unfold Sz; decide)
  have s4 : Sz 60 f4 := sz_lt g4.1 (by have := g4.2; omega)
  have e5 := mul_ok S s4 (sz_lit (n := 60) (z := 1000000000000001429) (by decide)) (by decide)
  have e6 := mul_ok S s4 (sz_lit (n := 17) (z := 69069) (by decide)) (by decide)
  refine ⟨f4 * 1000000000000001429 + (f4 * 69069 + a).fmod 1000000000000001429, ?_, ?_⟩
  · rw [blown_def]
    simp [-x_mul, e1, e2, mForL, h1, h2, h3, h4, e5, e6, show rangeL 0 4 = [.int 0, .int 1, .int 2, .int 3] from rfl]
  · have := Int.fmod_nonneg_of_pos (f4 * 69069 + a) (b := 1000000000000001429) (by decide)
    have := Int.mul_nonneg g4.1 (show (0 : Int) ≤ 1000000000000001429 by decide)
    omega

/-- the urn at u: at most k numbers have been pulled -/
structure Urn (u k : Nat) (S : Store) : Prop where
  ex : ∃ (ns : List Int) (a v : Int), S[u]? = some (.lst [.lst (ns.map .int), .int a, .int v]) ∧ (∀ z ∈ ns, 0 ≤ z) ∧ 0 ≤ a ∧ a ≤ k ∧ 0 ≤ v ∧ ns.length ≤ 63
theorem Urn.mono {u j k : Nat} {S : Store} (h : Urn u j S) (hk : j ≤ k) : Urn u k S := by
  obtain ⟨ns, a, v, h1, h2, h3, h4, h5⟩ := h.ex
  exact ⟨ns, a, v, h1, h2, h3, by omega, h5⟩
/-- S' is S but for what stands at u -/
structure But (u : Nat) (S S' : Store) : Prop where
  len : S'.length = S.length
  at_ : ∀ n, n ≠ u → S'[n]? = S[n]?
theorem But.refl (u : Nat) (S : Store) : But u S S := ⟨rfl, fun _ _ => rfl⟩
theorem But.trans {u : Nat} {S S1 S2 : Store} (h : But u S S1) (k : But u S1 S2) : But u S S2 := ⟨k.len.trans h.len, fun n hn => (k.at_ n hn).trans (h.at_ n hn)⟩
theorem But.set (u : Nat) (S : Store) (o : Ob) : But u S (S.set u o) := ⟨by simp, fun n hn => by rw [List.getElem?_set_ne (Ne.symm hn)]⟩
theorem ix_ref {u : Nat} {S : Store} {l : List D} {i : Int} {d : D} (h : S[u]? = some (.lst l)) (hi : atI l i = some d) : ixD (.ref u) (.int i) S = .ok d S := by
  simp [ixD, lstOf, h, hi]
theorem gsub_at {u k : Nat} {l : List D} {fo fi : EM} {ρ : Env} {S : Store} (d : D) (h1 : fo ρ S = .ok (.ref u) S) (h2 : fi ρ S = .ok (.int (k : Nat)) S) (h : S[u]? = some (.lst l)) (hk : k < l.length) : gSubM fo fi d ρ S = some (ρ, S.set u (.lst (l.set k d))) := by
  have e : ixN l.length (k : Int) = some k := by
    unfold ixN
    rw [if_pos (by omega), if_pos (by omega)]; simp
  simp [gSubM, h1, h2, setIx, h, e]
theorem plains_ints (n : Nat) : ∀ ns : List Int, plains n (ns.map D.int) = true
  | [] => rfl
  | z :: ns => by simp [plains, plain, plains_ints n ns]
theorem ne_nil (ns : List Int) (S : Store) : neD (.lst (ns.map D.int)) (.lst []) S = .ok (.bl (decide (ns ≠ []))) S := by
  cases ns with
  | nil => rfl
  | cons z ns =>
    simp [neD, plain, plains, eqB, eqBs, plains_ints]
def pullV : EM := mIf (mB (mOp neD (mVar 2) (mLst mNil))) (mOp ixD (mVar 2) (mOp modD (mVar 3) (mCB (one lenD) (mCons (mVar 2) mNil)))) (mC (.int 0))
noncomputable def pullW : SM := mIfS (mOr (mB (mOp ltD (mVar 4) (mOp powD (mC (.int 10)) (mC (.int 18))))) (mB (mOp geD (mVar 3) (mCB (one lenD) (mCons (mVar 2) mNil))))) (mAsg (mCall 2 m_L_blown (mCons (mOp addD (mOp modD (mVar 4) (mOp powD (mC (.int 10)) (mC (.int 15)))) (mOp fdivD (mVar 3) (mOp addD (mCB (one lenD) (mCons (mVar 2) mNil)) (mC (.int 1))))) (mCons (mVar 3) mNil))) (gN 4)) mNext
def pullX : SM := mSeq (mAsg (mOp addD (mVar 3) (mC (.int 1))) (gSubM (mVar 0) (mC (.int 1)))) (mAsg (mVar 4) (gSubM (mVar 0) (mC (.int 2))))
theorem pull_def : m_L_pull = mFun 6 (mSeq (mIfS (mB (mOp ltD (mOp ixD (mVar 0) (mC (.int 2))) (mVar 1))) (mSeq (mPar 2 3 (mOp ixD (mVar 0) (mC (.int 0))) (mOp ixD (mVar 0) (mC (.int 1))))
  (mSeq (mAsg pullV (gN 4)) (mSeq pullW pullX))) mNext)
  (mSeq (mAsg (mOp modD (mOp ixD (mVar 0) (mC (.int 2))) (mVar 1)) (gN 5))
  (mSeq (mAsg (mOp fdivD (mOp ixD (mVar 0) (mC (.int 2))) (mVar 1)) (gSubM (mVar 0) (mC (.int 2))))
  (mRet (mVar 5))))) := rfl
theorem s_pullV (u : Nat) (m : Int) {ns : List Int} {a : Int} (S : Store) (h0 : ∀ z ∈ ns, 0 ≤ z) (ha : 0 ≤ a) (hl : ns.length ≤ 63) (x4 x5 : Option D) :
    ∃ v : Int, pullV [some (.ref u), some (.int m), some (.lst (ns.map .int)), some (.int a), x4, x5] S = .ok (.int v) S ∧ 0 ≤ v := by
  by_cases hn : ns = []
  · subst hn
    exact ⟨0, by simp [pullV, sizeLine, show neD (.lst []) (.lst []) S = .ok (.bl false) S from rfl], by decide⟩
  · have hp : 0 < ns.length := List.length_pos_iff.mpr hn
    have h1 := Int.fmod_nonneg_of_pos a (b := (ns.length : Int)) (by omega)
    have h2 := Int.fmod_lt_of_pos a (b := (ns.length : Int)) (by omega)
    obtain ⟨j, hj⟩ := Int.eq_ofNat_of_zero_le h1
    have hjl : j < ns.length := by omega
    refine ⟨ns[j], ?_, h0 _ (List.getElem_mem hjl)⟩
    have e : atI (ns.map D.int) (a.fmod ns.length) = some (.int ns[j]) := by
      rw [hj]
      rw [show ((j : Nat) : Int) = ((j : Nat) : Int) from rfl, atI_nat]; simp [hjl]
    simp [pullV, sizeLine, ne_nil, hn, e]
theorem s_pullW (u : Nat) (m : Int) {ns : List Int} {a v : Int} (S : Store) (ha : 0 ≤ a) (hb : a < 2 ^ 63) (hv : 0 ≤ v) (hl : ns.length ≤ 63) (x5 : Option D) :
    ∃ v' : Int, pullW [some (.ref u), some (.int m), some (.lst (ns.map .int)), some (.int a), some (.int v), x5] S = .go .nx [some (.ref u), some (.int m), some (.lst (ns.map .int)), some (.int a), some (.int v'), x5] S ∧ 0 ≤ v' := by
  have q0 := Int.fmod_nonneg_of_pos v (b := 10 ^ 15) (by decide)
  have q1 := Int.fmod_lt_of_pos v (b := 10 ^ 15) (by decide)
  have q2 : 0 ≤ a.fdiv ((ns.length : Int) + 1) ∧ a.fdiv ((ns.length : Int) + 1) ≤ a := by
    rw [Int.fdiv_eq_ediv_of_nonneg _ (by omega)]
    exact ⟨Int.ediv_nonneg ha (by omega), Int.ediv_le_self _ ha⟩
  obtain ⟨r, h1, h2⟩ := s_blown (v := v.fmod (10 ^ 15) + a.fdiv ((ns.length : Int) + 1)) (a := a) S (sz_lt (by omega) (by omega)) (sz_lt ha (by omega))
  have e1 := fdiv_ok (n := 7) (x := a) S (y := (ns.length : Int) + 1) (by unfold Sz; omega) (by decide) (by omega)
  by_cases c : v < 10 ^ 18 ∨ (ns.length : Int) ≤ a
  · refine ⟨r, ?_, h2⟩
    by_cases c1 : v < 10 ^ 18
    · simp only [show (10 : Int) ^ 18 = 1000000000000000000 from rfl, show (10 : Int) ^ 15 = 1000000000000000 from rfl] at *
      simp [pullW, c1, -x_fdiv, e1, h1]
    · have c2 : (ns.length : Int) ≤ a := by rcases c with c | c; exact absurd c c1; exact c
      simp only [show (10 : Int) ^ 18 = 1000000000000000000 from rfl, show (10 : Int) ^ 15 = 1000000000000000 from rfl] at *
      simp [pullW, c1, c2, -x_fdiv, e1, h1]
  · refine ⟨v, ?_, hv⟩
    have c1 : ¬ v < 10 ^ 18 := fun z => c (.inl z)
    have c2 : ¬ (ns.length : Int) ≤ a := fun z => c (.inr z)
    simp only [show (10 : Int) ^ 18 = 1000000000000000000 from rfl] at *
    simp [pullW, c1, c2]
theorem s_pull {u k n : Nat} {m : Int} {S : Store} (h : Urn u k S) (hm : 0 < m) (hs : Sz n m) (hn : n < 9000) (hk : k < 2 ^ 63) :
    ∃ (r : Int) (S' : Store), m_L_pull [.ref u, .int m] S = .ok (.int r) S' ∧ 0 ≤ r ∧ r < m ∧ Urn u (k + 1) S' ∧ But u S S' := by
  obtain ⟨ns, a, v, hS, h0, ha, hak, hv, hl⟩ := h.ex
  have hul : u < S.length := (List.getElem?_eq_some_iff.mp hS).1
  have fin : ∀ (S1 : Store) (a v : Int) (x2 x3 x4 : Option D), S1[u]? = some (.lst [.lst (ns.map .int), .int a, .int v]) → 0 ≤ v → 
      mSeq (mAsg (mOp modD (mOp ixD (mVar 0) (mC (.int 2))) (mVar 1)) (gN 5)) (mSeq (mAsg (mOp fdivD (mOp ixD (mVar 0) (mC (.int 2))) (mVar 1)) (gSubM (mVar 0) (mC (.int 2)))) (mRet (mVar 5))) [some (.ref u), some (.int m), x2, x3, x4, none] S1
        = .go (.rt (.int (v.fmod m))) [some (.ref u), some (.int m), x2, x3, x4, some (.int (v.fmod m))] (S1.set u (.lst [.lst (ns.map .int), .int a, .int (v.fdiv m)])) := fun S1 a v x2 x3 x4 h1 hv => by
    have e1 := ix_ref (i := 2) h1 (d := .int v) rfl
    have e2 := fdiv_ok (x := v) S1 hs hn (by omega)
    have e3 := gsub_at (fo := mVar 0) (fi := mC (.int 2)) (ρ := [some (.ref u), some (.int m), x2, x3, x4, some (.int (v.fmod m))]) (k := 2) (.int (v.fdiv m)) rfl rfl h1 (by simp)
    simp [e1, -x_fdiv, e2, e3, (show m ≠ 0 by omega)]
  have last : ∀ (S1 : Store) (a' v' : Int), S1[u]? = some (.lst [.lst (ns.map .int), .int a', .int v']) → 0 ≤ v' → 0 ≤ a' → a' ≤ k + 1 → But u S S1 → 0 ≤ v'.fmod m ∧ v'.fmod m < m ∧ Urn u (k + 1) (S1.set u (.lst [.lst (ns.map .int), .int a', .int (v'.fdiv m)])) ∧ But u S (S1.set u (.lst [.lst (ns.map .int), .int a', .int (v'.fdiv m)])) := fun S1 a' v' h1 h2 h3 h4 hb => by
    refine ⟨Int.fmod_nonneg_of_pos _ hm, Int.fmod_lt_of_pos _ hm, ⟨ns, a', v'.fdiv m, ?_, h0, h3, by omega, ?_, hl⟩, hb.trans (But.set u S1 _)⟩
    · rw [List.getElem?_set_self (by rw [hb.len]; exact hul)]
    · rw [Int.fdiv_eq_ediv_of_nonneg _ (by omega)]
      exact Int.ediv_nonneg h2 (by omega)
  rw [pull_def]
  by_cases c : v < m
  · obtain ⟨v1, p1, p2⟩ := s_pullV u m (ns := ns) (a := a) S h0 ha hl none none
    obtain ⟨v2, p3, p4⟩ := s_pullW u m (ns := ns) (a := a) (v := v1) S ha (by omega) p2 hl none
    have e1 := ix_ref (i := 2) hS (d := .int v) rfl
    have e2 := ix_ref (i := 0) hS (d := .lst (ns.map .int)) rfl
    have e3 := ix_ref (i := 1) hS (d := .int a) rfl
    have g1 : gSubM (mVar 0) (mC (.int 1)) (.int (a + 1)) [some (.ref u), some (.int m), some (.lst (ns.map .int)), some (.int a), some (.int v2), none] S = some (_, S.set u (.lst [.lst (ns.map .int), .int (a + 1), .int v])) := gsub_at (k := 1) (.int (a + 1)) rfl rfl hS (by simp)
    have hS1 : (S.set u (.lst [.lst (ns.map .int), .int (a + 1), .int v]))[u]? = some (.lst ([.lst (ns.map .int), .int (a + 1), .int v])) := by
      rw [List.getElem?_set_self hul]
    have g2 : gSubM (mVar 0) (mC (.int 2)) (.int v2) [some (.ref u), some (.int m), some (.lst (ns.map .int)), some (.int a), some (.int v2), none] (S.set u (.lst [.lst (ns.map .int), .int (a + 1), .int v])) = some (_, (S.set u (.lst [.lst (ns.map .int), .int (a + 1), .int v])).set u (.lst [.lst (ns.map .int), .int (a + 1), .int v2])) := gsub_at (k := 2) (.int v2) rfl rfl hS1 (by simp)
    rw [List.set_set] at g2
    have hS2 : (S.set u (.lst [.lst (ns.map .int), .int (a + 1), .int v2]))[u]? = some (.lst ([.lst (ns.map .int), .int (a + 1), .int v2])) := by
      rw [List.getElem?_set_self hul]
    have ff := fin _ (a + 1) v2 (some (.lst (ns.map .int))) (some (.int a)) (some (.int v2)) hS2 p4
    obtain ⟨l1, l2, l3, l4⟩ := last _ (a + 1) v2 hS2 p4 (by omega) (by omega) (But.set u S _)
    refine ⟨_, _, ?_, l1, l2, l3, l4⟩
    rw [x_fun, x_seq]
    have : (mIfS (mB (mOp ltD (mOp ixD (mVar 0) (mC (.int 2))) (mVar 1))) (mSeq (mPar 2 3 (mOp ixD (mVar 0) (mC (.int 0))) (mOp ixD (mVar 0) (mC (.int 1)))) (mSeq (mAsg pullV (gN 4)) (mSeq pullW pullX))) mNext) (start0 6 [.ref u, .int m]) S
       = .go .nx [some (.ref u), some (.int m), some (.lst (ns.map .int)), some (.int a), some (.int v2), none] (S.set u (.lst [.lst (ns.map .int), .int (a + 1), .int v2])) := by
      simp [e1, e2, e3, c, p1, p3, pullX, g1, g2]
    rw [this, O.then_nx, ff]
  · have e1 := ix_ref (i := 2) hS (d := .int v) rfl
    have ff := fin _ a v none none none hS hv
    obtain ⟨l1, l2, l3, l4⟩ := last _ a v hS hv (by omega) (by omega) (But.refl u S)
    refine ⟨_, _, ?_, l1, l2, l3, l4⟩
    rw [x_fun, x_seq]
    have : (mIfS (mB (mOp ltD (mOp ixD (mVar 0) (mC (.int 2))) (mVar 1))) (mSeq (mPar 2 3 (mOp ixD (mVar 0) (mC (.int 0))) (mOp ixD (mVar 0) (mC (.int 1)))) (mSeq (mAsg pullV (gN 4)) (mSeq pullW pullX))) mNext) (start0 6 [.ref u, .int m]) S
       = .go .nx [some (.ref u), some (.int m), none, none, none, none] S := by
      simp [e1, c]
    rw [this, O.then_nx, ff]
theorem s_item {u k : Nat} {l : List D} {S : Store} (h : Urn u k S) (h0 : l ≠ []) (hl : l.length < 2 ^ 60) (hk : k < 2 ^ 63) :
    ∃ (d : D) (S' : Store), m_L_item [.ref u, .lst l] S = .ok d S' ∧ d ∈ l ∧ Urn u (k + 1) S' ∧ But u S S' := by
  have hp : 0 < l.length := List.length_pos_iff.mpr h0
  obtain ⟨r, S', e, r0, r1, h1, h2⟩ := s_pull (m := (l.length : Int)) (n := 60) h (by omega) (by unfold Sz; omega) (by decide) hk
  obtain ⟨j, hj⟩ := Int.eq_ofNat_of_zero_le r0
  subst hj
  have hjl : j < l.length := by omega
  refine ⟨l[j], S', ?_, List.getElem_mem hjl, h1, h2⟩
  have e2 : atI l ((j : Nat) : Int) = some l[j] := by rw [atI_nat]; simp [hjl]
  unfold m_L_item
  simp [e, e2]
/-- a comprehension of one value each -/
theorem lc_map {i : Nat} {te : EM} {ρ : Env} {S : Store} {f : D → D} : ∀ {ds : List D}, (∀ d ∈ ds, te (ρ.set i (some d)) S = .ok (f d) S) → mLcL (gN i) mYes te ρ ds S = .ok (ds.map f) S
  | [], _ => rfl
  | d :: ds, h => by
    have h1 := h d List.mem_cons_self
    have h2 := lc_map (ds := ds) (te := te) (ρ := ρ) (S := S) (f := f) fun z hz => h z (List.mem_cons_of_mem _ hz)
    simp [mLcL, h1, h2]
def urnB : SM := mAsg (mOp addD (mOp ixD (mVar 1) (mOp modD (mVar 2) (mC (.int 13)))) (mCB (one absD) (mCons (mVar 3) mNil))) (gSubM (mVar 1) (mOp modD (mVar 2) (mC (.int 13))))
theorem urn_def : m_L_urn = mFun 4 (mSeq (mAsg (mLcN [3] (mIt (mSl (mVar 0) mNoP (mPart (mC (.int 13))))) (gN 3) mYes (mCB (one absD) (mCons (mVar 3) mNil))) (gN 1))
  (mSeq (mFor (mEnum (mSl (mVar 0) (mPart (mC (.int 13))) (mPart (mC (.int 60))))) (gTupM 2 (gConsM (gN 2) (gConsM (gN 3) gNilM))) urnB)
  (mRet (mNew (mCons (mFrz (mVar 1)) (mCons (mC (.int 0)) (mCons (mC (.int 0)) mNil))))))) := rfl
theorem urn_loop {d0 : D} : ∀ (ds : List Int) (i : Nat) (acc : List Int) (S : Store) (x2 x3 : Option D), (ds ≠ [] → acc.length = 13) → (∀ z ∈ acc, 0 ≤ z) → S[0]? = some (.lst (acc.map .int)) →
    ∃ (acc' : List Int) (y2 y3 : Option D), mForL (gTupM 2 (gConsM (gN 2) (gConsM (gN 3) gNilM))) urnB ((enumL i (ds.map D.int)).map D.wt) [some d0, some (.ref 0), x2, x3] S = .go .nx [some d0, some (.ref 0), y2, y3] (S.set 0 (.lst (acc'.map .int))) ∧ (∀ z ∈ acc', 0 ≤ z) ∧ acc'.length = acc.length
  | [], i, acc, S, x2, x3, _, h0, hS => ⟨acc, x2, x3, by
      simp [enumL]
      apply List.ext_getElem?
      intro k
      by_cases hk : k = 0
      · subst hk; rw [List.getElem?_set_self (List.getElem?_eq_some_iff.mp hS).1, hS]
      · rw [List.getElem?_set_ne (Ne.symm hk)], h0, rfl⟩
  | z :: ds, i, acc, S, x2, x3, hn, h0, hS => by
    have hl := hn (by simp)
    have h1 := Int.fmod_nonneg_of_pos (i : Int) (b := 13) (by decide)
    have h2 := Int.fmod_lt_of_pos (i : Int) (b := 13) (by decide)
    obtain ⟨j, hj⟩ := Int.eq_ofNat_of_zero_le h1
    have hjl : j < acc.length := by omega
    have hul := (List.getElem?_eq_some_iff.mp hS).1
    have e1 : ixD (.ref 0) (.int (j : Nat)) S = .ok (.int acc[j]) S := ix_ref hS (by rw [atI_nat]; simp [hjl])
    have e2 : (if z < 0 then -z else z) = (z.natAbs : Int) := by split <;> omega
    have e3 : gSubM (mVar 1) (mOp modD (mVar 2) (mC (.int 13))) (.int (acc[j] + z.natAbs)) [some d0, some (.ref 0), some (.int (i : Nat)), some (.int z)] S = some (_, S.set 0 (.lst ((acc.map D.int).set j (.int (acc[j] + z.natAbs))))) :=
      gsub_at (k := j) _ rfl (by simp [hj]) hS (by simpa using hjl)
    obtain ⟨acc', y2, y3, e, p1, p2⟩ := urn_loop (d0 := d0) ds (i + 1) (acc.set j (acc[j] + z.natAbs)) (S.set 0 (.lst ((acc.map D.int).set j (.int (acc[j] + z.natAbs))))) (some (.int (i : Nat))) (some (.int z)) (fun _ => by simpa using hl)
      (fun w hw => by
        rcases List.mem_or_eq_of_mem_set hw with h | h
        · exact h0 w h
        · have := h0 _ (List.getElem_mem hjl); omega)
      (by rw [List.getElem?_set_self hul, List.map_set])
    rw [List.set_set] at e
    refine ⟨acc', y2, y3, ?_, p1, by simpa using p2⟩
    rw [← e]
    simp [enumL, mForL, urnB, hj, e1, e2, e3]
theorem s_urn (ns : List Int) (hl : ns.length ≤ 63) : ∃ S, m_L_urn [.lst (ns.map .int)] [] = .ok (.ref 1) S ∧ Urn 1 0 S ∧ S.length = 2 := by
  have h13 : HT.sIx ns.length ns.length (some 13) = min 13 ns.length := HT.sIx_nat _ _ 13
  have h13' : HT.sIx ns.length 0 (some 13) = min 13 ns.length := HT.sIx_nat _ _ 13
  have h60 : HT.sIx ns.length ns.length (some 60) = min 60 ns.length := HT.sIx_nat _ _ 60
  have c1 : cutD (ns.map D.int) none (some 13) = (ns.take (min 13 ns.length)).map D.int := by
    simp [cutD, h13, HT.sIx_none]
  have c2 : cutD (ns.map D.int) (some 13) (some 60) = ((ns.drop (min 13 ns.length)).take (min 60 ns.length - min 13 ns.length)).map D.int := by
    simp [cutD, h13', h60]
  have lc := lc_map (i := 3) (te := mCB (one absD) (mCons (mVar 3) mNil)) (ρ := [some (.lst (ns.map .int)), none, none, none]) (S := []) (ds := (ns.take (min 13 ns.length)).map D.int) (f := fun d => match d with | .int i => .int (if i < 0 then -i else i) | d => d) (fun d hd => by
    obtain ⟨z, _, rfl⟩ := List.mem_map.mp hd
    simp)
  rw [List.map_map] at lc
  have em : (ns.take (min 13 ns.length)).map ((fun d => match d with | D.int i => D.int (if i < 0 then -i else i) | d => d) ∘ D.int) = ((ns.take (min 13 ns.length)).map fun i => if i < 0 then -i else i).map D.int := by
    rw [List.map_map]; rfl
  rw [em] at lc
  obtain ⟨acc', y2, y3, e, p1, p2⟩ := urn_loop (d0 := .lst (ns.map .int)) ((ns.drop (min 13 ns.length)).take (min 60 ns.length - min 13 ns.length)) 0 ((ns.take (min 13 ns.length)).map fun i => if i < 0 then -i else i) [.lst (((ns.take (min 13 ns.length)).map fun i => if i < 0 then -i else i).map D.int)] none none
    (fun hne => by
      have : ns.length > 13 := by
        rcases Nat.lt_or_ge 13 ns.length with q | q
        · exact q
        · exact absurd (by rw [List.drop_eq_nil_of_le (by omega)]; simp) hne
      simp; omega)
    (fun z hz => by
      obtain ⟨w, _, rfl⟩ := List.mem_map.mp hz
      split <;> omega) rfl
  rw [List.set_cons_zero] at e
  refine ⟨[.dead, .lst [.lst (acc'.map .int), .int 0, .int 0]], ?_, ⟨acc', 0, 0, rfl, p1, by decide, by decide, by decide, ?_⟩, rfl⟩
  · rw [urn_def]
    have cc : decide (((ns.take (min 13 ns.length)).map D.int).length ≤ sizeLine) = true := by
      simp [sizeLine]; omega
    have cc' : ((ns.take (min 13 ns.length)).map D.int).length ≤ sizeLine := by simpa using cc
    have A : mAsg (mLcN [3] (mIt (mSl (mVar 0) mNoP (mPart (mC (.int 13))))) (gN 3) mYes (mCB (one absD) (mCons (mVar 3) mNil))) (gN 1) (start0 4 [.lst (ns.map .int)]) [] = .go .nx [some (.lst (ns.map .int)), some (.ref 0), none, none] [.lst (((ns.take (min 13 ns.length)).map fun i => if i < 0 then -i else i).map D.int)] := by
      have := x_part [some (.lst (ns.map .int)), none, none, none] [] (mC (.int 13)) 13 [] rfl (by decide)
      simp only [x_asg, x_lc, x_it, x_sl, start_def, List.map, List.length, List.replicate, List.cons_append, List.nil_append, x_var, List.getElem?_cons_zero, R.bind_ok, x_noP, this, slD, c1, x_itL, if_pos cc', lstOf_lst, wipeD, List.set, lc]
      simp [plL]
    have B : mFor (mEnum (mSl (mVar 0) (mPart (mC (.int 13))) (mPart (mC (.int 60))))) (gTupM 2 (gConsM (gN 2) (gConsM (gN 3) gNilM))) urnB [some (.lst (ns.map .int)), some (.ref 0), none, none] [.lst (((ns.take (min 13 ns.length)).map fun i => if i < 0 then -i else i).map D.int)] = .go .nx [some (.lst (ns.map .int)), some (.ref 0), y2, y3] [.lst (acc'.map .int)] := by
      have q1 := x_part [some (.lst (ns.map .int)), some (.ref 0), none, none] [.lst (((ns.take (min 13 ns.length)).map fun i => if i < 0 then -i else i).map D.int)] (mC (.int 13)) 13 _ rfl (by decide)
      have q2 := x_part [some (.lst (ns.map .int)), some (.ref 0), none, none] [.lst (((ns.take (min 13 ns.length)).map fun i => if i < 0 then -i else i).map D.int)] (mC (.int 60)) 60 _ rfl (by decide)
      simp only [x_for, mEnum, x_sl, x_var, List.getElem?_cons_zero, R.bind_ok, q1, q2, slD, lstOf_lst, c2, R.to_ok, e]
    rw [x_fun, x_seq, A, O.then_nx, x_seq, B]
    simp [frzD, sizeLine]
  · rw [p2]; simp; omega
end DL

/-! Plain laws: what is drawn: small fractions, lines, plans, points. -/
namespace DL
open PySem PySem.Spec PyProof.Rows L2

theorem s_small {u k : Nat} {S : Store} (z : Int) (hz : 0 < z ∧ z < 8) (h : Urn u k S) (hk : k < 2 ^ 62) : ∃ (q : Rat) (S' : Store), m_L_small [.ref u, .int z] S = .ok (fr q) S' ∧ RS 5 q ∧ Urn u (k + 2) S' ∧ But u S S' := by
  obtain ⟨r, S1, e1, r0, r1, u1, b1⟩ := s_pull (m := 2 * z + 1) (n := 5) h (by omega) (by unfold Sz; omega) (by decide) (by omega)
  obtain ⟨d, S2, e2, hd, u2, b2⟩ := s_item (l := [.int 1, .int 1, .int 1, .int 2, .int 3]) u1 (by simp) (by simp) (by omega)
  obtain ⟨w, rfl, w0, w1⟩ : ∃ w : Int, d = .int w ∧ 0 < w ∧ w ≤ 3 := by
    simp at hd
    rcases hd with rfl | rfl | rfl <;> exact ⟨_, rfl, by decide, by decide⟩
  have e3 := s_low (n := 5) (t := r - z) (b := w) S2 (by omega) (by unfold Sz; omega) (by decide)
  have e4 := mul_ok S (sz_lit (n := 2) (z := 2) (by decide)) (show Sz 4 z by unfold Sz; omega) (by decide)
  refine ⟨_, S2, ?_, RS.divInt (t := r - z) (b := w) (by unfold Sz; omega) (by unfold Sz; omega) (by decide), u2, b1.trans b2⟩
  unfold m_L_small
  simp [-x_mul, sizeLine, e1, e2, e3, e4]
theorem fr_inj {q r : Rat} (h : fr q = fr r) : q = r := by
  unfold fr at h
  simp only [D.tup.injEq, List.cons.injEq, D.int.injEq, and_true] at h
  exact Rat.ext h.1 (by omega)
/-- equal fractions -/
theorem eq_fr (q r : Rat) : eqB (fr q) (fr r) = decide (q = r) := by
  by_cases h : q = r
  · subst h
    simp [fr, eqB, eqBs]
  · rw [decide_eq_false h]
    have : ¬ (q.num = r.num ∧ q.den = r.den) := fun z => h (Rat.ext z.1 z.2)
    simp [fr, eqB, eqBs]
    intro a b
    exact this ⟨a, by omega⟩
theorem plain_fr (n : Nat) (q : Rat) : plain (n + 1) (fr q) = true := by simp [fr, plain, plains]
@[simp] theorem x_eqFr (q r : Rat) (S : Store) : eqD (fr q) (fr r) S = .ok (.bl (decide (q = r))) S := by
  unfold eqD
  have h1 : derD (fr q) S = fr q := rfl
  have h2 : derD (fr r) S = fr r := rfl
  simp only [fr] at h1 h2 ⊢
  simp only [h1, h2]
  have := eq_fr q r
  simp only [fr] at this
  simp [plain, plains, this]
@[simp] theorem x_neFr (q r : Rat) (S : Store) : neD (fr q) (fr r) S = .ok (.bl (!decide (q = r))) S := by
  unfold neD
  have h1 : derD (fr q) S = fr q := rfl
  have h2 : derD (fr r) S = fr r := rfl
  simp only [fr] at h1 h2 ⊢
  simp only [h1, h2]
  have := eq_fr q r
  simp only [fr] at this
  simp [plain, plains, this]
/-- the same place? any answer will do -/
theorem s_same_place {n : Nat} {a b c x y z : Rat} (S : Store) (h1 : RS n a) (h2 : RS n b) (h3 : RS n c) (h4 : RS n x) (h5 : RS n y) (h6 : RS n z) (hn : n < 4000) : ∃ t : Bool, m_L_same_place [.tup [fr a, fr b, fr c], .tup [fr x, fr y, fr z]] S = .ok (.bl t) S := by
  have p1 := s_Lproduct S h1 h5 (by omega)
  have p2 := s_Lproduct S h2 h4 (by omega)
  have p3 := s_Lproduct S h1 h6 (by omega)
  have p4 := s_Lproduct S h3 h4 (by omega)
  have p5 := s_Lproduct S h2 h6 (by omega)
  have p6 := s_Lproduct S h3 h5 (by omega)
  unfold m_L_same_place
  by_cases q1 : a * y = b * x
  · by_cases q2 : a * z = c * x
    · by_cases q3 : b * z = c * y
      · exact ⟨true, by simp [sizeLine, mForL, p1, p2, p3, p4, p5, p6, q1, q2, q3]⟩
      · exact ⟨false, by simp [sizeLine, mForL, p1, p2, p3, p4, p5, p6, q1, q2, q3]⟩
    · exact ⟨false, by simp [sizeLine, mForL, p1, p2, p3, p4, q1, q2]⟩
  · exact ⟨false, by simp [sizeLine, mForL, p1, p2, q1]⟩
theorem eq_fr2 (q r x y : Rat) : eqB (.tup [fr q, fr r]) (.tup [fr x, fr y]) = (decide (q = x) && decide (r = y)) := by
  rw [eqB, eqBs, eqBs, eqBs, eq_fr, eq_fr, Bool.and_true]
@[simp] theorem x_neFr2 (q r x y : Rat) (S : Store) : neD (.tup [fr q, fr r]) (.tup [fr x, fr y]) S = .ok (.bl (!(decide (q = x) && decide (r = y)))) S := by
  unfold neD
  have := eq_fr2 q r x y
  simp [this, plain, plains, plain_fr]
/-- a line of a plan -/
structure Ln where
  nm : Str
  a : Rat
  b : Rat
  c : Rat
def Ln.d (l : Ln) : D := .tup [.str l.nm, fr l.a, fr l.b, fr l.c]
def names : List Str := ["x", "y", "z", "u", "v", "w", "wall1", "wall2", "x2", "wall", "x12"]
structure Ln.Ok (l : Ln) : Prop where
  a : RS 8 l.a
  b : RS 8 l.b
  c : RS 8 l.c
  ab : ¬ (l.a = 0 ∧ l.b = 0)
  nm : l.nm ∈ names
/-- S' is S but for what stands at u and at p -/
structure But2 (u p : Nat) (S S' : Store) : Prop where
  len : S'.length = S.length
  at_ : ∀ n, n ≠ u → n ≠ p → S'[n]? = S[n]?
theorem But.two {u : Nat} {S S' : Store} (p : Nat) (h : But u S S') : But2 u p S S' := ⟨h.len, fun n a _ => h.at_ n a⟩
theorem But2.trans {u p : Nat} {S S1 S2 : Store} (h : But2 u p S S1) (k : But2 u p S1 S2) : But2 u p S S2 := ⟨k.len.trans h.len, fun n a b => (k.at_ n a b).trans (h.at_ n a b)⟩
theorem Urn.set {u k p : Nat} {S : Store} (h : Urn u k S) (hp : p ≠ u) (o : Ob) : Urn u k (S.set p o) := by
  obtain ⟨ns, a, v, h1, h2⟩ := h.ex
  exact ⟨ns, a, v, by rw [List.getElem?_set_ne hp]; exact h1, h2⟩
/-- the comparison with the lines that are there -/
theorem lines_loop {p : Nat} {S : Store} {all : List Ln} {a b c : Rat} (ha : RS 8 a) (hb : RS 8 b) (hc : RS 8 c) (hS : S[p]? = some (.lst (all.map Ln.d))) (ρ : Env) (h10 : ρ[10]? = some (some (.tup [fr a, fr b, fr c]))) (h12 : 12 < ρ.length) : ∀ ls : List Ln, (∀ l ∈ ls, l.Ok) →
    ∃ ys : List D, mLcLS p (all.map Ln.d) (gN 12) (mB (mCall 2 m_L_same_place (mCons (mVar 10) (mCons (mSl (mVar 12) (mPart (mC (.int 1))) mNoP) mNil)))) (mC (.int 1)) ρ (ls.map Ln.d) S = .ok ys S ∧ ∀ y ∈ ys, y = .int 1
  | [], _ => ⟨[], by simp [mLcLS, hS], by simp⟩
  | l :: ls, h => by
    obtain ⟨ys, e, hy⟩ := lines_loop ha hb hc hS ρ h10 h12 ls fun m hm => h m (List.mem_cons_of_mem _ hm)
    obtain ⟨t, e1⟩ := s_same_place S ha hb hc (h l List.mem_cons_self).a (h l List.mem_cons_self).b (h l List.mem_cons_self).c (by decide)
    have c1 : cutD [.str l.nm, fr l.a, fr l.b, fr l.c] (some 1) none = [fr l.a, fr l.b, fr l.c] := rfl
    have p1 := x_part (ρ.set 12 (some (.tup [.str l.nm, fr l.a, fr l.b, fr l.c]))) S (mC (.int 1)) 1 S rfl (by decide)
    have g10 : (ρ.set 12 (some (.tup [.str l.nm, fr l.a, fr l.b, fr l.c])))[10]? = some (some (.tup [fr a, fr b, fr c])) := by rw [List.getElem?_set_ne (by decide)]; exact h10
    have g12 : (ρ.set 12 (some (.tup [.str l.nm, fr l.a, fr l.b, fr l.c])))[12]? = some (some (.tup [.str l.nm, fr l.a, fr l.b, fr l.c])) := by rw [List.getElem?_set_self h12]
    have T : mB (mCall 2 m_L_same_place (mCons (mVar 10) (mCons (mSl (mVar 12) (mPart (mC (.int 1))) mNoP) mNil))) (ρ.set 12 (some l.d)) S = .ok t S := by
      simp only [Ln.d, x_b, x_call, x_cons, x_var, g10, g12, R.bind_ok, x_sl, p1, x_noP, slD, c1, x_nil, List.length, e1, x_toB, if_pos]
    cases t with
    | true =>
      refine ⟨.int 1 :: ys, ?_, fun y m => ?_⟩
      · simp only [List.map_cons, mLcLS, hS, if_pos, x_gN, T, R.nx_ok, R.bind_ok, x_c, e]
      · rcases List.mem_cons.mp m with rfl | m
        · rfl
        · exact hy y m
    | false =>
      refine ⟨ys, ?_, hy⟩
      simp only [List.map_cons, mLcLS, hS, if_pos, x_gN, T, R.nx_ok, R.bind_ok, x_c, e, Bool.false_eq_true, if_false]
theorem ones_nil {ys : List D} (h : ∀ y ∈ ys, y = .int 1) (S : Store) : ∃ t, eqD (.lst ys) (.lst []) S = .ok (.bl t) S := by
  have hp : plains 63 ys = true := by
    clear S
    induction ys with
    | nil => rfl
    | cons y ys ih =>
      rw [h y List.mem_cons_self]
      simp only [plains, plain, Bool.true_and]
      exact ih fun z m => h z (List.mem_cons_of_mem _ m)
  exact ⟨eqB (.lst ys) (.lst []), by simp [eqD, plain, plains, hp]⟩
noncomputable def linesB : SM := mSeq (mAsg (mLst (mCons (mTup (mCons (mTup (mCons (mC (.int 1)) (mCons (mC (.int 1)) mNil))) (mCons (mTup (mCons (mC (.int 0)) (mCons (mC (.int 1)) mNil))) (mCons (mTup (mCons (mC (.int 0)) (mCons (mC (.int 1)) mNil))) mNil)))) (mCons (mTup (mCons (mTup (mCons (mC (.int 0)) (mCons (mC (.int 1)) mNil))) (mCons (mTup (mCons (mC (.int 1)) (mCons (mC (.int 1)) mNil))) (mCons (mTup (mCons (mC (.int 0)) (mCons (mC (.int 1)) mNil))) mNil)))) mNil))) (gN 5))
  (mSeq (mAsg (mOp addD (mVar 5) (mLst (mCons (mTup (mCons (mTup (mCons (mC (.int 1)) (mCons (mC (.int 1)) mNil))) (mCons (mTup (mCons (mC (.int 1)) (mCons (mC (.int 1)) mNil))) (mCons (mTup (mCons (mC (.int 0)) (mCons (mC (.int 1)) mNil))) mNil)))) (mCons (mTup (mCons (mTup (mCons (mC (.int 1)) (mCons (mC (.int 1)) mNil))) (mCons (mTup (mCons (mOp subD (mC (.int 0)) (mC (.int 1))) (mCons (mC (.int 1)) mNil))) (mCons (mTup (mCons (mC (.int 0)) (mCons (mC (.int 1)) mNil))) mNil)))) mNil)))) (gN 5))
  (mSeq (mAsg (mCall 2 m_L_item (mCons (mVar 0) (mCons (mOp addD (mVar 5) (mRep 2 (mCons (mTup (mCons (mCall 2 m_L_small (mCons (mVar 0) (mCons (mC (.int 3)) mNil))) (mCons (mCall 2 m_L_small (mCons (mVar 0) (mCons (mC (.int 3)) mNil))) (mCons (mTup (mCons (mC (.int 0)) (mCons (mC (.int 1)) mNil))) mNil)))) mNil))) mNil))) (gTupM 3 (gConsM (gN 6) (gConsM (gN 7) (gConsM (gN 8) gNilM)))))
  (mSeq (mAsg (mCall 2 m_L_item (mCons (mVar 0) (mCons (mLst (mCons (mVar 8) (mCons (mVar 8) (mCons (mCall 2 m_L_small (mCons (mVar 0) (mCons (mC (.int 3)) mNil))) mNil)))) mNil))) (gN 8))
  (mSeq (mAsg (mCall 2 m_L_item (mCons (mVar 0) (mCons (mLst (mCons (mTup (mCons (mC (.int 1)) (mCons (mC (.int 1)) mNil))) (mCons (mTup (mCons (mC (.int 1)) (mCons (mC (.int 1)) mNil))) (mCons (mTup (mCons (mOp subD (mC (.int 0)) (mC (.int 1))) (mCons (mC (.int 1)) mNil))) (mCons (mTup (mCons (mC (.int 2)) (mCons (mC (.int 3)) mNil))) mNil))))) mNil))) (gN 9))
  (mSeq (mAsg (mCB (one tupleD) (mCons (mLc [11] (mIt (mTup (mCons (mVar 6) (mCons (mVar 7) (mCons (mVar 8) mNil))))) (gN 11) mYes (mCall 2 m_L_product (mCons (mVar 11) (mCons (mVar 9) mNil)))) mNil)) (gN 10))
  (mIfS (mAnd (mB (mOp neD (mSl (mVar 10) mNoP (mPart (mC (.int 2)))) (mTup (mCons (mTup (mCons (mC (.int 0)) (mCons (mC (.int 1)) mNil))) (mCons (mTup (mCons (mC (.int 0)) (mCons (mC (.int 1)) mNil))) mNil))))) (mB (mOp eqD (mLcS fzL [12] (mVar 2) (gN 12) (mB (mCall 2 m_L_same_place (mCons (mVar 10) (mCons (mSl (mVar 12) (mPart (mC (.int 1))) mNoP) mNil)))) (mC (.int 1))) (mLst mNil)))) (mDrop (mMet isL appendD (mVar 2) (mCons (mOp addD (mTup (mCons (mVar 4) mNil)) (mVar 10)) mNil))) mNext))))))
theorem lines_def : m_L_some_lines = mFun 13 (mSeq (mAsg (mNew mNil) (gN 2))
  (mSeq (mAsg (mLst (mCons (mLst (mCons (mC (.str "x")) (mCons (mC (.str "y")) (mCons (mC (.str "z")) (mCons (mC (.str "u")) (mCons (mC (.str "v")) (mCons (mC (.str "w")) mNil))))))) (mCons (mLst (mCons (mC (.str "wall1")) (mCons (mC (.str "wall2")) (mCons (mC (.str "x")) (mCons (mC (.str "x2")) (mCons (mC (.str "wall")) (mCons (mC (.str "x12")) mNil))))))) mNil))) (gN 3))
  (mSeq (mFor (mIt (mSl (mCall 2 m_L_item (mCons (mVar 0) (mCons (mVar 3) mNil))) mNoP (mPart (mCall 2 m_L_pull (mCons (mVar 0) (mCons (mOp addD (mVar 1) (mC (.int 1))) mNil)))))) (gN 4) linesB)
  (mRet (mCB (one tupleD) (mCons (mVar 2) mNil)))))) := rfl
theorem lines_turn {u p k : Nat} {S : Store} {all : List Ln} (hu : Urn u k S) (hk : k < 2 ^ 60) (hp : p ≠ u) (hS : S[p]? = some (.lst (all.map Ln.d))) (hok : ∀ l ∈ all, l.Ok) (hl : all.length < 100) {nm : Str} (hn : nm ∈ names) (d1 d3 x5 x6 x7 x8 x9 x10 x11 x12 : Option D) :
    ∃ (y5 y6 y7 y8 y9 y10 y11 y12 : Option D) (S' : Store) (all' : List Ln), linesB [some (.ref u), d1, some (.ref p), d3, some (.str nm), x5, x6, x7, x8, x9, x10, x11, x12] S = .go .nx [some (.ref u), d1, some (.ref p), d3, some (.str nm), y5, y6, y7, y8, y9, y10, y11, y12] S' ∧
      Urn u (k + 10) S' ∧ But2 u p S S' ∧ S'[p]? = some (.lst (all'.map Ln.d)) ∧ (all' = all ∨ ∃ l, l.nm = nm ∧ l.Ok ∧ all' = all ++ [l]) := by
  obtain ⟨q1, S1, e1, r1, u1, b1⟩ := s_small 3 (by decide) hu (by omega)
  obtain ⟨q2, S2, e2, r2, u2, b2⟩ := s_small 3 (by decide) u1 (by omega)
  obtain ⟨w, S3, e3, hw, u3, b3⟩ := s_item (l := [.tup [fr 1, fr 0, fr 0], .tup [fr 0, fr 1, fr 0], .tup [fr 1, fr 1, fr 0], .tup [fr 1, fr (-1), fr 0], .tup [fr q1, fr q2, fr 0], .tup [fr q1, fr q2, fr 0]]) u2 (by simp) (by simp) (by omega)
  have o1 : RS 5 1 := by refine ⟨?_, ?_⟩ <;> simp [Sz] <;> decide
  have o0 : RS 5 0 := RS.zero.mono (by decide)
  obtain ⟨a, b, rfl, ra, rb⟩ : ∃ a b : Rat, w = .tup [fr a, fr b, fr 0] ∧ RS 5 a ∧ RS 5 b := by
    simp at hw
    rcases hw with rfl | rfl | rfl | rfl | rfl
    · exact ⟨_, _, rfl, o1, o0⟩
    · exact ⟨_, _, rfl, o0, o1⟩
    · exact ⟨_, _, rfl, o1, o1⟩
    · exact ⟨_, _, rfl, o1, o1.neg⟩
    · exact ⟨_, _, rfl, r1, r2⟩
  obtain ⟨q3, S4, e4, r3, u4, b4⟩ := s_small 3 (by decide) u3 (by omega)
  obtain ⟨w2, S5, e5, hw2, u5, b5⟩ := s_item (l := [fr 0, fr 0, fr q3]) u4 (by simp) (by simp) (by omega)
  obtain ⟨c, rfl, rc⟩ : ∃ c : Rat, w2 = fr c ∧ RS 5 c := by
    simp at hw2
    rcases hw2 with rfl | rfl
    · exact ⟨_, rfl, o0⟩
    · exact ⟨_, rfl, r3⟩
  obtain ⟨w3, S6, e6, hw3, u6, b6⟩ := s_item (l := [fr 1, fr 1, fr (-1), .tup [.int 2, .int 3]]) u5 (by simp) (by simp) (by omega)
  obtain ⟨s, rfl, rs, s0⟩ : ∃ s : Rat, w3 = fr s ∧ RS 3 s ∧ s ≠ 0 := by
    simp at hw3
    rcases hw3 with rfl | rfl | rfl
    · exact ⟨1, rfl, by refine ⟨?_, ?_⟩ <;> simp [Sz] <;> decide, by decide⟩
    · exact ⟨-1, rfl, by refine ⟨?_, ?_⟩ <;> simp [Sz] <;> decide, by decide⟩
    · exact ⟨mkRat 2 3, by unfold fr; rw [show (mkRat 2 3).num = 2 by decide +kernel, show (mkRat 2 3).den = 3 by decide +kernel]; rfl, by refine ⟨by unfold Sz; decide +kernel, by decide +kernel⟩, by decide +kernel⟩
  have bb := ((((b1.trans b2).trans b3).trans b4).trans b5).trans b6
  have hS6 : S6[p]? = some (.lst (all.map Ln.d)) := by rw [bb.at_ p hp]; exact hS
  have p1 := s_Lproduct S6 ra rs (by decide)
  have p2 := s_Lproduct S6 rb rs (by decide)
  have p3 := s_Lproduct S6 rc rs (by decide)
  have ra' := ra.mul rs
  have rb' := rb.mul rs
  have rc' := rc.mul rs
  have c2 : ∀ x y z : D, cutD [x, y, z] none (some 2) = [x, y] := fun _ _ _ => rfl
  have t0 : D.tup [.int 0, .int 1] = fr 0 := rfl
  have t1 : D.tup [.int 1, .int 1] = fr 1 := rfl
  have tm : D.tup [.int (-1), .int 1] = fr (-1) := rfl
  have pp := fun ρ : Env => x_part ρ S6 (mC (.int 2)) 2 S6 rfl (by decide)
  by_cases z : a * s = 0 ∧ b * s = 0
  · refine ⟨some (.lst [.tup [fr 1, fr 0, fr 0], .tup [fr 0, fr 1, fr 0], .tup [fr 1, fr 1, fr 0], .tup [fr 1, fr (-1), fr 0]]), some (fr a), some (fr b), some (fr c), some (fr s), some (.tup [fr (a * s), fr (b * s), fr (c * s)]), x11, x12, S6, all, ?_, u6.mono (by omega), bb.two p, hS6, .inl rfl⟩
    unfold linesB
    simp [-x_mul, sizeLine, t0, t1, tm, e1, e2, e3, e4, e5, e6, mRep, mLcL, wipeD, fzL, p1, p2, p3, slD, c2, pp, addD, lstOf, z]
  · have nok : (⟨nm, a * s, b * s, c * s⟩ : Ln).Ok := ⟨ra', rb', rc', z, hn⟩
    obtain ⟨ys, e7, hy⟩ := lines_loop ra' rb' rc' hS6 [some (.ref u), d1, some (.ref p), d3, some (.str nm), some (.lst [.tup [fr 1, fr 0, fr 0], .tup [fr 0, fr 1, fr 0], .tup [fr 1, fr 1, fr 0], .tup [fr 1, fr (-1), fr 0]]), some (fr a), some (fr b), some (fr c), some (fr s), some (.tup [fr (a * s), fr (b * s), fr (c * s)]), x11, none] rfl (by simp) all hok
    obtain ⟨t, e8⟩ := ones_nil hy S6
    have e9 : mLcS fzL [12] (mVar 2) (gN 12) (mB (mCall 2 m_L_same_place (mCons (mVar 10) (mCons (mSl (mVar 12) (mPart (mC (.int 1))) mNoP) mNil)))) (mC (.int 1)) [some (.ref u), d1, some (.ref p), d3, some (.str nm), some (.lst [.tup [fr 1, fr 0, fr 0], .tup [fr 0, fr 1, fr 0], .tup [fr 1, fr 1, fr 0], .tup [fr 1, fr (-1), fr 0]]), some (fr a), some (fr b), some (fr c), some (fr s), some (.tup [fr (a * s), fr (b * s), fr (c * s)]), x11, x12] S6 = .ok (.lst ys) S6 := by
      simp only [mLcS, x_var, List.getElem?_cons_zero, List.getElem?_cons_succ, R.bind_ok, placeD, hS6, List.length_map, wipeD, List.set, e7, fzL]
      rw [if_pos (by simp only [sizeLine]; omega)]
    have z' : (decide (a * s = 0) && decide (b * s = 0)) = false := by
      rw [Bool.and_eq_false_iff]
      by_cases q : a * s = 0
      · exact .inr (decide_eq_false fun y => z ⟨q, y⟩)
      · exact .inl (decide_eq_false q)
    cases t with
    | false =>
      refine ⟨some (.lst [.tup [fr 1, fr 0, fr 0], .tup [fr 0, fr 1, fr 0], .tup [fr 1, fr 1, fr 0], .tup [fr 1, fr (-1), fr 0]]), some (fr a), some (fr b), some (fr c), some (fr s), some (.tup [fr (a * s), fr (b * s), fr (c * s)]), x11, x12, S6, all, ?_, u6.mono (by omega), bb.two p, hS6, .inl rfl⟩
      unfold linesB
      simp [-x_mul, sizeLine, t0, t1, tm, e1, e2, e3, e4, e5, e6, mRep, mLcL, wipeD, fzL, p1, p2, p3, slD, c2, pp, addD, lstOf, z', e9, e8]
    | true =>
      refine ⟨some (.lst [.tup [fr 1, fr 0, fr 0], .tup [fr 0, fr 1, fr 0], .tup [fr 1, fr 1, fr 0], .tup [fr 1, fr (-1), fr 0]]), some (fr a), some (fr b), some (fr c), some (fr s), some (.tup [fr (a * s), fr (b * s), fr (c * s)]), x11, x12, S6.set p (.lst ((all ++ [Ln.mk nm (a * s) (b * s) (c * s)]).map Ln.d)), all ++ [Ln.mk nm (a * s) (b * s) (c * s)], ?_, (u6.mono (by omega)).set hp _, (bb.two p).trans (show But2 u p S6 _ from ⟨by simp, fun n h1 h2 => by rw [List.getElem?_set_ne (Ne.symm h2)]⟩), ?_, .inr ⟨_, rfl, nok, rfl⟩⟩
      · unfold linesB
        simp [-x_mul, sizeLine, t0, t1, tm, e1, e2, e3, e4, e5, e6, mRep, mLcL, wipeD, fzL, p1, p2, p3, slD, c2, pp, addD, lstOf, z', e9, e8, isL, appendD, hS6, Ln.d, show all.length < 16777216 by omega]
      · rw [List.getElem?_set_self (List.getElem?_eq_some_iff.mp hS6).1]
theorem lines_for {u p : Nat} (hp : p ≠ u) (d1 d3 : Option D) : ∀ (nms : List Str) (all : List Ln) {k : Nat} {S : Store} (x4 x5 x6 x7 x8 x9 x10 x11 x12 : Option D), Urn u k S → k + 10 * nms.length < 2 ^ 60 → S[p]? = some (.lst (all.map Ln.d)) → (∀ l ∈ all, l.Ok) → (all.map Ln.nm ++ nms).Nodup → all.length + nms.length < 100 → (∀ n ∈ nms, n ∈ names) →
    ∃ (ρ' : Env) (S' : Store) (all' : List Ln), mForL (gN 4) linesB (nms.map D.str) [some (.ref u), d1, some (.ref p), d3, x4, x5, x6, x7, x8, x9, x10, x11, x12] S = .go .nx ρ' S' ∧ ρ'[2]? = some (some (.ref p)) ∧
      Urn u (k + 10 * nms.length) S' ∧ But2 u p S S' ∧ S'[p]? = some (.lst (all'.map Ln.d)) ∧ (∀ l ∈ all', l.Ok) ∧ (all'.map Ln.nm).Nodup ∧ all'.length ≤ all.length + nms.length
  | [], all, k, S, x4, x5, x6, x7, x8, x9, x10, x11, x12, hu, hk, hS, hok, hnd, hl, hn => ⟨_, S, all, rfl, rfl, hu, ⟨rfl, fun _ _ _ => rfl⟩, hS, hok, by simpa using hnd, Nat.le_refl _⟩
  | nm :: nms, all, k, S, x4, x5, x6, x7, x8, x9, x10, x11, x12, hu, hk, hS, hok, hnd, hl, hn => by
    simp only [List.length_cons] at hk hl ⊢
    obtain ⟨y5, y6, y7, y8, y9, y10, y11, y12, S1, all1, e1, u1, b1, hS1, hor⟩ := lines_turn hu (by omega) hp hS hok (by omega) (hn nm List.mem_cons_self) d1 d3 x5 x6 x7 x8 x9 x10 x11 x12
    have hnd' : (all1.map Ln.nm ++ nms).Nodup := by
      rcases hor with rfl | ⟨l, hln, _, rfl⟩
      · exact List.Nodup.sublist (List.Sublist.append_left (List.sublist_cons_self _ _) _) hnd
      · rw [List.map_append, List.map_cons, List.map_nil, hln, List.append_assoc]
        exact hnd
    have hok' : ∀ l ∈ all1, l.Ok := by
      rcases hor with rfl | ⟨l, hln, hlo, rfl⟩
      · exact hok
      · intro m hm
        rcases List.mem_append.mp hm with hm | hm
        · exact hok m hm
        · simp at hm; rw [hm]; exact hlo
    have hlen : all1.length ≤ all.length + 1 := by
      rcases hor with rfl | ⟨l, _, _, rfl⟩
      · omega
      · simp
    obtain ⟨ρ', S2, all2, e2, g2, u2, b2, hS2, hok2, nd2, l2⟩ := lines_for hp d1 d3 nms all1 (some (.str nm)) y5 y6 y7 y8 y9 y10 y11 y12 u1 (by omega) hS1 hok' hnd' (by omega) fun n m => hn n (List.mem_cons_of_mem _ m)
    refine ⟨ρ', S2, all2, ?_, g2, u2.mono (by omega), b1.trans b2, hS2, hok2, nd2, by omega⟩
    simp only [List.map_cons, mForL, x_gN, List.set, e1, e2]
theorem s_some_lines {u k : Nat} {S : Store} (m : Int) (hm : 0 ≤ m ∧ m < 100) (h : Urn u k S) (hk : k < 2 ^ 59) : ∃ (ls : List Ln) (S' : Store), m_L_some_lines [.ref u, .int m] S = .ok (.tup (ls.map Ln.d)) S' ∧ Urn u (k + 100) S' ∧ Ext u S S' ∧ (∀ l ∈ ls, l.Ok) ∧ (ls.map Ln.nm).Nodup ∧ ls.length ≤ 6 := by
  have hul : u < S.length := by
    obtain ⟨_, _, _, q, _⟩ := h.ex
    exact (List.getElem?_eq_some_iff.mp q).1
  have h0 : Urn u k (S ++ [.lst []]) := by
    obtain ⟨ns, a, v, q1, q2⟩ := h.ex
    exact ⟨ns, a, v, by rw [List.getElem?_append_left hul]; exact q1, q2⟩
  obtain ⟨w, S1, e1, hw, u1, b1⟩ := s_item (l := [.lst [.str "x", .str "y", .str "z", .str "u", .str "v", .str "w"], .lst [.str "wall1", .str "wall2", .str "x", .str "x2", .str "wall", .str "x12"]]) h0 (by simp) (by simp) (by omega)
  obtain ⟨nl, rfl, hnl, hnd, hnm⟩ : ∃ nl : List Str, w = .lst (nl.map D.str) ∧ nl.length = 6 ∧ nl.Nodup ∧ ∀ n ∈ nl, n ∈ names := by
    simp at hw
    rcases hw with rfl | rfl
    · exact ⟨["x", "y", "z", "u", "v", "w"], rfl, rfl, by decide +kernel, by decide +kernel⟩
    · exact ⟨["wall1", "wall2", "x", "x2", "wall", "x12"], rfl, rfl, by decide +kernel, by decide +kernel⟩
  obtain ⟨r, S2, e2, r0, r1, u2, b2⟩ := s_pull (m := m + 1) (n := 8) u1 (by omega) (by unfold Sz; omega) (by decide) (by omega)
  obtain ⟨j, rfl⟩ := Int.eq_ofNat_of_zero_le r0
  have hj : j < 100 := by omega
  have c1 : cutD (nl.map D.str) none (some (j : Int)) = (nl.take (min j 6)).map D.str := by
    unfold cutD
    rw [HT.sIx_none, HT.sIx_nat, List.length_map, hnl, List.drop_zero, Nat.sub_zero, List.map_take]
  have hS2 : S2[S.length]? = some (.lst (([] : List Ln).map Ln.d)) := by
    rw [b2.at_ _ (by omega), b1.at_ _ (by omega)]; simp
  obtain ⟨ρ', S3, all, e3, g2, u3, b3, hS3, hok, hndl, hle⟩ := lines_for (p := S.length) (by omega) (some (.int m)) (some (.lst [.lst [.str "x", .str "y", .str "z", .str "u", .str "v", .str "w"], .lst [.str "wall1", .str "wall2", .str "x", .str "x2", .str "wall", .str "x12"]])) (nl.take (min j 6)) [] none none none none none none none none none u2
    (by have := List.length_take_le (min j 6) nl; omega) hS2 (by simp) (by simpa using hnd.sublist (List.take_sublist _ _)) (by have := List.length_take_le (min j 6) nl; simp; omega) (fun n hn => hnm n (List.mem_of_mem_take hn))
  have hlt : (nl.take (min j 6)).length ≤ 6 := by have := List.length_take_le (min j 6) nl; omega
  refine ⟨all, S3, ?_, u3.mono (by omega), ⟨?_, fun n hn hu => ?_⟩, hok, hndl, by simp at hle; omega⟩
  · have P := x_part [some (.ref u), some (.int m), some (.ref S.length), some (.lst [.lst [.str "x", .str "y", .str "z", .str "u", .str "v", .str "w"], .lst [.str "wall1", .str "wall2", .str "x", .str "x2", .str "wall", .str "x12"]]), none, none, none, none, none, none, none, none, none] S1
      (mCall 2 m_L_pull (mCons (mVar 0) (mCons (mOp addD (mVar 1) (mC (.int 1))) mNil))) j S2 (by simp [e2]) (by omega)
    rw [lines_def]
    rw [List.map_take] at e3
    simp [sizeLine, e1, P, slD, c1, e3, g2, tupleD, seqOf, lstOf, hS3]
  · rw [b3.len, b2.len, b1.len]; simp
  · rw [b3.at_ n hu (by omega), b2.at_ n hu, b1.at_ n hu, List.getElem?_append_left hn]
end DL

/-! Plain laws: plans that are drawn. -/
namespace DL
open PySem PySem.Spec PyProof.Rows L2

/-- a rule of a plan -/
structure Rl where
  p : Rat
  q : Rat
  cs : List (Str × Int)
def cnd (c : Str × Int) : D := .tup [.str c.1, .int c.2]
def Rl.d (r : Rl) : D := .tup [.tup [fr r.p, fr r.q], .tup (r.cs.map cnd)]
structure Rl.Ok (r : Rl) (ls : List Ln) : Prop where
  p : RS 5 r.p
  q : RS 5 r.q
  cs : ∀ c ∈ r.cs, c.1 ∈ ls.map Ln.nm ∧ (c.2 = 1 ∨ c.2 = -1)
  len : r.cs.length ≤ ls.length
def planD (ls : List Ln) (rs : List Rl) : D := .tup [.tup (ls.map Ln.d), .tup (rs.map Rl.d)]
theorem conds_loop {u : Nat} (ρ : Env) (h0 : ρ[0]? = some (some (.ref u))) (h6 : 6 < ρ.length) : ∀ (ls : List Ln) {k : Nat} {S : Store}, Urn u k S → k + 2 * ls.length < 2 ^ 60 → ∃ (cs : List (Str × Int)) (S' : Store),
    mLcL (gN 6) (mB (mOp eqD (mCall 2 m_L_pull (mCons (mVar 0) (mCons (mC (.int 2)) mNil))) (mC (.int 0)))) (mTup (mCons (mOp ixD (mVar 6) (mC (.int 0))) (mCons (mCall 2 m_L_item (mCons (mVar 0) (mCons (mLst (mCons (mC (.int 1)) (mCons (mOp subD (mC (.int 0)) (mC (.int 1))) mNil))) mNil))) mNil))) ρ (ls.map Ln.d) S = .ok (cs.map cnd) S' ∧ (∀ c ∈ cs, c.1 ∈ ls.map Ln.nm ∧ (c.2 = 1 ∨ c.2 = -1)) ∧ cs.length ≤ ls.length ∧ Urn u (k + 2 * ls.length) S' ∧ But u S S'
  | [], k, S, hu, hk => ⟨[], S, rfl, by simp, by simp, hu, But.refl _ _⟩
  | l :: ls, k, S, hu, hk => by
    simp only [List.length_cons] at hk ⊢
    obtain ⟨r, S1, e1, r0, r1, u1, b1⟩ := s_pull (m := 2) (n := 2) hu (by decide) (by unfold Sz; decide) (by decide) (by omega)
    have g0 : (ρ.set 6 (some l.d))[0]? = some (some (.ref u)) := by rw [List.getElem?_set_ne (by decide)]; exact h0
    have g6 : (ρ.set 6 (some l.d))[6]? = some (some l.d) := by rw [List.getElem?_set_self h6]
    have T : (mB (mOp eqD (mCall 2 m_L_pull (mCons (mVar 0) (mCons (mC (.int 2)) mNil))) (mC (.int 0)))) (ρ.set 6 (some l.d)) S = .ok (r == 0) S1 := by
      simp [x_var, g0, e1]
    by_cases z : r = 0
    · obtain ⟨w, S2, e2, hw, u2, b2⟩ := s_item (l := [.int 1, .int (-1)]) u1 (by simp) (by simp) (by omega)
      obtain ⟨s, rfl, hs⟩ : ∃ s : Int, w = .int s ∧ (s = 1 ∨ s = -1) := by
        simp at hw
        rcases hw with rfl | rfl
        · exact ⟨_, rfl, .inl rfl⟩
        · exact ⟨_, rfl, .inr rfl⟩
      have E : (mTup (mCons (mOp ixD (mVar 6) (mC (.int 0))) (mCons (mCall 2 m_L_item (mCons (mVar 0) (mCons (mLst (mCons (mC (.int 1)) (mCons (mOp subD (mC (.int 0)) (mC (.int 1))) mNil))) mNil))) mNil))) (ρ.set 6 (some l.d)) S1 = .ok (cnd (l.nm, s)) S2 := by
        have q : ixD l.d (.int 0) S1 = .ok (.str l.nm) S1 := rfl
        simp [x_var, g0, g6, q, e2, sizeLine, cnd]
      obtain ⟨cs, S3, e3, h3, l3, u3, b3⟩ := conds_loop ρ h0 h6 ls u2 (by omega)
      refine ⟨(l.nm, s) :: cs, S3, ?_, fun c hc => ?_, by simp; omega, u3.mono (by omega), (b1.trans b2).trans b3⟩
      · simp only [List.map_cons, mLcL, x_gN, T, z, beq_self_eq_true, R.nx_ok, R.bind_ok, if_true, E, e3]
      · rcases List.mem_cons.mp hc with rfl | hc
        · exact ⟨by simp, hs⟩
        · exact ⟨by simp only [List.map_cons]; exact List.mem_cons_of_mem _ (h3 c hc).1, (h3 c hc).2⟩
    · obtain ⟨cs, S3, e3, h3, l3, u3, b3⟩ := conds_loop ρ h0 h6 ls u1 (by omega)
      refine ⟨cs, S3, ?_, fun c hc => ⟨by simp only [List.map_cons]; exact List.mem_cons_of_mem _ (h3 c hc).1, (h3 c hc).2⟩, by omega, u3.mono (by omega), b1.trans b3⟩
      simp only [List.map_cons, mLcL, x_gN, T, (show (r == 0) = false by simpa using z), R.nx_ok, R.bind_ok, Bool.false_eq_true, if_false, e3]
noncomputable def rulesB : SM := mSeq (mAsg (mLc [6] (mIt (mVar 2)) (gN 6) (mB (mOp eqD (mCall 2 m_L_pull (mCons (mVar 0) (mCons (mC (.int 2)) mNil))) (mC (.int 0)))) (mTup (mCons (mOp ixD (mVar 6) (mC (.int 0))) (mCons (mCall 2 m_L_item (mCons (mVar 0) (mCons (mLst (mCons (mC (.int 1)) (mCons (mOp subD (mC (.int 0)) (mC (.int 1))) mNil))) mNil))) mNil)))) (gN 5))
  (mIfS (mB (mOp neD (mVar 5) (mLst mNil))) (mDrop (mMet isL appendD (mVar 3) (mCons (mTup (mCons (mTup (mCons (mCall 2 m_L_small (mCons (mVar 0) (mCons (mC (.int 2)) mNil))) (mCons (mCall 2 m_L_small (mCons (mVar 0) (mCons (mC (.int 2)) mNil))) mNil))) (mCons (mCB (one tupleD) (mCons (mVar 5) mNil)) mNil))) mNil))) mNext)
theorem plan_def : m_L_some_plan = mFun 7 (mSeq (mAsg (mCall 2 m_L_some_lines (mCons (mVar 0) (mCons (mVar 1) mNil))) (gN 2))
  (mSeq (mAsg (mNew mNil) (gN 3))
  (mSeq (mFor (mRange1 (mCall 2 m_L_pull (mCons (mVar 0) (mCons (mCall 2 m_L_item (mCons (mVar 0) (mCons (mLst (mCons (mC (.int 5)) (mCons (mC (.int 12)) mNil))) mNil))) mNil)))) (gN 4) rulesB)
  (mSeq (mAsg (mOp addN (mVar 3) (mIf (mAnd (mB (mOp ltD (mCB (one lenD) (mCons (mVar 3) mNil)) (mC (.int 11)))) (mB (mOp eqD (mCall 2 m_L_pull (mCons (mVar 0) (mCons (mC (.int 4)) mNil))) (mC (.int 0))))) (mSl (mVar 3) mNoP (mPart (mC (.int 1)))) (mLst mNil))) (gN 3))
  (mRet (mTup (mCons (mVar 2) (mCons (mOp addD (mCB (one tupleD) (mCons (mVar 3) mNil)) (mTup (mCons (mTup (mCons (mTup (mCons (mCall 2 m_L_small (mCons (mVar 0) (mCons (mC (.int 2)) mNil))) (mCons (mCall 2 m_L_small (mCons (mVar 0) (mCons (mC (.int 2)) mNil))) mNil))) (mCons (mTup mNil) mNil))) mNil))) mNil)))))))) := rfl
theorem names_ok : ∀ n ∈ names, PyData.strOk n = true := by decide +kernel
theorem plain_cnds {n : Nat} : ∀ (cs : List (Str × Int)), (∀ c ∈ cs, PyData.strOk c.1 = true) → plains (n + 1) (cs.map cnd) = true
  | [], _ => rfl
  | c :: cs, h => by
    simp only [List.map_cons, plains, cnd, plain, Bool.and_true, Bool.and_eq_true]
    exact ⟨h c List.mem_cons_self, plain_cnds cs fun d m => h d (List.mem_cons_of_mem _ m)⟩
theorem rules_turn {u p k : Nat} {S : Store} {ls : List Ln} {all : List Rl} (hls : ls.length ≤ 6) (hlo : ∀ l ∈ ls, l.Ok) (hu : Urn u k S) (hk : k < 2 ^ 59) (hp : p ≠ u) (hS : S[p]? = some (.lst (all.map Rl.d))) (hok : ∀ r ∈ all, r.Ok ls) (hl : all.length < 100) (d1 x4 x5 x6 : Option D) :
    ∃ (y5 : Option D) (S' : Store) (all' : List Rl), rulesB [some (.ref u), d1, some (.tup (ls.map Ln.d)), some (.ref p), x4, x5, x6] S = .go .nx [some (.ref u), d1, some (.tup (ls.map Ln.d)), some (.ref p), x4, y5, x6] S' ∧
      Urn u (k + 20) S' ∧ But2 u p S S' ∧ S'[p]? = some (.lst (all'.map Rl.d)) ∧ (∀ r ∈ all', r.Ok ls) ∧ all'.length ≤ all.length + 1 := by
  obtain ⟨cs, S1, e1, hc, lc, u1, b1⟩ := conds_loop [some (.ref u), d1, some (.tup (ls.map Ln.d)), some (.ref p), x4, x5, none] rfl (by simp) ls hu (by omega)
  have hS1 : S1[p]? = some (.lst (all.map Rl.d)) := by rw [b1.at_ p hp]; exact hS
  by_cases z : cs = []
  · subst z
    refine ⟨some (.lst []), S1, all, ?_, u1.mono (by omega), b1.two p, hS1, hok, by omega⟩
    have q : neD (.lst []) (.lst []) S1 = .ok (.bl false) S1 := rfl
    unfold rulesB
    have hlen : (ls.map Ln.d).length ≤ sizeLine := by simp [sizeLine]; omega
    simp only [x_seq, x_asg, x_lc, x_it, x_var, List.getElem?_cons_zero, List.getElem?_cons_succ, R.bind_ok, x_itT, if_pos hlen, wipeD, List.set, e1, fzL, R.to_ok, x_gN, O.then_nx, List.map_nil]
    simp [q, sizeLine]
  · obtain ⟨a, S2, e2, ra, u2, b2⟩ := s_small 2 (by decide) u1 (by omega)
    obtain ⟨b, S3, e3, rb, u3, b3⟩ := s_small 2 (by decide) u2 (by omega)
    have hS3 : S3[p]? = some (.lst (all.map Rl.d)) := by rw [b3.at_ p hp, b2.at_ p hp]; exact hS1
    refine ⟨some (.lst (cs.map cnd)), S3.set p (.lst ((all ++ [Rl.mk a b cs]).map Rl.d)), all ++ [Rl.mk a b cs], ?_, (u3.mono (by omega)).set hp _, (((b1.trans b2).trans b3).two p).trans (show But2 u p S3 _ from ⟨by simp, fun n h1 h2 => by rw [List.getElem?_set_ne (Ne.symm h2)]⟩), ?_, fun r hr => ?_, by simp⟩
    · have q : neD (.lst (cs.map cnd)) (.lst []) S1 = .ok (.bl true) S1 := by
        have pl : plains 63 (cs.map cnd) = true := plain_cnds cs fun c m => by
          obtain ⟨l, hl1, hl2⟩ := List.mem_map.mp (hc c m).1
          rw [← hl2]
          exact names_ok _ (hlo l hl1).nm
        cases cs with
        | nil => exact absurd rfl z
        | cons c cs =>
          simp only [List.map_cons, plains] at pl
          simp only [neD, derD_lst, plain, plains, Bool.and_true, List.map_cons, eqB, eqBs, Bool.not_false, if_pos pl]
      unfold rulesB
      have hlen : (ls.map Ln.d).length ≤ sizeLine := by simp [sizeLine]; omega
      simp only [x_seq, x_asg, x_lc, x_it, x_var, List.getElem?_cons_zero, List.getElem?_cons_succ, R.bind_ok, x_itT, if_pos hlen, wipeD, List.set, e1, fzL, R.to_ok, x_gN, O.then_nx]
      simp [q, sizeLine, e2, e3, isL, lstOf, hS1, hS3, appendD, show all.length < 16777216 by omega, Rl.d]
    · rw [List.getElem?_set_self (List.getElem?_eq_some_iff.mp hS3).1]
    · rcases List.mem_append.mp hr with hr | hr
      · exact hok r hr
      · simp at hr
        subst hr
        exact ⟨ra, rb, hc, lc⟩
theorem rules_for {u p : Nat} (hp : p ≠ u) {ls : List Ln} (hls : ls.length ≤ 6) (hlo : ∀ l ∈ ls, l.Ok) (d1 : Option D) : ∀ (ds : List D) (all : List Rl) {k : Nat} {S : Store} (x4 x5 x6 : Option D), Urn u k S → k + 20 * ds.length < 2 ^ 59 → S[p]? = some (.lst (all.map Rl.d)) → (∀ r ∈ all, r.Ok ls) → all.length + ds.length < 100 →
    ∃ (y4 y5 y6 : Option D) (S' : Store) (all' : List Rl), mForL (gN 4) rulesB ds [some (.ref u), d1, some (.tup (ls.map Ln.d)), some (.ref p), x4, x5, x6] S = .go .nx [some (.ref u), d1, some (.tup (ls.map Ln.d)), some (.ref p), y4, y5, y6] S' ∧
      Urn u (k + 20 * ds.length) S' ∧ But2 u p S S' ∧ S'[p]? = some (.lst (all'.map Rl.d)) ∧ (∀ r ∈ all', r.Ok ls) ∧ all'.length ≤ all.length + ds.length
  | [], all, k, S, x4, x5, x6, hu, hk, hS, hok, hl => ⟨_, _, _, S, all, rfl, hu, ⟨rfl, fun _ _ _ => rfl⟩, hS, hok, Nat.le_refl _⟩
  | d :: ds, all, k, S, x4, x5, x6, hu, hk, hS, hok, hl => by
    simp only [List.length_cons] at hk hl ⊢
    obtain ⟨y5, S1, all1, e1, u1, b1, hS1, hok1, l1⟩ := rules_turn hls hlo hu (by omega) hp hS hok (by omega) d1 (some d) x5 x6
    obtain ⟨z4, z5, z6, S2, all2, e2, u2, b2, hS2, hok2, l2⟩ := rules_for hp hls hlo d1 ds all1 (some d) y5 x6 u1 (by omega) hS1 hok1 (by omega)
    refine ⟨z4, z5, z6, S2, all2, ?_, u2.mono (by omega), b1.trans b2, hS2, hok2, by omega⟩
    simp only [mForL, x_gN, List.set, e1, e2]
/-- what is known of a drawn plan -/
structure PlOk (ls : List Ln) (rs : List Rl) : Prop where
  ln : ∀ l ∈ ls, l.Ok
  nd : (ls.map Ln.nm).Nodup
  ll : ls.length ≤ 6
  rl : ∀ r ∈ rs, r.Ok ls
  lr : rs.length ≤ 14
  last : ∃ r ∈ rs, r.cs = []
theorem addN_at {S : Store} {p : Nat} {l ex : List D} (h : S[p]? = some (.lst l)) (hl : l.length + ex.length ≤ 1000) : addN (.ref p) (.lst ex) S = .ok (.ref S.length) (S ++ [.lst (l ++ ex)]) := by
  unfold addN
  rw [lstOf_ref h, lstOf_lst]
  simp only []
  rw [if_pos (show l.length + ex.length ≤ sizeLine by rw [show sizeLine = 16777216 from rfl]; omega)]
theorem tupleD_last {S : Store} {l : List D} : tupleD (.ref S.length) (S ++ [.lst l]) = .ok (.tup l) (S ++ [.lst l]) := by
  unfold tupleD
  simp only []
  rw [seqOf_ref, lstOf_ref (l := l) (by simp)]
theorem range_lim {j : Nat} (hj : j < 1000) : -(2 ^ 62) ≤ ((j : Nat) : Int) ∧ ((j : Nat) : Int) < 2 ^ 62 := by
  have h : ((j : Nat) : Int) < 1000 := by omega
  have h0 : (0 : Int) ≤ (j : Nat) := Int.natCast_nonneg j
  exact ⟨Int.le_trans (by decide) h0, Int.lt_trans h (by decide)⟩
theorem range_of {f : EM} {ρ : Env} {S S' : Store} {j : Nat} (h : f ρ S = .ok (.int (j : Nat)) S') (hj : j < 1000) : mRange1 f ρ S = .ok (rangeL 0 j) S' := by
  have e : mRange1 f ρ S = (f ρ S).bind fun d S => match d with
    | .int j => if -(2 ^ 62) ≤ j ∧ j < 2 ^ 62 then .ok (rangeL 0 j.toNat) S else .stuck
    | _ => .stuck := rfl
  rw [e, h, R.bind_ok]
  show (if -(2 ^ 62) ≤ ((j : Nat) : Int) ∧ ((j : Nat) : Int) < 2 ^ 62 then R.ok (rangeL 0 ((j : Nat) : Int).toNat) S' else .stuck) = _
  rw [if_pos (range_lim hj), Int.toNat_natCast]
theorem s_some_plan {u k : Nat} {S : Store} (h : Urn u k S) (hk : k < 2 ^ 58) : ∃ (ls : List Ln) (rs : List Rl) (S' : Store), m_L_some_plan [.ref u, .int 6] S = .ok (planD ls rs) S' ∧ PlOk ls rs ∧ Urn u (k + 400) S' ∧ Ext u S S' := by
  obtain ⟨ls, S1, e1, u1, x1, hlo, hnd, hls⟩ := s_some_lines 6 (by decide) h (by omega)
  have hul : u < S1.length := by
    obtain ⟨_, _, _, q, _⟩ := u1.ex
    exact (List.getElem?_eq_some_iff.mp q).1
  have h0 : Urn u (k + 100) (S1 ++ [.lst []]) := by
    obtain ⟨ns, a, v, q1, q2⟩ := u1.ex
    exact ⟨ns, a, v, by rw [List.getElem?_append_left hul]; exact q1, q2⟩
  obtain ⟨w, S2, e2, hw, u2, b2⟩ := s_item (l := [.int 5, .int 12]) h0 (by simp) (by simp) (by omega)
  obtain ⟨z, rfl, z0, z1⟩ : ∃ z : Int, w = .int z ∧ 0 < z ∧ z ≤ 12 := by
    simp at hw
    rcases hw with rfl | rfl <;> exact ⟨_, rfl, by decide, by decide⟩
  obtain ⟨r, S3, e3, r0, r1, u3, b3⟩ := s_pull (m := z) (n := 5) u2 (by omega) (by unfold Sz; omega) (by decide) (by omega)
  obtain ⟨j, rfl⟩ := Int.eq_ofNat_of_zero_le r0
  have hS3 : S3[S1.length]? = some (.lst (([] : List Rl).map Rl.d)) := by
    rw [b3.at_ _ (by omega), b2.at_ _ (by omega)]; simp
  obtain ⟨y4, y5, y6, S4, all, e4, u4, b4, hS4, hok, hle⟩ := rules_for (p := S1.length) (by omega) hls hlo (some (.int 6)) (rangeL 0 j) [] none none none u3 (by simp [rangeL]; omega) hS3 (by simp) (by simp [rangeL]; omega)
  have hlen : all.length ≤ 11 := by simp [rangeL] at hle; omega
  have hj : (rangeL 0 j).length ≤ 11 := by simp [rangeL]; omega
  have IF : ∃ (ex : List Rl) (S5 : Store), (mIf (mAnd (mB (mOp ltD (mCB (one lenD) (mCons (mVar 3) mNil)) (mC (.int 11)))) (mB (mOp eqD (mCall 2 m_L_pull (mCons (mVar 0) (mCons (mC (.int 4)) mNil))) (mC (.int 0))))) (mSl (mVar 3) mNoP (mPart (mC (.int 1)))) (mLst mNil)) [some (.ref u), some (.int 6), some (.tup (ls.map Ln.d)), some (.ref S1.length), y4, y5, y6] S4 = .ok (.lst (ex.map Rl.d)) S5 ∧ (∀ r ∈ ex, r ∈ all) ∧ ex.length ≤ 1 ∧ Urn u (k + 399 - 4) S5 ∧ But u S4 S5 := by
    have ln : lenD (.ref S1.length) S4 = .ok (.int all.length) S4 := by simp [lenD, seqOf, lstOf, hS4]
    by_cases cN : all.length < 11
    · have c : (all.length : Int) < 11 := by omega
      obtain ⟨t, S5, e5, t0, t1, u5, b5⟩ := s_pull (m := 4) (n := 3) u4 (by decide) (by unfold Sz; decide) (by decide) (by omega)
      have hS5 : S5[S1.length]? = some (.lst (all.map Rl.d)) := by rw [b5.at_ _ (by omega)]; exact hS4
      by_cases z : t = 0
      · subst z
        have P := x_part [some (.ref u), some (.int 6), some (.tup (ls.map Ln.d)), some (.ref S1.length), y4, y5, y6] S5 (mC (.int 1)) 1 S5 rfl (by decide)
        have c1 : cutD (all.map Rl.d) none (some 1) = (all.take 1).map Rl.d := by
          unfold cutD
          rw [HT.sIx_none, show (1 : Int) = ((1 : Nat) : Int) from rfl, HT.sIx_nat, List.drop_zero, Nat.sub_zero, ← List.map_take, List.length_map, List.take_eq_take_min]
          congr 1
          rw [List.take_eq_take_min (i := 1)]; congr 1; omega
        refine ⟨all.take 1, S5, ?_, fun r hr => List.mem_of_mem_take hr, by simp; omega, u5.mono (by omega), b5⟩
        simp [ln, c, e5, P, slD, lstOf, hS5, c1, -List.map_take]
      · refine ⟨[], S5, ?_, by simp, by simp, u5.mono (by omega), b5⟩
        simp [ln, c, e5, z, sizeLine]
    · have c : ¬ (all.length : Int) < 11 := by omega
      refine ⟨[], S4, ?_, by simp, by simp, u4.mono (by omega), But.refl _ _⟩
      simp [ln, c, sizeLine]
  obtain ⟨ex, S5, e5, hex, lex, u5, b5⟩ := IF
  have hS5 : S5[S1.length]? = some (.lst (all.map Rl.d)) := by rw [b5.at_ _ (by omega)]; exact hS4
  have u6 : Urn u (k + 399 - 4) (S5 ++ [.lst (all.map Rl.d ++ ex.map Rl.d)]) := by
    obtain ⟨ns, a, v, q1, q2⟩ := u5.ex
    exact ⟨ns, a, v, by rw [List.getElem?_append_left (List.getElem?_eq_some_iff.mp q1).1]; exact q1, q2⟩
  obtain ⟨a, S7, e7, ra, u7, b7⟩ := s_small 2 (by decide) u6 (by omega)
  obtain ⟨b, S8, e8, rb, u8, b8⟩ := s_small 2 (by decide) u7 (by omega)
  refine ⟨ls, (all ++ ex) ++ [Rl.mk a b []], S8, ?_, ⟨hlo, hnd, hls, fun r hr => ?_, by simp; omega, ⟨_, List.mem_append_right _ List.mem_cons_self, rfl⟩⟩, u8.mono (by omega), ?_⟩
  · have RG : mRange1 (mCall 2 m_L_pull (mCons (mVar 0) (mCons (mCall 2 m_L_item (mCons (mVar 0) (mCons (mLst (mCons (mC (.int 5)) (mCons (mC (.int 12)) mNil))) mNil))) mNil))) [some (.ref u), some (.int 6), some (.tup (ls.map Ln.d)), some (.ref S1.length), none, none, none] (S1 ++ [.lst []]) = .ok (rangeL 0 j) S3 := by
      exact range_of (by simp [sizeLine, e2, e3]) (by omega)
    have AN : addN (.ref S1.length) (.lst (ex.map Rl.d)) S5 = .ok (.ref S5.length) (S5 ++ [.lst (all.map Rl.d ++ ex.map Rl.d)]) := by
      exact addN_at hS5 (by simp; omega)
    have TU : tupleD (.ref S5.length) (S5 ++ [.lst (all.map Rl.d ++ ex.map Rl.d)]) = .ok (.tup (all.map Rl.d ++ ex.map Rl.d)) (S5 ++ [.lst (all.map Rl.d ++ ex.map Rl.d)]) := by
      exact tupleD_last
    rw [plan_def]
    simp [e1, RG, e4, e5, AN, TU, e7, e8, sizeLine, addD, planD, Rl.d, -x_if, -x_range1]
    rw [if_pos (show all.length + ex.length ≤ 16777215 by omega)]
    simp
  · rcases List.mem_append.mp hr with hr | hr
    · rcases List.mem_append.mp hr with hr | hr
      · exact hok r hr
      · exact hok r (hex r hr)
    · simp at hr
      subst hr
      exact ⟨ra, rb, by simp, by simp⟩
  · refine ⟨?_, fun n hn hu => ?_⟩
    · have := x1.len
      rw [b8.len, b7.len, List.length_append, b5.len, b4.len, b3.len, b2.len]; simp; omega
    · have := x1.len
      rw [b8.at_ n hu, b7.at_ n hu, List.getElem?_append_left (by rw [b5.len, b4.len, b3.len, b2.len]; simp; omega), b5.at_ n hu, b4.at_ n hu (by omega), b3.at_ n hu, b2.at_ n hu, List.getElem?_append_left (by omega), x1.at_ n hn hu]
end DL

/-! Plain laws: points that are drawn. -/
namespace DL
open PySem PySem.Spec PyProof.Rows L2
theorem s_Lminus {m n : Nat} {q r : Rat} (S : Store) (h : RS m q) (k : RS n r) (hn : m + n < 9000) : m_L_minus [fr q, fr r] S = .ok (fr (q - r)) S := by
  unfold m_L_minus
  simp [fr, -x_mul, mul_ok S h.1 k.den (by omega), mul_ok S k.1 h.den (by omega), mul_ok S h.den k.den (by omega)]
  rw [s_low S (Int.mul_ne_zero (den_ne q) (den_ne r)) (h.den.mul k.den) hn, sub_eq]
  rfl
/-- low of a quotient, written out -/
theorem low_div {m n : Nat} {q r : Rat} (S : Store) (h : RS m q) (k : RS n r) (h0 : r.num ≠ 0) (hn : m + n < 9000) : m_L_low [.int (q.num * r.den), .int (q.den * r.num)] S = .ok (fr (q / r)) S := by
  rw [s_low S (Int.mul_ne_zero (den_ne q) h0) (h.den.mul k.1) hn, div_eq]
theorem plain_lines {n : Nat} : ∀ (ls : List Ln), (∀ l ∈ ls, l.Ok) → plains (n + 2) (ls.map Ln.d) = true
  | [], _ => rfl
  | l :: ls, h => by
    simp only [List.map_cons, plains, Ln.d, plain, plain_fr, names_ok _ (h l List.mem_cons_self).nm, Bool.and_true, Bool.true_and]
    exact plain_lines ls fun m hm => h m (List.mem_cons_of_mem _ hm)
theorem num_ne {q : Rat} (h : q ≠ 0) : q.num ≠ 0 := fun z => h (Rat.ext (by simpa using z) (by
  have := q.reduced
  rw [z] at this
  simpa using this))
theorem s_some_point {u k : Nat} {S : Store} {ls : List Ln} {rs : List Rl} (hp : PlOk ls rs) (h : Urn u k S) (hk : k < 2 ^ 58) : ∃ (x y : Rat) (S' : Store), m_L_some_point [.ref u, planD ls rs] S = .ok (.tup [fr x, fr y]) S' ∧ RS 70 x ∧ RS 70 y ∧ Urn u (k + 20) S' ∧ But u S S' := by
  obtain ⟨w, S1, e1, w0, w1, u1, b1⟩ := s_pull (m := 4) (n := 3) h (by decide) (by unfold Sz; decide) (by decide) (by omega)
  have pl0 : ixD (planD ls rs) (.int 0) S = .ok (.tup (ls.map Ln.d)) S := rfl
  by_cases c1 : w = 0 ∨ ls = []
  · obtain ⟨x, S2, e2, rx, u2, b2⟩ := s_small 4 (by decide) u1 (by omega)
    obtain ⟨y, S3, e3, ry, u3, b3⟩ := s_small 4 (by decide) u2 (by omega)
    refine ⟨x, y, S3, ?_, rx.mono (by decide), ry.mono (by decide), u3.mono (by omega), (b1.trans b2).trans b3⟩
    unfold m_L_some_point
    by_cases c : w = 0
    · subst c
      simp [pl0, e1, e2, e3, sizeLine]
    · have hl : ls = [] := by rcases c1 with z | z; exact absurd z c; exact z
      subst hl
      have q : eqD (.lst []) (.lst []) S1 = .ok (.bl true) S1 := rfl
      simp [pl0, e1, e2, e3, sizeLine, c, q]
  · have cw : ¬ w = 0 := fun z => c1 (.inl z)
    have cl : ls ≠ [] := fun z => c1 (.inr z)
    have q0 : eqD (.lst (ls.map Ln.d)) (.lst []) S1 = .ok (.bl false) S1 := by
      have pl := plain_lines (n := 61) ls hp.ln
      cases ls with
      | nil => exact absurd rfl cl
      | cons l ls =>
        simp only [List.map_cons, plains] at pl
        simp only [List.map_cons, eqD, derD_lst, plain, plains, Bool.and_true, eqB, eqBs, if_pos pl]
    obtain ⟨d1, S2, e2, h2, u2, b2⟩ := s_item (l := ls.map Ln.d) u1 (by simpa using cl) (by have := hp.ll; simp; omega) (by omega)
    obtain ⟨l1, m1, rfl⟩ := List.mem_map.mp h2
    obtain ⟨d2, S3, e3, h3, u3, b3⟩ := s_item (l := ls.map Ln.d) u2 (by simpa using cl) (by have := hp.ll; simp; omega) (by omega)
    obtain ⟨l2, m2, rfl⟩ := List.mem_map.mp h3
    have o1 := hp.ln l1 m1
    have o2 := hp.ln l2 m2
    have t1 := s_Lproduct S3 o1.a o2.b (by decide)
    have t2 := s_Lproduct S3 o1.b o2.a (by decide)
    have t3 := s_Lminus S3 (o1.a.mul o2.b) (o1.b.mul o2.a) (by decide)
    have rt := (o1.a.mul o2.b).sub (o1.b.mul o2.a)
    have x1 := s_Lproduct S3 o1.c o2.b (by decide)
    have x2 := s_Lproduct S3 o1.b o2.c (by decide)
    have x3 := s_Lminus S3 (o1.c.mul o2.b) (o1.b.mul o2.c) (by decide)
    have y1 := s_Lproduct S3 o1.a o2.c (by decide)
    have y2 := s_Lproduct S3 o1.c o2.a (by decide)
    have y3 := s_Lminus S3 (o1.a.mul o2.c) (o1.c.mul o2.a) (by decide)
    have rx := (o1.c.mul o2.b).sub (o1.b.mul o2.c)
    have ry := (o1.a.mul o2.c).sub (o1.c.mul o2.a)
    by_cases c2 : 1 < w ∧ ¬ (l1.a * l2.b - l1.b * l2.a).num = 0
    · refine ⟨(l1.c * l2.b - l1.b * l2.c) / (l1.a * l2.b - l1.b * l2.a), (l1.a * l2.c - l1.c * l2.a) / (l1.a * l2.b - l1.b * l2.a), S3, ?_, (rx.div rt).mono (by decide), (ry.div rt).mono (by decide), u3.mono (by omega), (b1.trans b2).trans b3⟩
      have z1 := mul_ok S3 rx.1 rt.den (by decide)
      have z2 := mul_ok S3 rx.den rt.1 (by decide)
      have z3 := mul_ok S3 ry.1 rt.den (by decide)
      have z4 := mul_ok S3 ry.den rt.1 (by decide)
      have z5 := low_div S3 rx rt c2.2 (by decide)
      have z6 := low_div S3 ry rt c2.2 (by decide)
      unfold m_L_some_point
      simp only [Ln.d] at e2 e3
      simp [-x_mul, pl0, e1, cw, q0, Ln.d, e2, e3, t1, t2, t3, c2.1, c2.2, x1, x2, x3, y1, y2, y3, z1, z2, z3, z4, z5, z6, sizeLine]
    · obtain ⟨v, S4, e4, rv, u4, b4⟩ := s_small 4 (by decide) u3 (by omega)
      have bb := ((b1.trans b2).trans b3).trans b4
      have c3 : (decide (1 < w) && !decide ((l1.a * l2.b - l1.b * l2.a).num = 0)) = false := by
        by_cases q : 1 < w
        · have : (l1.a * l2.b - l1.b * l2.a).num = 0 := by
            apply Decidable.byContradiction
            intro z
            exact c2 ⟨q, z⟩
          simp [this]
        · simp [q]
      by_cases c4 : l1.b.num = 0
      · have b0 : l1.b = 0 := Rat.ext (by simpa using c4) (by
          have := l1.b.reduced
          rw [c4] at this
          simpa using this)
        have a0 := num_ne (q := l1.a) fun z => o1.ab ⟨z, b0⟩
        have z1 := mul_ok S4 o1.c.1 o1.a.den (by decide)
        have z2 := mul_ok S4 o1.c.den o1.a.1 (by decide)
        have z3 := low_div S4 o1.c o1.a a0 (by decide)
        refine ⟨l1.c / l1.a, v, S4, ?_, (o1.c.div o1.a).mono (by decide), rv.mono (by decide), u4.mono (by omega), bb⟩
        unfold m_L_some_point
        simp only [Ln.d] at e2 e3
        by_cases q : 1 < w
        · have tz : (l1.a * l2.b - l1.b * l2.a).num = 0 := by
            apply Decidable.byContradiction
            intro z
            exact c2 ⟨q, z⟩
          simp [-x_mul, pl0, e1, cw, q0, Ln.d, e2, e3, t1, t2, t3, q, tz, e4, c4, sizeLine]
          rw [c4] at *
          simp [-x_mul, z1, z2, z3, sizeLine]
        · simp [-x_mul, pl0, e1, cw, q0, Ln.d, e2, e3, t1, t2, t3, q, e4, c4, z1, z2, z3, sizeLine]
      · have z0 := s_Lproduct S4 o1.a rv (by decide)
        have z1 := s_Lminus S4 o1.c (o1.a.mul rv) (by decide)
        have rr := o1.c.sub (o1.a.mul rv)
        have z2 := mul_ok S4 rr.1 o1.b.den (by decide)
        have z3 := mul_ok S4 rr.den o1.b.1 (by decide)
        have z4 := low_div S4 rr o1.b c4 (by decide)
        refine ⟨v, (l1.c - l1.a * v) / l1.b, S4, ?_, rv.mono (by decide), (rr.div o1.b).mono (by decide), u4.mono (by omega), bb⟩
        unfold m_L_some_point
        simp only [Ln.d] at e2 e3
        by_cases q : 1 < w
        · have tz : (l1.a * l2.b - l1.b * l2.a).num = 0 := by
            apply Decidable.byContradiction
            intro z
            exact c2 ⟨q, z⟩
          simp [-x_mul, pl0, e1, cw, q0, Ln.d, e2, e3, t1, t2, t3, q, tz, e4, c4, z0, z1, z2, z3, z4, sizeLine]
        · simp [-x_mul, pl0, e1, cw, q0, Ln.d, e2, e3, t1, t2, t3, q, e4, c4, z0, z1, z2, z3, z4, sizeLine]
end DL

/-! Plain laws: sides. -/
namespace DL
open PySem PySem.Spec PyProof.Rows L2
def sideOf (l : Ln) (x y : Rat) : Int := (l.a * x + l.b * y - l.c).num.sign
theorem s_sign (q : Rat) (S : Store) : m_sign [fr q] S = .ok (.int q.num.sign) S := by
  unfold m_sign
  simp [b2]
  rcases Int.lt_trichotomy q.num 0 with h | h | h
  · rw [Int.sign_eq_neg_one_of_neg h]; simp [h, show ¬ 0 < q.num by omega]
  · rw [h]; rfl
  · rw [Int.sign_eq_one_of_pos h]; simp [h, show ¬ q.num < 0 by omega]
theorem s_Lsignum (q : Rat) (S : Store) : m_L_signum [fr q] S = .ok (.int q.num.sign) S := by
  unfold m_L_signum
  simp [b2, intD]
  rcases Int.lt_trichotomy q.num 0 with h | h | h
  · rw [Int.sign_eq_neg_one_of_neg h]; simp [h, show ¬ 0 < q.num by omega]
  · rw [h]; rfl
  · rw [Int.sign_eq_one_of_pos h]; simp [h, show ¬ q.num < 0 by omega]
theorem s_minus {m n : Nat} {q r : Rat} (S : Store) (h : RS m q) (k : RS n r) (hn : m + n < 9000) : m_minus [fr q, fr r] S = .ok (fr (q - r)) S := by
  unfold m_minus
  simp [fr, -x_mul, mul_ok S h.1 k.den (by omega), mul_ok S k.1 h.den (by omega), mul_ok S h.den k.den (by omega)]
  rw [s_fraction S (Int.mul_ne_zero (den_ne q) (den_ne r)) (h.den.mul k.den) hn, sub_eq]
  rfl
theorem s_dot {a b c d : Rat} {n : Nat} (S : Store) (h1 : RS n a) (h2 : RS n b) (h3 : RS n c) (h4 : RS n d) (hn : n ≤ 1000) : m_dot [.tup [fr a, fr b], .tup [fr c, fr d]] S = .ok (fr (a * c + b * d)) S := by
  unfold m_dot
  simp [s_times S h1 h3 (by omega), s_times S h2 h4 (by omega), s_plus S (h1.mul h3) (h2.mul h4) (by omega)]
theorem s_value_at {l : Ln} (o : l.Ok) {x y : Rat} (hx : RS 200 x) (hy : RS 200 y) (S : Store) : m_value_at [l.d, .tup [fr x, fr y]] S = .ok (fr (l.a * x + l.b * y - l.c)) S := by
  have c1 : cutD [.str l.nm, fr l.a, fr l.b, fr l.c] (some 1) (some 3) = [fr l.a, fr l.b] := rfl
  have p1 := fun ρ : Env => x_part ρ S (mC (.int 1)) 1 S rfl (by decide)
  have p3 := fun ρ : Env => x_part ρ S (mC (.int 3)) 3 S rfl (by decide)
  have d := s_dot S (o.a.mono (by decide)) (o.b.mono (by decide)) hx hy (by decide)
  have m := s_minus S ((o.a.mul hx).add (o.b.mul hy)) o.c (by decide)
  unfold m_value_at
  simp [Ln.d, slD, p1, p3, c1, d, m]
theorem s_Lvalue {l : Ln} (o : l.Ok) {x y : Rat} (hx : RS 200 x) (hy : RS 200 y) (S : Store) : m_L_value [l.d, .tup [fr x, fr y]] S = .ok (fr (l.a * x + l.b * y)) S := by
  have z1 := s_Lproduct S o.a hx (by decide)
  have z2 := s_Lproduct S o.b hy (by decide)
  have z3 := s_Lsum S (o.a.mul hx) (o.b.mul hy) (by decide)
  unfold m_L_value
  simp [Ln.d, z1, z2, z3]
theorem lc_mapG {α : Type} {i : Nat} {te : EM} {ρ : Env} {S : Store} {g h : α → D} : ∀ {ls : List α}, (∀ l ∈ ls, te (ρ.set i (some (g l))) S = .ok (h l) S) → mLcL (gN i) mYes te ρ (ls.map g) S = .ok (ls.map h) S
  | [], _ => rfl
  | l :: ls, hh => by
    have h1 := hh l List.mem_cons_self
    have h2 := lc_mapG (ls := ls) fun z hz => hh z (List.mem_cons_of_mem _ hz)
    simp only [List.map_cons, mLcL, x_gN, x_yes, R.nx_ok, R.bind_ok, if_true, h1, h2]
/-- the sides of a point -/
def sidesD (ls : List Ln) (x y : Rat) : D := .tup (ls.map fun l => .int (sideOf l x y))
theorem s_sides {ls : List Ln} {rs : List Rl} (hp : PlOk ls rs) {x y : Rat} (hx : RS 200 x) (hy : RS 200 y) (S : Store) : m_sides [planD ls rs, .tup [fr x, fr y]] S = .ok (sidesD ls x y) S := by
  have pl0 : ixD (planD ls rs) (.int 0) S = .ok (.tup (ls.map Ln.d)) S := rfl
  have key := lc_mapG (i := 2) (te := mCall 1 m_sign (mCons (mCall 2 m_value_at (mCons (mVar 2) (mCons (mVar 1) mNil))) mNil)) (ρ := [some (planD ls rs), some (.tup [fr x, fr y]), none]) (S := S) (g := Ln.d) (h := fun l => .int (sideOf l x y)) (ls := ls) fun l hl => by
    simp [s_value_at (hp.ln l hl) hx hy, s_sign, sideOf]
  have hlen : ls.length ≤ 16777216 := by have := hp.ll; omega
  unfold m_sides
  simp [pl0, sizeLine, hlen, wipeD, key, fzL, sidesD]
theorem s_Lsides {ls : List Ln} {rs : List Rl} (hp : PlOk ls rs) {x y : Rat} (hx : RS 200 x) (hy : RS 200 y) (S : Store) : m_L_sides [planD ls rs, .tup [fr x, fr y]] S = .ok (sidesD ls x y) S := by
  have pl0 : ixD (planD ls rs) (.int 0) S = .ok (.tup (ls.map Ln.d)) S := rfl
  have key := lc_mapG (i := 2) (te := mCall 1 m_L_signum (mCons (mCall 2 m_L_minus (mCons (mCall 2 m_L_value (mCons (mVar 2) (mCons (mVar 1) mNil))) (mCons (mOp ixD (mVar 2) (mC (.int 3))) mNil))) mNil)) (ρ := [some (planD ls rs), some (.tup [fr x, fr y]), none]) (S := S) (g := Ln.d) (h := fun l => .int (sideOf l x y)) (ls := ls) fun l hl => by
    have o := hp.ln l hl
    have i3 : ixD l.d (.int 3) S = .ok (fr l.c) S := rfl
    have m := s_Lminus S ((o.a.mul hx).add (o.b.mul hy)) o.c (by decide)
    simp [s_Lvalue o hx hy, i3, m, s_Lsignum, sideOf]
  have hlen : ls.length ≤ 16777216 := by have := hp.ll; omega
  unfold m_L_sides
  simp [pl0, sizeLine, hlen, wipeD, key, fzL, sidesD]
end DL

/-! Plain laws: drifts. -/
namespace DL
open PySem PySem.Spec PyProof.Rows L2
/-- the side that a face has of the line n -/
def sideAt : List Ln → List Int → Str → Option Int
  | l :: ls, f :: fs, n => if l.nm = n then some f else sideAt ls fs n
  | _, _, _ => none
theorem sideAt_some : ∀ (ls : List Ln) (fs : List Int) (n : Str), fs.length = ls.length → n ∈ ls.map Ln.nm → ∃ (f : Int) (j : Nat), sideAt ls fs n = some f ∧ (ls.map fun l => D.str l.nm).findIdx? (fun z => eqB z (.str n)) = some j ∧ fs[j]? = some f
  | [], fs, n, _, h => by simp at h
  | l :: ls, [], n, hl, _ => by simp at hl
  | l :: ls, f :: fs, n, hl, h => by
    by_cases q : l.nm = n
    · exact ⟨f, 0, by simp [sideAt, q], by simp [List.findIdx?_cons, eqB, q], rfl⟩
    · have h' : n ∈ ls.map Ln.nm := by
        simp only [List.map_cons, List.mem_cons] at h
        rcases h with h | h
        · exact absurd h.symm q
        · exact h
      obtain ⟨g, j, h1, h2, h3⟩ := sideAt_some ls fs n (by simpa using hl) h'
      refine ⟨g, j + 1, by simp [sideAt, q, h1], ?_, by simpa using h3⟩
      simp only [List.map_cons, List.findIdx?_cons, eqB, h2]
      simp [q]
theorem plain_names {n : Nat} : ∀ (ls : List Ln), (∀ l ∈ ls, l.Ok) → plains n (ls.map fun l => D.str l.nm) = true
  | [], _ => rfl
  | l :: ls, h => by
    simp only [List.map_cons, plains, plain, names_ok _ (h l List.mem_cons_self).nm, Bool.true_and]
    exact plain_names ls fun m hm => h m (List.mem_cons_of_mem _ hm)
theorem index_name {ls : List Ln} (hlo : ∀ l ∈ ls, l.Ok) {n : Str} (hn : n ∈ ls.map Ln.nm) {j : Nat} (h : (ls.map fun l => D.str l.nm).findIdx? (fun z => eqB z (.str n)) = some j) (S : Store) : indexD (.lst (ls.map fun l => D.str l.nm)) [.str n] S = .ok (.int (j : Nat)) S := by
  obtain ⟨l, hl, rfl⟩ := List.mem_map.mp hn
  have p1 := plain_names (n := 63) ls hlo
  have p2 : plain 64 (.str l.nm) = true := names_ok _ (hlo l hl).nm
  simp only [indexD, seqOf_lst, derD_str, p1, p2, Bool.and_true, if_true, h]
def holdsC (ls : List Ln) (fs : List Int) (c : Str × Int) : Bool := sideAt ls fs c.1 == some c.2
theorem Lconds {ls : List Ln} {fs : List Int} (hlo : ∀ l ∈ ls, l.Ok) (hl : fs.length = ls.length) (d0 x3 x4 x5 : Option D) (S : Store) : ∀ cs : List (Str × Int), (∀ c ∈ cs, c.1 ∈ ls.map Ln.nm) →
    ∃ ys : List D, mLcL (gTupM 2 (gConsM (gN 6) (gConsM (gN 7) gNilM))) (mB (mOp neD (mOp ixD (mVar 1) (mMetA isQ indexD (mVar 2) (mCons (mVar 6) mNil))) (mVar 7))) (mC (.int 1)) [d0, some (.tup (fs.map .int)), some (.lst (ls.map fun l => .str l.nm)), x3, x4, x5, none, none] (cs.map cnd) S = .ok ys S ∧ (∀ y ∈ ys, y = .int 1) ∧ (ys = [] ↔ cs.all (holdsC ls fs) = true)
  | [], _ => ⟨[], rfl, by simp, by simp⟩
  | c :: cs, h => by
    obtain ⟨ys, e, h1, h2⟩ := Lconds hlo hl d0 x3 x4 x5 S cs fun d m => h d (List.mem_cons_of_mem _ m)
    obtain ⟨f, j, q1, q2, q3⟩ := sideAt_some ls fs c.1 hl (h c List.mem_cons_self)
    have ix := index_name hlo (h c List.mem_cons_self) q2 S
    have q4 : atI (fs.map D.int) ((j : Nat) : Int) = some (.int f) := by rw [atI_nat, List.getElem?_map, q3]; rfl
    have T : mB (mOp neD (mOp ixD (mVar 1) (mMetA isQ indexD (mVar 2) (mCons (mVar 6) mNil))) (mVar 7)) [d0, some (.tup (fs.map .int)), some (.lst (ls.map fun l => .str l.nm)), x3, x4, x5, some (.str c.1), some (.int c.2)] S = .ok (!(f == c.2)) S := by
      simp [isQ, isL, ix, q4]
    by_cases z : f = c.2
    · refine ⟨ys, ?_, h1, ?_⟩
      · simp [mLcL, cnd, isQ, isL, ix, q4, z, e]
      · rw [h2]; simp [holdsC, q1, z]
    · refine ⟨.int 1 :: ys, ?_, fun y m => ?_, ?_⟩
      · simp [mLcL, cnd, isQ, isL, ix, q4, z, e]
      · rcases List.mem_cons.mp m with rfl | m
        · rfl
        · exact h1 y m
      · simp [holdsC, q1, z]
def Rl.fits (r : Rl) (ls : List Ln) (fs : List Int) : Bool := r.cs.all (holdsC ls fs)
/-- the first rule that fits -/
def firstR (ls : List Ln) (fs : List Int) (rs : List Rl) : Option Rl := rs.find? fun r => r.fits ls fs
def drD (r : Rl) : D := .tup [fr r.p, fr r.q]
noncomputable def patchB : SM := mIfS (mB (mOp eqD (mLc [6, 7] (mIt (mVar 4)) (gTupM 2 (gConsM (gN 6) (gConsM (gN 7) gNilM))) (mB (mOp neD (mOp ixD (mVar 1) (mMetA isQ indexD (mVar 2) (mCons (mVar 6) mNil))) (mVar 7))) (mC (.int 1))) (mLst mNil))) (mRet (mVar 3)) mNext
theorem ones_eq {ys : List D} (h : ∀ y ∈ ys, y = .int 1) (S : Store) : eqD (.lst ys) (.lst []) S = .ok (.bl ys.isEmpty) S := by
  have hp : plains 63 ys = true := by
    clear S
    induction ys with
    | nil => rfl
    | cons y ys ih =>
      rw [h y List.mem_cons_self]
      simp only [plains, plain, Bool.true_and]
      exact ih fun z m => h z (List.mem_cons_of_mem _ m)
  cases ys with
  | nil => rfl
  | cons y ys => simp [eqD, plain, plains, eqB, eqBs] at hp ⊢; exact hp
theorem Lpatch_loop {ls : List Ln} {fs : List Int} (hlo : ∀ l ∈ ls, l.Ok) (hll : ls.length ≤ 6) (hl : fs.length = ls.length) (d0 : Option D) (S : Store) : ∀ (rs : List Rl) (x3 x4 x5 : Option D), (∀ r ∈ rs, r.Ok ls) → (∃ r ∈ rs, r.fits ls fs = true) →
    ∃ (r : Rl) (ρ' : Env), firstR ls fs rs = some r ∧ mForL (gTupM 2 (gConsM (gN 3) (gConsM (gN 4) gNilM))) patchB (rs.map Rl.d) [d0, some (.tup (fs.map .int)), some (.lst (ls.map fun l => .str l.nm)), x3, x4, x5, none, none] S = .go (.rt (drD r)) ρ' S
  | [], x3, x4, x5, _, h => by obtain ⟨r, m, _⟩ := h; simp at m
  | r :: rs, x3, x4, x5, hok, h => by
    have o := hok r List.mem_cons_self
    obtain ⟨ys, e, h1, h2⟩ := Lconds hlo hl d0 (some (drD r)) (some (.tup (r.cs.map cnd))) x5 S r.cs fun c m => (o.cs c m).1
    have q := ones_eq h1 S
    have hlen : r.cs.length ≤ 16777216 := by have := o.len; omega
    by_cases z : r.fits ls fs = true
    · refine ⟨r, [d0, some (.tup (fs.map .int)), some (.lst (ls.map fun l => .str l.nm)), some (drD r), some (.tup (r.cs.map cnd)), x5, none, none], by simp [firstR, List.find?_cons, z], ?_⟩
      have hy : ys = [] := h2.mpr z
      subst hy
      simp only [List.map_cons, Rl.d, ← drD.eq_def, mForL, x_gTup, x_gCons, x_gNil, x_gN, List.length, List.set, Option.bind_some, if_true]
      unfold patchB
      simp [sizeLine, hlen, wipeD, e, fzL, q]
    · obtain ⟨r', ρ', f1, f2⟩ := Lpatch_loop hlo hll hl d0 S rs (some (drD r)) (some (.tup (r.cs.map cnd))) x5 (fun s m => hok s (List.mem_cons_of_mem _ m)) (by
        obtain ⟨s, m, hs⟩ := h
        rcases List.mem_cons.mp m with rfl | m
        · exact absurd hs z
        · exact ⟨s, m, hs⟩)
      refine ⟨r', ρ', by simp [firstR, List.find?_cons, z]; exact f1, ?_⟩
      have hy : ys.isEmpty = false := by
        cases ys with
        | nil => exact absurd (h2.mp rfl) z
        | cons y ys => rfl
      rw [hy] at q
      rw [List.map_cons, mForL]
      simp only [Rl.d, ← drD.eq_def, x_gTup, x_gCons, x_gNil, x_gN, List.length, List.set, Option.bind_some, if_true]
      unfold patchB at f2 ⊢
      simp [sizeLine, hlen, wipeD, e, fzL, q] at f2 ⊢
      exact f2
theorem s_Lpatch {ls : List Ln} {rs : List Rl} (hp : PlOk ls rs) {fs : List Int} (hl : fs.length = ls.length) (S : Store) : ∃ r, firstR ls fs rs = some r ∧ m_L_patch_drift [planD ls rs, .tup (fs.map .int)] S = .ok (drD r) S := by
  have pl0 : ixD (planD ls rs) (.int 0) S = .ok (.tup (ls.map Ln.d)) S := rfl
  have pl1 : ixD (planD ls rs) (.int 1) S = .ok (.tup (rs.map Rl.d)) S := rfl
  obtain ⟨r, ρ', f1, f2⟩ := Lpatch_loop hp.ln hp.ll hl (some (planD ls rs)) S rs none none none hp.rl (by
    obtain ⟨r, m, hr⟩ := hp.last
    exact ⟨r, m, by simp [Rl.fits, hr]⟩)
  have key := lc_mapG (i := 5) (te := mOp ixD (mVar 5) (mC (.int 0))) (ρ := [some (planD ls rs), some (.tup (fs.map .int)), none, none, none, none, none, none]) (S := S) (g := Ln.d) (h := fun l => .str l.nm) (ls := ls) fun l hl => by
    have i0 : ixD l.d (.int 0) S = .ok (.str l.nm) S := rfl
    simp [i0]
  have hlen : ls.length ≤ 16777216 := by have := hp.ll; omega
  refine ⟨r, f1, ?_⟩
  unfold m_L_patch_drift
  unfold patchB at f2
  simp [pl0, pl1, sizeLine, hlen, wipeD, key, fzL] at f2 ⊢
  simp [f2]
theorem dc_loop (d0 d1 d2 x3 x4 x5 x6 x7 : Option D) (S : Store) : ∀ (ls : List Ln) (fs : List Int) (ks : List Key) (vs : List D), fs.length = ls.length → (ls.map Ln.nm).Nodup → (∀ l ∈ ls, (Sum.inr l.nm : Key) ∉ ks) →
    mDcA (gTupM 2 (gConsM (gN 3) (gConsM (gN 4) gNilM))) mYes (mOp ixD (mVar 3) (mC (.int 0))) (mVar 4) [d0, d1, d2, none, none, x5, x6, x7] ((zipL (ls.map Ln.d) (fs.map D.int)).map D.wt) ks vs S = .ok (ks ++ ls.map (fun l => Sum.inr l.nm), vs ++ fs.map D.int) S
  | [], [], ks, vs, _, _, _ => by simp [zipL, mDcA]
  | [], f :: fs, ks, vs, h, _, _ => by simp at h
  | l :: ls, [], ks, vs, h, _, _ => by simp at h
  | l :: ls, f :: fs, ks, vs, h, hn, hk => by
    simp only [List.map_cons, List.nodup_cons] at hn
    have i0 : ixD l.d (.int 0) S = .ok (.str l.nm) S := rfl
    have ih := dc_loop d0 d1 d2 x3 x4 x5 x6 x7 S ls fs (ks ++ [Sum.inr l.nm]) (vs ++ [.int f]) (by simpa using h) hn.2 (fun m hm q => by
      rcases List.mem_append.mp q with q | q
      · exact hk m (List.mem_cons_of_mem _ hm) q
      · simp at q
        exact hn.1 (List.mem_map.mpr ⟨m, hm, q⟩))
    have nk : (ks.any fun q => decide (q = (Sum.inr l.nm : Key))) = false := by
      rw [List.any_eq_false]
      intro q hq
      simp only [decide_eq_true_eq]
      intro z
      exact hk l List.mem_cons_self (z ▸ hq)
    simp only [List.map_cons, zipL, mDcA, x_gTup, x_gTupW, x_gCons, x_gN, x_gNil, List.length, List.set, Option.bind_some, if_true, x_yes, R.nx_ok, R.bind_ok, x_op, x_var, x_c, List.getElem?_cons_zero, List.getElem?_cons_succ, i0, keyOf, nk, Bool.false_eq_true, if_false, ih, List.append_assoc, List.cons_append, List.nil_append]
theorem getK_side : ∀ (ls : List Ln) (fs : List Int) (n : Str), getK (ls.map fun l => Sum.inr l.nm) (fs.map D.int) (Sum.inr n) = (sideAt ls fs n).map D.int
  | [], fs, n => by simp [getK, sideAt]
  | l :: ls, [], n => by simp [getK, sideAt]
  | l :: ls, f :: fs, n => by
    by_cases q : l.nm = n
    · simp [getK, sideAt, q]
    · simp [getK, sideAt, q, getK_side ls fs n]
theorem Pconds {ls : List Ln} {fs : List Int} (hl : fs.length = ls.length) {u : Nat} {S : Store} (hS : S[u]? = some (.dct (ls.map fun l => Sum.inr l.nm) (fs.map D.int))) (d0 d1 x3 x5 x6 : Option D) : ∀ cs : List (Str × Int), (∀ c ∈ cs, c.1 ∈ ls.map Ln.nm) →
    mLcL (gTupM 2 (gConsM (gN 7) (gConsM (gN 4) gNilM))) mYes (mOp eqD (mOp dgetD (mVar 2) (mVar 7)) (mVar 4)) [d0, d1, some (.ref u), x3, none, x5, x6, none] (cs.map cnd) S = .ok (cs.map fun c => .bl (holdsC ls fs c)) S
  | [], _ => rfl
  | c :: cs, h => by
    obtain ⟨f, j, q1, _, _⟩ := sideAt_some ls fs c.1 hl (h c List.mem_cons_self)
    have ih := Pconds hl hS d0 d1 x3 x5 x6 cs fun d m => h d (List.mem_cons_of_mem _ m)
    have g : dgetD (.ref u) (.str c.1) S = .ok (.int f) S := by
      simp only [dgetD, hS, keyOf, getK_side, q1, Option.map_some]
    simp [mLcL, cnd, g, ih, holdsC, q1]
theorem bls_map (f : α → Bool) : ∀ cs : List α, blsOf (cs.map fun c => D.bl (f c)) = some (cs.map f)
  | [] => rfl
  | c :: cs => by simp [blsOf, blOf, bls_map f cs]
theorem Prules {ls : List Ln} {fs : List Int} (hll : ls.length ≤ 6) (hl : fs.length = ls.length) {u : Nat} {S : Store} (hS : S[u]? = some (.dct (ls.map fun l => Sum.inr l.nm) (fs.map D.int))) (d0 d1 x3 x4 : Option D) : ∀ rs : List Rl, (∀ r ∈ rs, r.Ok ls) →
    mLcL (gTupM 2 (gConsM (gN 5) (gConsM (gN 6) gNilM))) (mB (mCB (one allD) (mCons (mLc [7, 4] (mIt (mVar 6)) (gTupM 2 (gConsM (gN 7) (gConsM (gN 4) gNilM))) mYes (mOp eqD (mOp dgetD (mVar 2) (mVar 7)) (mVar 4))) mNil))) (mVar 5) [d0, d1, some (.ref u), x3, x4, none, none, none] (rs.map Rl.d) S = .ok ((rs.filter fun r => r.fits ls fs).map drD) S
  | [], _ => rfl
  | r :: rs, h => by
    have o := h r List.mem_cons_self
    have hlen : r.cs.length ≤ 16777216 := by have := o.len; omega
    have pc := Pconds hl hS d0 d1 x3 (some (drD r)) (some (.tup (r.cs.map cnd))) r.cs fun c m => (o.cs c m).1
    have ih := Prules hll hl hS d0 d1 x3 x4 rs fun s m => h s (List.mem_cons_of_mem _ m)
    have T : mB (mCB (one allD) (mCons (mLc [7, 4] (mIt (mVar 6)) (gTupM 2 (gConsM (gN 7) (gConsM (gN 4) gNilM))) mYes (mOp eqD (mOp dgetD (mVar 2) (mVar 7)) (mVar 4))) mNil)) [d0, d1, some (.ref u), x3, x4, some (drD r), some (.tup (r.cs.map cnd)), none] S = .ok (r.fits ls fs) S := by
      simp [sizeLine, hlen, wipeD, pc, fzL, allD, bls_map, Rl.fits, List.all_map]
    simp only [List.map_cons, Rl.d, ← drD.eq_def, mLcL, x_gTup, x_gCons, x_gNil, x_gN, List.length, List.set, Option.bind_some, if_true, T, R.nx_ok, R.bind_ok, x_var, List.getElem?_cons_zero, List.getElem?_cons_succ, ih]
    cases z : r.fits ls fs <;> simp [List.filter_cons, z]
end DL

/-! Plain laws: drifts of faces. -/
namespace DL
open PySem PySem.Spec PyProof.Rows L2
/-- the store has grown at its end -/
def Grow (S S' : Store) : Prop := ∃ X : Store, S' = S ++ X
theorem Grow.refl (S : Store) : Grow S S := ⟨[], by simp⟩
theorem Grow.one (S : Store) (o : Ob) : Grow S (S ++ [o]) := ⟨[o], rfl⟩
theorem Grow.trans {S S1 S2 : Store} (h : Grow S S1) (k : Grow S1 S2) : Grow S S2 := by
  obtain ⟨X, rfl⟩ := h
  obtain ⟨Y, rfl⟩ := k
  exact ⟨X ++ Y, by rw [List.append_assoc]⟩
theorem Grow.at_ {S S' : Store} (h : Grow S S') {n : Nat} {o : Ob} (e : S[n]? = some o) : S'[n]? = some o := by
  obtain ⟨X, rfl⟩ := h
  rw [List.getElem?_append_left (List.getElem?_eq_some_iff.mp e).1]; exact e
theorem Grow.urn {S S' : Store} (h : Grow S S') {u k : Nat} (q : Urn u k S) : Urn u k S' := by
  obtain ⟨ns, a, v, h1, h2⟩ := q.ex
  exact ⟨ns, a, v, h.at_ h1, h2⟩
theorem Grow.ext {S S' : Store} (h : Grow S S') (u : Nat) : Ext u S S' := by
  obtain ⟨X, rfl⟩ := h
  exact Ext.app u S X
theorem firstR_head {ls : List Ln} {fs : List Int} {rs : List Rl} {r : Rl} (h : firstR ls fs rs = some r) : ∃ t, (rs.filter fun r => r.fits ls fs) = r :: t := by
  unfold firstR at h
  rw [← List.head?_filter] at h
  cases q : rs.filter fun r => r.fits ls fs with
  | nil => rw [q] at h; cases h
  | cons x t =>
    rw [q] at h
    cases h
    exact ⟨t, rfl⟩
theorem firstR_ok {ls : List Ln} {fs : List Int} {rs : List Rl} {r : Rl} (hp : PlOk ls rs) (h : firstR ls fs rs = some r) : r.Ok ls := hp.rl r (List.mem_of_find?_eq_some h)
theorem firstR_some {ls : List Ln} {fs : List Int} {rs : List Rl} (hp : PlOk ls rs) : ∃ r, firstR ls fs rs = some r := by
  obtain ⟨r, m, hr⟩ := hp.last
  have : (rs.find? fun r => r.fits ls fs).isSome = true := by
    rw [List.find?_isSome]
    exact ⟨r, m, by simp [Rl.fits, hr]⟩
  exact Option.isSome_iff_exists.mp this
theorem s_patch {ls : List Ln} {rs : List Rl} (hp : PlOk ls rs) {fs : List Int} (hl : fs.length = ls.length) {r : Rl} (hr : firstR ls fs rs = some r) (S : Store) : ∃ S' : Store, m_patch_drift [planD ls rs, .tup (fs.map .int)] S = .ok (drD r) S' ∧ Grow S S' := by
  have pl0 : ixD (planD ls rs) (.int 0) S = .ok (.tup (ls.map Ln.d)) S := rfl
  have pl1 : ixD (planD ls rs) (.int 1) (S ++ [.dct (ls.map fun l => Sum.inr l.nm) (fs.map D.int)]) = .ok (.tup (rs.map Rl.d)) (S ++ [.dct (ls.map fun l => Sum.inr l.nm) (fs.map D.int)]) := rfl
  refine ⟨_, ?_, Grow.one S (.dct (ls.map fun l => Sum.inr l.nm) (fs.map D.int))⟩
  have dc := dc_loop (some (planD ls rs)) (some (.tup (fs.map .int))) none none none none none none S ls fs [] [] hl hp.nd (by simp)
  have hS : (S ++ [Ob.dct (ls.map fun l => Sum.inr l.nm) (fs.map D.int)])[S.length]? = some (.dct (ls.map fun l => Sum.inr l.nm) (fs.map D.int)) := by simp
  have pr := Prules hp.ll hl hS (some (planD ls rs)) (some (.tup (fs.map .int))) none none rs hp.rl
  obtain ⟨t, ht⟩ := firstR_head hr
  have zl : (zipL (ls.map Ln.d) (fs.map D.int)).length ≤ 16777216 := by
    have := hp.ll
    simp [zipL_len]; omega
  have rl : rs.length ≤ 16777216 := by have := hp.lr; omega
  unfold m_patch_drift
  simp only [List.nil_append] at dc
  simp [mDc, mZip, pl0, sizeLine, wipeD, dc, zl, pl1, rl, pr, ht, fzL]
theorem cut_to {l : List D} {j : Nat} (h : j ≤ l.length) : cutD l none (some (j : Int)) = l.take j := by
  unfold cutD
  rw [HT.sIx_none, HT.sIx_nat, List.drop_zero, Nat.sub_zero, Nat.min_eq_left h]
theorem cut_from {l : List D} {j : Nat} (h : j ≤ l.length) : cutD l (some (j : Int)) none = l.drop j := by
  unfold cutD
  rw [HT.sIx_none, HT.sIx_nat, Nat.min_eq_left h, List.take_of_length_le (by simp)]
theorem set_ints {fs : List Int} {j : Nat} (h : j < fs.length) (v : Int) : (fs.map D.int).take j ++ [.int v] ++ (fs.map D.int).drop (j + 1) = (fs.set j v).map D.int := by
  rw [List.set_eq_take_append_cons_drop, if_pos h]
  simp
/-- a face with another side, written out -/
def setE (i1 i2 : Nat) (te : EM) : EM := mOp addD (mOp addD (mSl (mVar i1) mNoP (mPart (mVar i2))) (mTup (mCons te mNil))) (mSl (mVar i1) (mPart (mOp addD (mVar i2) (mC (.int 1)))) mNoP)
theorem set_expr {fs : List Int} {j : Nat} (h : j < fs.length) (hf : fs.length < 1000) (v : Int) (i1 i2 : Nat) (ρ : Env) (S : Store) (h1 : ρ[i1]? = some (some (.tup (fs.map .int)))) (h2 : ρ[i2]? = some (some (.int (j : Nat)))) (te : EM) (ht : te ρ S = .ok (.int v) S) :
    setE i1 i2 te ρ S = .ok (.tup ((fs.set j v).map .int)) S := by
  have p1 := x_part ρ S (mVar i2) j S (by simp [h2]) (by omega)
  have p2 := x_part ρ S (mOp addD (mVar i2) (mC (.int 1))) ((j + 1 : Nat) : Int) S (by simp [h2]) (by omega)
  have c1 := cut_to (l := fs.map D.int) (j := j) (by simp; omega)
  have c2 := cut_from (l := fs.map D.int) (j := j + 1) (by simp; omega)
  have e := set_ints h v
  have z1 : ((fs.map D.int).take j).length + [D.int v].length ≤ sizeLine := by rw [show sizeLine = 16777216 from rfl]; simp; omega
  have z2 : ((fs.map D.int).take j ++ [D.int v]).length + ((fs.map D.int).drop (j + 1)).length ≤ sizeLine := by rw [show sizeLine = 16777216 from rfl]; simp; omega
  have z0 : [D.int v].length ≤ sizeLine := by rw [show sizeLine = 16777216 from rfl]; simp
  unfold setE
  simp only [x_op, x_sl, x_var, h1, R.bind_ok, x_noP, p1, p2, slD, c1, c2, x_tup, x_cons, x_nil, ht, if_pos z0]
  have a1 : addD (.tup ((fs.map D.int).take j)) (.tup [D.int v]) S = .ok (.tup ((fs.map D.int).take j ++ [D.int v])) S := if_pos z1
  have a2 : addD (.tup ((fs.map D.int).take j ++ [D.int v])) (.tup ((fs.map D.int).drop (j + 1))) S = .ok (.tup ((fs.map D.int).take j ++ [D.int v] ++ (fs.map D.int).drop (j + 1))) S := if_pos z2
  rw [a1, R.bind_ok]
  simp only [p2, R.bind_ok, slD, c2]
  rw [a2, e]
theorem s_with_side {fs : List Int} {j : Nat} (h : j < fs.length) (hf : fs.length < 1000) (v : Int) (S : Store) : m_with_side [.tup (fs.map .int), .int (j : Nat), .int v] S = .ok (.tup ((fs.set j v).map .int)) S := by
  have e := set_expr h hf v 0 1 [some (.tup (fs.map D.int)), some (.int (j : Nat)), some (.int v)] S rfl rfl (mVar 2) rfl
  rw [show m_with_side = mFun 3 (mRet (setE 0 1 (mVar 2))) from rfl]
  simp only [x_fun, x_ret, start_def, List.map, List.length, Nat.sub_self, List.replicate, List.append_nil, e, R.to_ok]
/-- the drift of an edge on a line, between two rules -/
def edgeQ (l : Ln) (a b : Rl) : Option (Rat × Rat) :=
  if 0 < (l.a * a.p + l.b * a.q).num ∨ (l.a * b.p + l.b * b.q).num < 0 then none
  else if l.a * a.p + l.b * a.q = l.a * b.p + l.b * b.q then some (a.p, a.q)
  else
    let s := (l.a * b.p + l.b * b.q) / ((l.a * b.p + l.b * b.q) - (l.a * a.p + l.b * a.q))
    some (s * a.p + (1 - s) * b.p, s * a.q + (1 - s) * b.q)
def optD : Option (Rat × Rat) → D
  | none => .non
  | some z => .tup [fr z.1, fr z.2]
/-- the drift of a face -/
def driftQ (ls : List Ln) (rs : List Rl) (fs : List Int) : Option (Rat × Rat) :=
  if fs.count 0 = 0 then (firstR ls fs rs).map fun r => (r.p, r.q)
  else if fs.count 0 = 1 then
    match fs.findIdx? (· == 0) with
    | some j => match ls[j]?, firstR ls (fs.set j 1) rs, firstR ls (fs.set j (-1)) rs with
      | some l, some a, some b => edgeQ l a b
      | _, _, _ => none
    | none => none
  else none
theorem s_over {m n : Nat} {q r : Rat} (S : Store) (h : RS m q) (k : RS n r) (h0 : r ≠ 0) (hn : m + n < 9000) : m_over [fr q, fr r] S = .ok (fr (q / r)) S := by
  unfold m_over
  simp [fr, -x_mul, mul_ok S h.1 k.den (by omega), mul_ok S h.den k.1 (by omega)]
  rw [s_fraction S (Int.mul_ne_zero (den_ne q) (num_ne h0)) (h.den.mul k.1) hn, div_eq]
  rfl
theorem sign_pos (z : Int) : (0 < z.sign) ↔ 0 < z := by
  rcases Int.lt_trichotomy z 0 with h | h | h
  · rw [Int.sign_eq_neg_one_of_neg h]; omega
  · rw [h]; decide
  · rw [Int.sign_eq_one_of_pos h]; omega
theorem sign_neg (z : Int) : (z.sign < 0) ↔ z < 0 := by
  rcases Int.lt_trichotomy z 0 with h | h | h
  · rw [Int.sign_eq_neg_one_of_neg h]; omega
  · rw [h]; decide
  · rw [Int.sign_eq_one_of_pos h]; omega
theorem RS.one : RS 1 1 := by
  refine ⟨?_, ?_⟩ <;> simp [Sz] <;> decide
theorem s_edge {ls : List Ln} {rs : List Rl} (hp : PlOk ls rs) {fs : List Int} (hl : fs.length = ls.length) {j : Nat} {l : Ln} (hj : ls[j]? = some l) {a b : Rl} (ha : firstR ls (fs.set j 1) rs = some a) (hb : firstR ls (fs.set j (-1)) rs = some b) (S : Store) :
    ∃ S' : Store, m_edge_drift [planD ls rs, .tup (fs.map .int), .int (j : Nat)] S = .ok (optD (edgeQ l a b)) S' ∧ Grow S S' := by
  have hjl : j < ls.length := (List.getElem?_eq_some_iff.mp hj).1
  have ol := hp.ln l (List.mem_of_getElem? hj)
  have oa := firstR_ok hp ha
  have ob := firstR_ok hp hb
  have hll := hp.ll
  have pl0 : ixD (planD ls rs) (.int 0) S = .ok (.tup (ls.map Ln.d)) S := rfl
  have i1 : atI (ls.map Ln.d) ((j : Nat) : Int) = some l.d := by rw [atI_nat, List.getElem?_map, hj]; rfl
  have c1 : cutD [.str l.nm, fr l.a, fr l.b, fr l.c] (some 1) (some 3) = [fr l.a, fr l.b] := rfl
  have p1 := fun ρ : Env => x_part ρ S (mC (.int 1)) 1 S rfl (by decide)
  have p3 := fun ρ : Env => x_part ρ S (mC (.int 3)) 3 S rfl (by decide)
  have w1 := s_with_side (fs := fs) (j := j) (by omega) (by omega) 1 S
  obtain ⟨S1, e1, gr1⟩ := s_patch hp (fs := fs.set j 1) (by simpa using hl) ha S
  have w2 := s_with_side (fs := fs) (j := j) (by omega) (by omega) (-1) S1
  obtain ⟨S2, e2, gr2⟩ := s_patch hp (fs := fs.set j (-1)) (by simpa using hl) hb S1
  have d1 := s_dot S2 ol.a ol.b (oa.p.mono (show 5 ≤ 8 by decide)) (oa.q.mono (by decide)) (by decide)
  have d2 := s_dot S2 ol.a ol.b (ob.p.mono (show 5 ≤ 8 by decide)) (ob.q.mono (by decide)) (by decide)
  have rp := (ol.a.mul oa.p).add (ol.b.mul oa.q)
  have rq := (ol.a.mul ob.p).add (ol.b.mul ob.q)
  simp only [List.map_set] at w1 w2 e1 e2
  refine ⟨S2, ?_, gr1.trans gr2⟩
  by_cases c : 0 < (l.a * a.p + l.b * a.q).num ∨ (l.a * b.p + l.b * b.q).num < 0
  · unfold m_edge_drift
    unfold edgeQ
    rw [if_pos c]
    by_cases cc : 0 < (l.a * a.p + l.b * a.q).num
    · simp [pl0, i1, Ln.d, slD, c1, p1, p3, w1, w2, e1, e2, drD, d1, d2, s_sign, sign_pos, sign_neg, cc, optD]
    · have c3 : (l.a * b.p + l.b * b.q).num < 0 := by rcases c with c | c; exact absurd c cc; exact c
      simp [pl0, i1, Ln.d, slD, c1, p1, p3, w1, w2, e1, e2, drD, d1, d2, s_sign, sign_pos, sign_neg, cc, c3, optD]
  · have c1' : ¬ 0 < (l.a * a.p + l.b * a.q).num := fun z => c (.inl z)
    have c2' : ¬ (l.a * b.p + l.b * b.q).num < 0 := fun z => c (.inr z)
    by_cases c3 : l.a * a.p + l.b * a.q = l.a * b.p + l.b * b.q
    · unfold m_edge_drift
      unfold edgeQ
      rw [if_neg c, if_pos c3]
      rw [c3] at c1' d1
      simp [pl0, i1, Ln.d, slD, c1, p1, p3, w1, w2, e1, e2, drD, d1, d2, s_sign, sign_pos, sign_neg, c1', c2', c3, optD]
    · have n0 : (l.a * b.p + l.b * b.q) - (l.a * a.p + l.b * a.q) ≠ 0 := fun z => c3 (by grind)
      have m1 := s_minus S2 rq rp (by decide)
      have o1 := s_over S2 rq (rq.sub rp) n0 (by decide)
      have rs1 := rq.div (rq.sub rp)
      have m2 := s_minus S2 RS.one rs1 (by decide)
      have rs2 := RS.one.sub rs1
      have t1 := s_times S2 rs1 oa.p (by decide)
      have t2 := s_times S2 rs2 ob.p (by decide)
      have t3 := s_times S2 rs1 oa.q (by decide)
      have t4 := s_times S2 rs2 ob.q (by decide)
      have t5 := s_plus S2 (rs1.mul oa.p) (rs2.mul ob.p) (by decide)
      have t6 := s_plus S2 (rs1.mul oa.q) (rs2.mul ob.q) (by decide)
      have one : k_ONE = fr 1 := rfl
      unfold m_edge_drift
      unfold edgeQ
      rw [if_neg c, if_neg c3]
      simp [pl0, i1, Ln.d, slD, c1, p1, p3, w1, w2, e1, e2, drD, d1, d2, s_sign, sign_pos, sign_neg, c1', c2', c3, optD, m1, o1, one, m2, mZip, zipL, mLcL, sizeLine, wipeD, t1, t2, t3, t4, t5, t6, fzL]
theorem plains_ints' (n : Nat) (fs : List Int) : plains n (fs.map D.int) = true := plains_ints n fs
theorem count_ints (fs : List Int) (v : Int) (S : Store) : countD (.tup (fs.map .int)) [.int v] S = .ok (.int (fs.count v : Nat)) S := by
  have e : ((fs.map D.int).countP fun z => eqB z (.int v)) = fs.count v := by
    rw [List.countP_map, List.count]
    congr 1
  simp [countD, seqOf, plain, plains_ints, e]
theorem index_ints {fs : List Int} {v : Int} {j : Nat} (h : fs.findIdx? (· == v) = some j) (S : Store) : indexD (.tup (fs.map .int)) [.int v] S = .ok (.int (j : Nat)) S := by
  have e : ((fs.map D.int).findIdx? fun z => eqB z (.int v)) = some j := by
    rw [List.findIdx?_map]
    exact h
  simp [indexD, seqOf, plain, plains_ints, e]
theorem zero_at {fs : List Int} (h : fs.count 0 = 1) : ∃ j, fs.findIdx? (· == 0) = some j ∧ j < fs.length ∧ fs[j]? = some 0 := by
  cases q : fs.findIdx? (· == 0) with
  | none =>
    rw [List.findIdx?_eq_none_iff] at q
    have : (0 : Int) ∈ fs := List.count_pos_iff.mp (by omega)
    have := q 0 this
    simp at this
  | some j =>
    obtain ⟨h1, h2, _⟩ := List.findIdx?_eq_some_iff_getElem.mp q
    exact ⟨j, rfl, h1, by simpa [h1] using h2⟩
theorem s_drift_of {ls : List Ln} {rs : List Rl} (hp : PlOk ls rs) {fs : List Int} (hl : fs.length = ls.length) (S : Store) : ∃ S' : Store, m_drift_of [planD ls rs, .tup (fs.map .int)] S = .ok (optD (driftQ ls rs fs)) S' ∧ Grow S S' := by
  have cn := count_ints fs 0 S
  by_cases c0 : fs.count 0 = 0
  · obtain ⟨r, hr⟩ := firstR_some hp (fs := fs)
    obtain ⟨S', e, gr⟩ := s_patch hp hl hr S
    refine ⟨S', ?_, gr⟩
    unfold m_drift_of driftQ
    rw [c0] at cn
    simp [isQ, cn, c0, hr, e, optD, drD]
  · have c0' : ¬ ((fs.count 0 : Nat) : Int) = 0 := by omega
    by_cases c1 : fs.count 0 = 1
    · obtain ⟨j, h1, h2, h3⟩ := zero_at c1
      have hj : j < ls.length := by omega
      obtain ⟨a, ha⟩ := firstR_some hp (fs := fs.set j 1)
      obtain ⟨b, hb⟩ := firstR_some hp (fs := fs.set j (-1))
      obtain ⟨S', e, gr⟩ := s_edge hp hl (show ls[j]? = some ls[j] by simp [hj]) ha hb S
      have ix := index_ints h1 S
      refine ⟨S', ?_, gr⟩
      have dq : driftQ ls rs fs = edgeQ ls[j] a b := by
        unfold driftQ
        simp [c1, h1, hj, ha, hb]
      rw [dq]
      unfold m_drift_of
      rw [c1] at cn
      simp [isQ, cn, ix, e]
    · have c1' : ¬ ((fs.count 0 : Nat) : Int) = 1 := by omega
      refine ⟨S, ?_, Grow.refl S⟩
      unfold m_drift_of driftQ
      simp [isQ, cn, c0, c1, c1', c0', optD]
noncomputable def LdA : SM := mIfS (mB (mOp eqD (mMetA isQ countD (mVar 1) (mCons (mC (.int 0)) mNil)) (mC (.int 0)))) (mRet (mCall 2 m_L_patch_drift (mCons (mVar 0) (mCons (mVar 1) mNil)))) mNext
def LdB : SM := mIfS (mB (mOp gtD (mMetA isQ countD (mVar 1) (mCons (mC (.int 0)) mNil)) (mC (.int 1)))) (mRet (mC .non)) mNext
noncomputable def LdC : SM := (mSeq (mPar 6 7 (mCall 2 m_L_value (mCons (mVar 3) (mCons (mVar 4) mNil))) (mCall 2 m_L_value (mCons (mVar 3) (mCons (mVar 5) mNil))))
  (mSeq (mIfS (mOr (mB (mOp gtD (mOp ixD (mVar 6) (mC (.int 0))) (mC (.int 0)))) (mB (mOp ltD (mOp ixD (mVar 7) (mC (.int 0))) (mC (.int 0))))) (mRet (mC .non)) mNext)
  (mSeq (mIfS (mB (mOp eqD (mVar 6) (mVar 7))) (mRet (mVar 4)) mNext)
  (mSeq (mAsg (mCall 2 m_L_minus (mCons (mVar 7) (mCons (mVar 6) mNil))) (gN 8))
  (mSeq (mAsg (mCall 2 m_L_low (mCons (mOp mulD (mOp ixD (mVar 7) (mC (.int 0))) (mOp ixD (mVar 8) (mC (.int 1)))) (mCons (mOp mulD (mOp ixD (mVar 7) (mC (.int 1))) (mOp ixD (mVar 8) (mC (.int 0)))) mNil))) (gN 9))
  (mSeq (mAsg (mCall 2 m_L_low (mCons (mOp subD (mC (.int 0)) (mOp mulD (mOp ixD (mVar 6) (mC (.int 0))) (mOp ixD (mVar 8) (mC (.int 1))))) (mCons (mOp mulD (mOp ixD (mVar 6) (mC (.int 1))) (mOp ixD (mVar 8) (mC (.int 0)))) mNil))) (gN 10))
  (mRet (mCB (one tupleD) (mCons (mLc [11, 12] (mZip (mVar 4) (mVar 5)) (gTupM 2 (gConsM (gN 11) (gConsM (gN 12) gNilM))) mYes (mCall 2 m_L_sum (mCons (mCall 2 m_L_product (mCons (mVar 9) (mCons (mVar 11) mNil))) (mCons (mCall 2 m_L_product (mCons (mVar 10) (mCons (mVar 12) mNil))) mNil)))) mNil)))))))))
theorem Ldrift_def : m_L_drift = mFun 13 (mSeq LdA (mSeq LdB
  (mSeq (mAsg (mMetA isQ indexD (mVar 1) (mCons (mC (.int 0)) mNil)) (gN 2))
  (mSeq (mAsg (mOp ixD (mOp ixD (mVar 0) (mC (.int 0))) (mVar 2)) (gN 3))
  (mSeq (mAsg (mCall 2 m_L_patch_drift (mCons (mVar 0) (mCons (setE 1 2 (mC (.int 1))) mNil))) (gN 4))
  (mSeq (mAsg (mCall 2 m_L_patch_drift (mCons (mVar 0) (mCons (setE 1 2 (mOp subD (mC (.int 0)) (mC (.int 1)))) mNil))) (gN 5)) LdC)))))) := rfl
theorem s_Ldrift {ls : List Ln} {rs : List Rl} (hp : PlOk ls rs) {fs : List Int} (hl : fs.length = ls.length) (S : Store) : m_L_drift [planD ls rs, .tup (fs.map .int)] S = .ok (optD (driftQ ls rs fs)) S := by
  have cn := count_ints fs 0 S
  by_cases c0 : fs.count 0 = 0
  · obtain ⟨r, hr, e⟩ := s_Lpatch hp hl S
    unfold m_L_drift driftQ
    rw [c0] at cn
    simp [isQ, cn, c0, hr, e, optD, drD]
  · have c0' : ¬ ((fs.count 0 : Nat) : Int) = 0 := by omega
    by_cases c1 : fs.count 0 = 1
    rotate_left
    · have c1' : (1 : Int) < ((fs.count 0 : Nat) : Int) := by omega
      unfold m_L_drift driftQ
      simp [isQ, cn, c0, c1, c1', c0', optD]
    obtain ⟨j, h1, h2, h3⟩ := zero_at c1
    have hj : j < ls.length := by omega
    have ix := index_ints h1 S
    have hll := hp.ll
    obtain ⟨a, ha, e1⟩ := s_Lpatch hp (fs := fs.set j 1) (by simpa using hl) S
    obtain ⟨b, hb, e2⟩ := s_Lpatch hp (fs := fs.set j (-1)) (by simpa using hl) S
    have dq : driftQ ls rs fs = edgeQ ls[j] a b := by
      unfold driftQ
      simp [c1, h1, hj, ha, hb]
    rw [dq]
    generalize hle : ls[j] = l
    have ol : l.Ok := hle ▸ hp.ln _ (List.getElem_mem hj)
    have oa := firstR_ok hp ha
    have ob := firstR_ok hp hb
    have pl0 : ixD (planD ls rs) (.int 0) S = .ok (.tup (ls.map Ln.d)) S := rfl
    have i1 : atI (ls.map Ln.d) ((j : Nat) : Int) = some l.d := by rw [atI_nat, List.getElem?_map]; simp [hj, hle]
    have d1 := s_Lvalue ol (oa.p.mono (show 5 ≤ 200 by decide)) (oa.q.mono (show 5 ≤ 200 by decide)) S
    have d2 := s_Lvalue ol (ob.p.mono (show 5 ≤ 200 by decide)) (ob.q.mono (show 5 ≤ 200 by decide)) S
    have rp := (ol.a.mul oa.p).add (ol.b.mul oa.q)
    have rq := (ol.a.mul ob.p).add (ol.b.mul ob.q)
    rw [c1] at cn
    have q1 := set_expr (fs := fs) (j := j) (by omega) (by omega) 1 1 2 [some (planD ls rs), some (.tup (fs.map .int)), some (.int (j : Nat)), some l.d, none, none, none, none, none, none, none, none, none] S rfl rfl (mC (.int 1)) rfl
    have q2 := set_expr (fs := fs) (j := j) (by omega) (by omega) (-1) 1 2 [some (planD ls rs), some (.tup (fs.map .int)), some (.int (j : Nat)), some l.d, some (drD a), none, none, none, none, none, none, none, none] S rfl rfl (mOp subD (mC (.int 0)) (mC (.int 1))) rfl
    have A : LdA [some (planD ls rs), some (.tup (fs.map .int)), none, none, none, none, none, none, none, none, none, none, none] S = .go .nx [some (planD ls rs), some (.tup (fs.map .int)), none, none, none, none, none, none, none, none, none, none, none] S := by
      unfold LdA
      simp only [x_ifS, x_b, x_op, x_metA, x_var, x_c, x_cons, x_nil, List.getElem?_cons_zero, List.getElem?_cons_succ, R.bind_ok, isQ, if_true, cn, x_eqI, x_toB, R.to_ok]
      rfl
    have B : LdB [some (planD ls rs), some (.tup (fs.map .int)), none, none, none, none, none, none, none, none, none, none, none] S = .go .nx [some (planD ls rs), some (.tup (fs.map .int)), none, none, none, none, none, none, none, none, none, none, none] S := by
      unfold LdB
      simp only [x_ifS, x_b, x_op, x_metA, x_var, x_c, x_cons, x_nil, List.getElem?_cons_zero, List.getElem?_cons_succ, R.bind_ok, isQ, if_true, cn, x_cmp, x_toB, R.to_ok]
      rfl
    rw [Ldrift_def, x_fun]
    simp only [start_def, List.map, List.length, List.replicate, Nat.reduceSub, Nat.reduceAdd, List.cons_append, List.nil_append, x_seq, A, B, O.then_nx, x_asg, x_metA, x_var, x_c, x_cons, x_nil, List.getElem?_cons_zero, List.getElem?_cons_succ, R.bind_ok, isQ, if_true, ix, R.to_ok, x_gN, List.set, x_op, pl0, x_ixT, i1, x_call, q1, q2, e1, e2]
    have hq : (l.a * b.p + l.b * b.q) = (l.a * b.p + l.b * b.q) := rfl
    generalize hP : l.a * a.p + l.b * a.q = p at *
    generalize hQ : l.a * b.p + l.b * b.q = q at *
    unfold LdC edgeQ
    rw [hP, hQ]
    by_cases k1 : 0 < p.num
    · simp [d1, d2, drD, k1, optD]
    by_cases k2 : q.num < 0
    · simp [d1, d2, drD, k1, k2, optD]
    by_cases k3 : p = q
    · subst k3
      simp [d1, d2, drD, k1, k2, optD]
    have n0 : q - p ≠ 0 := fun z => k3 (by grind)
    have nn := num_ne n0
    have rg := rq.sub rp
    have m1 := s_Lminus S rq rp (by decide)
    have z1 := mul_ok S rq.1 rg.den (by decide)
    have z2 := mul_ok S rq.den rg.1 (by decide)
    have z3 := mul_ok S rp.1 rg.den (by decide)
    have z4 := mul_ok S rp.den rg.1 (by decide)
    have l1 := low_div S rq rg nn (by decide)
    have l2 := low_div S rp.neg rg nn (by decide)
    have e3 : 0 - p.num * ((q - p).den : Int) = (-p).num * ((q - p).den : Int) := by rw [Rat.neg_num, Int.neg_mul]; omega
    have e4 : (p.den : Int) = ((-p).den : Int) := by rw [Rat.neg_den]
    have rs1 := rq.div rg
    have rs2 := rp.neg.div rg
    have t1 := s_Lproduct S rs1 oa.p (by decide)
    have t2 := s_Lproduct S rs2 ob.p (by decide)
    have t3 := s_Lproduct S rs1 oa.q (by decide)
    have t4 := s_Lproduct S rs2 ob.q (by decide)
    have t5 := s_Lsum S (rs1.mul oa.p) (rs2.mul ob.p) (by decide)
    have t6 := s_Lsum S (rs1.mul oa.q) (rs2.mul ob.q) (by decide)
    have e5 : 1 - q / (q - p) = -p / (q - p) := by grind
    simp only [Rat.neg_num, Rat.neg_den] at l2
    have e6 : -(p.num * ((q - p).den : Int)) = -p.num * ((q - p).den : Int) := by rw [Int.neg_mul]
    simp [-x_mul, d1, d2, drD, k1, k2, k3, optD, m1, z1, z2, z3, z4, l1, e6, l2, mZip, zipL, mLcL, sizeLine, wipeD, fzL, t1, t2, t3, t4, t5, t6, e5]
end DL

/-! Plain laws: plans and faces are shown; loops by an invariant. -/
namespace DL
open PySem PySem.Spec PyProof.Rows L2
theorem bulk_map {α : Type} (f : α → D) (c : Nat) : ∀ l : List α, (∀ a ∈ l, (toPy (f a)).bulk ≤ c) → PyData.bulkAll (toPys (l.map f)) ≤ l.length * (c + 1)
  | [], _ => by simp [toPys, PyData.bulkAll]
  | a :: l, h => by
    have h1 := h a List.mem_cons_self
    have h2 := bulk_map f c l fun b hb => h b (List.mem_cons_of_mem _ hb)
    simp only [List.map_cons, toPys, PyData.bulkAll, List.length_cons, Nat.succ_mul]
    omega
theorem szDs_map {α : Type} (f : α → D) (n : Nat) : ∀ l : List α, (∀ a ∈ l, szD n (f a)) → szDs n (l.map f)
  | [], _ => trivial
  | a :: l, h => ⟨h a List.mem_cons_self, szDs_map f n l fun b hb => h b (List.mem_cons_of_mem _ hb)⟩
theorem plains_map {α : Type} (f : α → D) (n : Nat) : ∀ l : List α, (∀ a ∈ l, plain n (f a) = true) → plains n (l.map f) = true
  | [], _ => rfl
  | a :: l, h => by
    simp only [List.map_cons, plains, h a List.mem_cons_self, Bool.true_and]
    exact plains_map f n l fun b hb => h b (List.mem_cons_of_mem _ hb)
theorem names_short : ∀ n ∈ names, n.cps.size ≤ 5 := by decide +kernel
theorem sz_fr {n : Nat} {q : Rat} (h : RS n q) (hn : n ≤ 14000) : szD 14000 (fr q) := by
  simp only [fr, szD, szDs]; exact ⟨h.1.mono hn, h.den.mono hn, trivial⟩
theorem bulk_fr (q : Rat) : (toPy (fr q)).bulk = 2 := by simp [fr, toPy, toPys, PyData.bulk, PyData.bulkAll]
theorem ln_shown {l : Ln} (o : l.Ok) : plain 61 l.d = true ∧ szD 14000 l.d ∧ (toPy l.d).bulk ≤ 15 := by
  have := names_short _ o.nm
  refine ⟨?_, ?_, ?_⟩
  · simp only [Ln.d, plain, plains, plain_fr, names_ok _ o.nm, Bool.and_true]
  · simp only [Ln.d, szD, szDs]
    exact ⟨trivial, sz_fr o.a (by decide), sz_fr o.b (by decide), sz_fr o.c (by decide), trivial⟩
  · simp only [Ln.d, toPy, toPys, PyData.bulk, PyData.bulkAll, bulk_fr]
    omega
theorem rl_shown {ls : List Ln} (hlo : ∀ l ∈ ls, l.Ok) (hll : ls.length ≤ 6) {r : Rl} (o : r.Ok ls) : plain 61 r.d = true ∧ szD 14000 r.d ∧ (toPy r.d).bulk ≤ 60 := by
  have nm : ∀ c ∈ r.cs, c.1 ∈ names ∧ (c.2 = 1 ∨ c.2 = -1) := fun c hc => by
    obtain ⟨q1, q2⟩ := o.cs c hc
    obtain ⟨l, hl, e⟩ := List.mem_map.mp q1
    exact ⟨e ▸ (hlo l hl).nm, q2⟩
  refine ⟨?_, ?_, ?_⟩
  · simp only [Rl.d, plain, plains, plain_fr, Bool.and_true, Bool.true_and]
    exact plain_cnds r.cs fun c hc => names_ok _ (nm c hc).1
  · simp only [Rl.d, szD, szDs]
    refine ⟨⟨sz_fr o.p (by decide), sz_fr o.q (by decide), trivial⟩, szDs_map cnd 14000 r.cs fun c hc => ?_, trivial⟩
    simp only [cnd, szD, szDs]
    refine ⟨trivial, ?_, trivial⟩
    rcases (nm c hc).2 with e | e <;> rw [e] <;> exact (show Sz 14000 _ from Nat.lt_of_lt_of_le (show _ < 2 ^ 1 by decide) (Nat.pow_le_pow_right (by decide) (by decide)))
  · have := bulk_map cnd 7 r.cs fun c hc => by
      have := names_short _ (nm c hc).1
      simp only [cnd, toPy, toPys, PyData.bulk, PyData.bulkAll]
      omega
    have hl := o.len
    simp only [Rl.d, toPy, toPys, PyData.bulk, PyData.bulkAll, bulk_fr]
    omega
theorem shw_plan {ls : List Ln} {rs : List Rl} (hp : PlOk ls rs) : Shw (planD ls rs) := by
  have h1 := plains_map Ln.d 61 ls fun l hl => (ln_shown (hp.ln l hl)).1
  have h2 := plains_map Rl.d 61 rs fun r hr => (rl_shown hp.ln hp.ll (hp.rl r hr)).1
  have h3 := szDs_map Ln.d 14000 ls fun l hl => (ln_shown (hp.ln l hl)).2.1
  have h4 := szDs_map Rl.d 14000 rs fun r hr => (rl_shown hp.ln hp.ll (hp.rl r hr)).2.1
  have h5 := bulk_map Ln.d 15 ls fun l hl => (ln_shown (hp.ln l hl)).2.2
  have h6 := bulk_map Rl.d 60 rs fun r hr => (rl_shown hp.ln hp.ll (hp.rl r hr)).2.2
  have := hp.ll
  have := hp.lr
  refine shw_of ?_ ?_ ?_
  · simp only [planD, plain, plains, h1, h2, Bool.and_true]
  · simp only [planD, szD, szDs]
    exact ⟨h3, h4, trivial⟩
  · simp only [planD, toPy, toPys, PyData.bulk, PyData.bulkAll]
    omega
theorem shw_ints {fs : List Int} (hl : fs.length ≤ 1000) (h : ∀ f ∈ fs, Sz 14000 f) : Shw (.tup (fs.map .int)) := by
  have h1 := plains_map D.int 62 fs fun f _ => rfl
  have h2 := szDs_map D.int 14000 fs fun f hf => by simpa [szD] using h f hf
  have h3 := bulk_map D.int 0 fs fun f _ => by simp [toPy, PyData.bulk]
  refine shw_of ?_ ?_ ?_
  · simp only [plain, h1]
  · simpa only [szD] using h2
  · simp only [toPy, PyData.bulk]
    omega
theorem edgeQ_rs {l : Ln} (ol : l.Ok) {ls : List Ln} {a b : Rl} (oa : a.Ok ls) (ob : b.Ok ls) {z : Rat × Rat} (h : edgeQ l a b = some z) : RS 200 z.1 ∧ RS 200 z.2 := by
  have rp := (ol.a.mul oa.p).add (ol.b.mul oa.q)
  have rq := (ol.a.mul ob.p).add (ol.b.mul ob.q)
  have rs1 := rq.div (rq.sub rp)
  have rs2 := RS.one.sub rs1
  unfold edgeQ at h
  split at h
  · cases h
  · split at h
    · cases h
      exact ⟨oa.p.mono (by decide), oa.q.mono (by decide)⟩
    · cases h
      exact ⟨((rs1.mul oa.p).add (rs2.mul ob.p)).mono (by decide), ((rs1.mul oa.q).add (rs2.mul ob.q)).mono (by decide)⟩
theorem driftQ_rs {ls : List Ln} {rs : List Rl} (hp : PlOk ls rs) {fs : List Int} {z : Rat × Rat} (h : driftQ ls rs fs = some z) : RS 200 z.1 ∧ RS 200 z.2 := by
  unfold driftQ at h
  split at h
  · obtain ⟨r, hr⟩ := firstR_some hp (fs := fs)
    rw [hr] at h
    cases h
    have o := firstR_ok hp hr
    exact ⟨o.p.mono (by decide), o.q.mono (by decide)⟩
  · split at h
    · split at h
      · rename_i j _
        obtain ⟨a, ha⟩ := firstR_some hp (fs := fs.set j 1)
        obtain ⟨b, hb⟩ := firstR_some hp (fs := fs.set j (-1))
        rw [ha, hb] at h
        cases q : ls[j]? with
        | none => rw [q] at h; cases h
        | some l =>
          rw [q] at h
          exact edgeQ_rs (hp.ln l (List.mem_of_getElem? q)) (firstR_ok hp ha) (firstR_ok hp hb) h
      · cases h
    · cases h
theorem shw_drift {ls : List Ln} {rs : List Rl} (hp : PlOk ls rs) (fs : List Int) : Shw (optD (driftQ ls rs fs)) := by
  cases q : driftQ ls rs fs with
  | none => exact shw_of rfl (by simp [optD, szD]) (by simp [optD, toPy, PyData.bulk])
  | some z =>
    obtain ⟨h1, h2⟩ := driftQ_rs hp q
    exact shw_pt h1 h2 (by decide) (by decide)
theorem s_twin {d : D} (S : Store) (h : Shw d) : m_L_twin [d, d] S = .ok (.bl true) S := by
  unfold m_L_twin
  simp [repr_ok S h, eq_str]
/-- a loop by an invariant -/
theorem for_inv {gm : GM} {fb : SM} (I : List D → Env → Store → Prop) (step : ∀ d ds ρ S, I (d :: ds) ρ S → ∃ ρ1 S1 ρ2 S2, gm d ρ S = some (ρ1, S1) ∧ fb ρ1 S1 = .go .nx ρ2 S2 ∧ I ds ρ2 S2) : ∀ (ds : List D) (ρ : Env) (S : Store), I ds ρ S → ∃ ρ' S', mForL gm fb ds ρ S = .go .nx ρ' S' ∧ I [] ρ' S'
  | [], ρ, S, h => ⟨ρ, S, rfl, h⟩
  | d :: ds, ρ, S, h => by
    obtain ⟨ρ1, S1, ρ2, S2, e1, e2, h2⟩ := step d ds ρ S h
    obtain ⟨ρ', S', e3, h3⟩ := for_inv I step ds ρ2 S2 h2
    refine ⟨ρ', S', ?_, h3⟩
    rw [mForL, e1]
    simp only [e2]
    exact e3
end DL

/-! Plain laws: moves. -/
namespace DL
open PySem PySem.Spec PyProof.Rows L2
@[simp] theorem x_lc2 (ρ : Env) (S : Store) (fin : List D → M D) (vs vs1 : List Nat) (fi : IM) (gm : GM) (tt : BM) (fi1 : IM) (gm1 : GM) (tt1 : BM) (te : EM) : mLc2F fin vs vs1 fi gm tt fi1 gm1 tt1 te ρ S = (fi ρ S).bind fun ds S => if ds.length ≤ 10000 then (mLc2L vs1 gm tt fi1 gm1 tt1 te (wipeD ρ vs) ds S).bind fin else .stuck := rfl
theorem ite_size {α : Type} {n : Nat} [i : Decidable (n ≤ sizeLine)] (h : n ≤ 16777216) (a b : α) : (if n ≤ sizeLine then a else b) = a := if_pos h
def natsD (ps : List Nat) : List D := ps.map fun p => .int (p : Nat)
def chF (l : List (List Int)) (ps : List Nat) : List (List Int) := ps.foldl (fun found p => found.flatMap fun one => [one.set p 1, one.set p (-1)]) l
theorem ch_inner (d0 d1 x2 : Option D) (p : Nat) (S : Store) : ∀ l : List (List Int), (∀ f ∈ l, p < f.length ∧ f.length < 1000) → mLc2L [5] (gN 4) mYes (mIt (mTup (mCons (mC (.int 1)) (mCons (mUn negD (mC (.int 1))) mNil)))) (gN 5) mYes e_choices_1 [d0, d1, x2, some (.int (p : Nat)), none, none] (l.map faceD) S = .ok ((l.flatMap fun one => [one.set p 1, one.set p (-1)]).map faceD) S
  | [], _ => rfl
  | f :: l, h => by
    obtain ⟨h1, h2⟩ := h f List.mem_cons_self
    have w1 := s_with_side h1 h2 1 S
    have w2 := s_with_side h1 h2 (-1) S
    have ih := ch_inner d0 d1 x2 p S l fun g hg => h g (List.mem_cons_of_mem _ hg)
    have E : ∀ v : Int, e_choices_1 [d0, d1, x2, some (.int (p : Nat)), some (faceD f), some (.int v)] S = .ok (faceD (f.set p v)) S := fun v => by
      have w := s_with_side h1 h2 v S
      unfold e_choices_1
      simp only [x_call, x_cons, x_nil, x_var, List.getElem?_cons_zero, List.getElem?_cons_succ, R.bind_ok, List.length_cons, List.length_nil, if_true, faceD, w]
    rw [List.flatMap_cons, List.map_append, List.map_cons]
    simp only [mLc2L, x_gN, x_yes, R.nx_ok, R.bind_ok, if_true, x_it, x_tup, x_cons, x_c, x_un, x_neg, x_nil, List.length_cons, List.length_nil, ite_size, Nat.reduceAdd, Nat.reduceLeDiff, x_itT, mLcL, List.set, wipeD, E, List.map_cons, List.map_nil, List.cons_append, List.nil_append]
    rw [ih]
    rfl
theorem chF_len {n : Nat} {ps : List Nat} : ∀ {l : List (List Int)}, (∀ f ∈ l, f.length = n) → ∀ f ∈ chF l ps, f.length = n := by
  induction ps with
  | nil => intro l h f hf; exact h f hf
  | cons p ps ih =>
    intro l h f hf
    have hf' : f ∈ chF (l.flatMap fun one => [one.set p 1, one.set p (-1)]) ps := hf
    refine ih (fun g hg => ?_) f hf'
    simp only [List.mem_flatMap, List.mem_cons, List.not_mem_nil, or_false] at hg
    obtain ⟨o, ho, rfl | rfl⟩ := hg <;> simp [h o ho]
theorem flat2_len (l : List (List Int)) (p : Nat) : (l.flatMap fun one => [one.set p 1, one.set p (-1)]).length = 2 * l.length := by
  induction l with
  | nil => rfl
  | cons f l ih => simp only [List.flatMap_cons, List.length_append, List.length_cons, List.length_nil, ih]; omega
theorem ch_loop {n : Nat} (hn : n < 1000) (d0 d1 : Option D) (S : Store) : ∀ (ps : List Nat) (l : List (List Int)) (x3 x4 x5 : Option D), (∀ f ∈ l, f.length = n) → (∀ p ∈ ps, p < n) → l.length * 2 ^ ps.length ≤ 10000 →
    ∃ (y3 : Option D), mForL (gN 3) b_choices_2 (natsD ps) [d0, d1, some (.lst (l.map faceD)), x3, x4, x5] S = .go .nx [d0, d1, some (.lst ((chF l ps).map faceD)), y3, x4, x5] S
  | [], l, x3, x4, x5, _, _, _ => ⟨x3, rfl⟩
  | p :: ps, l, x3, x4, x5, h1, h2, h3 => by
    have hp := h2 p List.mem_cons_self
    have inner := ch_inner d0 d1 (some (.lst (l.map faceD))) p S l fun f hf => ⟨by rw [h1 f hf]; exact hp, by rw [h1 f hf]; exact hn⟩
    have e3 : 2 ^ (p :: ps).length = 2 * 2 ^ ps.length := by rw [List.length_cons, Nat.pow_succ, Nat.mul_comm]
    have hpos : 1 ≤ 2 ^ ps.length := Nat.one_le_two_pow
    have hl : l.length ≤ 10000 := by
      rw [e3] at h3
      have : l.length * 1 ≤ l.length * (2 * 2 ^ ps.length) := Nat.mul_le_mul_left _ (by omega)
      omega
    obtain ⟨y, e⟩ := ch_loop hn d0 d1 S ps (l.flatMap fun one => [one.set p 1, one.set p (-1)]) (some (.int (p : Nat))) x4 x5 (fun f hf => by
      simp only [List.mem_flatMap, List.mem_cons, List.not_mem_nil, or_false] at hf
      obtain ⟨o, ho, rfl | rfl⟩ := hf <;> simp [h1 o ho]) (fun q hq => h2 q (List.mem_cons_of_mem _ hq)) (by
      rw [flat2_len]
      rw [e3] at h3
      calc 2 * l.length * 2 ^ ps.length = l.length * (2 * 2 ^ ps.length) := by rw [Nat.mul_comm 2, Nat.mul_assoc]
        _ ≤ 10000 := h3)
    refine ⟨y, ?_⟩
    have hl2 : (l.map faceD).length ≤ 10000 := by simpa using hl
    have B : b_choices_2 [d0, d1, some (.lst (l.map faceD)), some (.int (p : Nat)), x4, x5] S = .go .nx [d0, d1, some (.lst ((l.flatMap fun one => [one.set p 1, one.set p (-1)]).map faceD)), some (.int (p : Nat)), x4, x5] S := by
      unfold b_choices_2
      simp only [x_asg, x_lc2, x_it, x_var, List.getElem?_cons_zero, List.getElem?_cons_succ, R.bind_ok, x_itL, if_pos hl2, wipeD, List.set, inner, fzL, R.to_ok, x_gN]
    simp only [natsD, List.map_cons, mForL, x_gN, List.set, B]
    exact e
theorem s_choices {f : List Int} (hf : f.length < 100) {ps : List Nat} (hp : ∀ p ∈ ps, p < f.length) (hl : ps.length ≤ 10) (S : Store) : m_choices [faceD f, .lst (natsD ps)] S = .ok (.lst ((chG f ps).map faceD)) S := by
  obtain ⟨y, e⟩ := ch_loop (n := f.length) (by omega) (some (faceD f)) (some (.lst (natsD ps))) S ps [f] none none none (by simp) hp (by
    have : 2 ^ ps.length ≤ 2 ^ 10 := Nat.pow_le_pow_right (by decide) hl
    simp; omega)
  unfold m_choices
  simp only [x_fun, x_seq, x_asg, start_def, List.map, List.length, Nat.reduceSub, List.replicate, List.cons_append, List.nil_append, x_lst, x_cons, x_nil, x_var, List.getElem?_cons_zero, List.getElem?_cons_succ, R.bind_ok, ite_size, Nat.reduceAdd, Nat.reduceLeDiff, R.to_ok, x_gN, List.set, O.then_nx, x_for, x_it, x_itL]
  simp only [List.map] at e
  rw [e]
  simp [chG, chF]
/-- whether a face's drift leads into it from the lines at some places -/
def fitP (ls : List Ln) (f : List Int) (z : Rat × Rat) (p : Nat) : Bool := match ls[p]?, f[p]? with
  | some l, some v => (l.a * z.1 + l.b * z.2).num.sign == v
  | _, _ => false
def fitsQ (ls : List Ln) (rs : List Rl) (f : List Int) (ps : List Nat) : Bool := match driftQ ls rs f with
  | none => false
  | some z => ps.all (fitP ls f z)
theorem s_fits {ls : List Ln} {rs : List Rl} (hp : PlOk ls rs) {f : List Int} (hf : f.length = ls.length) {ps : List Nat} (hps : ∀ p ∈ ps, p < ls.length) (hpl : ps.length ≤ 1000) (S : Store) : ∃ S' : Store, m_fits [planD ls rs, faceD f, .lst (natsD ps)] S = .ok (.bl (fitsQ ls rs f ps)) S' ∧ Grow S S' := by
  obtain ⟨S1, e1, g1⟩ := s_drift_of hp hf S
  refine ⟨S1, ?_, g1⟩
  unfold m_fits
  cases q : driftQ ls rs f with
  | none =>
    rw [q] at e1
    simp only [optD] at e1
    simp [faceD, e1, fitsQ, q, isNon]
  | some z =>
    rw [q] at e1
    obtain ⟨r1, r2⟩ := driftQ_rs hp q
    have pl0 : ixD (planD ls rs) (.int 0) S1 = .ok (.tup (ls.map Ln.d)) S1 := rfl
    have key := lc_mapG (i := 4) (te := e_fits_1) (ρ := [some (planD ls rs), some (faceD f), some (.lst (natsD ps)), some (optD (some z)), none]) (S := S1) (g := fun p : Nat => D.int (p : Nat)) (h := fun p => D.bl (fitP ls f z p)) (ls := ps) fun p hpp => by
      have hlt := hps p hpp
      have o := hp.ln _ (List.getElem_mem hlt)
      have i1 : atI (ls.map Ln.d) ((p : Nat) : Int) = some (ls[p]).d := by rw [atI_nat, List.getElem?_map]; simp [hlt]
      have i2 : atI (f.map D.int) ((p : Nat) : Int) = some (.int (f[p]'(by omega))) := by rw [atI_nat, List.getElem?_map]; simp [show p < f.length by omega]
      have d1 := s_dot S1 (o.a.mono (show 8 ≤ 200 by decide)) (o.b.mono (by decide)) r1 r2 (by decide)
      have c1 : cutD [.str (ls[p]).nm, fr (ls[p]).a, fr (ls[p]).b, fr (ls[p]).c] (some 1) (some 3) = [fr (ls[p]).a, fr (ls[p]).b] := rfl
      have p1 := fun ρ : Env => x_part ρ S1 (mC (.int 1)) 1 S1 rfl (by decide)
      have p3 := fun ρ : Env => x_part ρ S1 (mC (.int 3)) 3 S1 rfl (by decide)
      have fp : fitP ls f z p = ((((ls[p]).a * z.1 + (ls[p]).b * z.2).num.sign) == (f[p]'(by omega))) := by
        unfold fitP
        simp [hlt, show p < f.length by omega]
      unfold e_fits_1
      simp [pl0, i1, Ln.d, slD, c1, p1, p3, optD, d1, s_sign, faceD, i2, fp]
    have hlen : (natsD ps).length ≤ sizeLine := by rw [show sizeLine = 16777216 from rfl]; simp [natsD]; omega
    have nn : isND (optD (some z)) .non S1 = .ok (.bl false) S1 := rfl
    have nn2 : notND (optD (some z)) .non S1 = .ok (.bl true) S1 := rfl
    have al : allD (.lst (ps.map fun p => D.bl (fitP ls f z p))) S1 = .ok (.bl (ps.all (fitP ls f z))) S1 := by
      simp [allD, bls_map, List.all_map]
    simp only [x_fun, x_seq, x_asg, start_def, List.map, List.length, Nat.reduceSub, List.replicate, List.cons_append, List.nil_append, x_call, x_cons, x_nil, x_var, List.getElem?_cons_zero, List.getElem?_cons_succ, R.bind_ok, List.length_cons, List.length_nil, if_true, faceD, e1, R.to_ok, x_gN, List.set, O.then_nx, x_ret, x_andV, x_op, x_c, nn2, x_toB, x_cb, x_lc, x_it, x_itL, if_pos hlen, wipeD]
    simp only [natsD, faceD] at key
    simp only [natsD]
    rw [key]
    simp [fzL, al, fitsQ, q]
end DL

/-! Plain laws: moves, 2. -/
namespace DL
open PySem PySem.Spec PyProof.Rows L2
theorem zeros_lt : ∀ (h : List Int) (p : Nat), p ∈ zerosF h → p < h.length ∧ h[p]? = some 0
  | [], p, m => by simp [zerosF] at m
  | v :: h, p, m => by
    unfold zerosF at m
    by_cases z : v = 0
    · rw [if_pos z] at m
      rcases List.mem_cons.mp m with rfl | m
      · exact ⟨by simp, by simp [z]⟩
      · obtain ⟨q, hq, rfl⟩ := List.mem_map.mp m
        obtain ⟨h1, h2⟩ := zeros_lt h q hq
        exact ⟨by simp; omega, by simpa using h2⟩
    · rw [if_neg z] at m
      obtain ⟨q, hq, rfl⟩ := List.mem_map.mp m
      obtain ⟨h1, h2⟩ := zeros_lt h q hq
      exact ⟨by simp; omega, by simpa using h2⟩
theorem zeros_len : ∀ h : List Int, (zerosF h).length ≤ h.length
  | [] => Nat.le_refl _
  | v :: h => by
    have := zeros_len h
    unfold zerosF
    split <;> simp <;> omega
/-- the comprehension that finds zeros, from an index on -/
theorem zeros_comp {i j : Nat} (hij : i ≠ j) (ρ : Env) (hi : i < ρ.length) (hj : j < ρ.length) (S : Store) (tt : BM) (te : EM) (ht : ∀ (k v : Int), tt ((ρ.set i (some (.int k))).set j (some (.int v))) S = .ok (v == 0) S) (he : ∀ (k v : Int), te ((ρ.set i (some (.int k))).set j (some (.int v))) S = .ok (.int k) S) : ∀ (h : List Int) (n : Nat),
    mLcL (gTupM 2 (gConsM (gN i) (gConsM (gN j) gNilM))) tt te ρ ((enumL n (h.map D.int)).map D.wt) S = .ok ((zerosF h).map fun p => .int ((n + p : Nat) : Int)) S
  | [], n => rfl
  | v :: h, n => by
    have ih := zeros_comp hij ρ hi hj S tt te ht he h (n + 1)
    have e : ((zerosF h).map (· + 1)).map (fun p => D.int ((n + p : Nat) : Int)) = (zerosF h).map fun p => .int ((n + 1 + p : Nat) : Int) := by
      rw [List.map_map]
      apply List.map_congr_left
      intro p _
      simp only [Function.comp]
      congr 1; omega
    simp only [List.map_cons, enumL, mLcL, x_gTupW, x_gCons, x_gN, x_gNil, List.length_cons, List.length_nil, Nat.reduceAdd, if_true, Option.bind_some, ht, R.nx_ok, R.bind_ok]
    unfold zerosF
    by_cases z : v = 0
    · subst z
      simp only [beq_self_eq_true, if_true, he, R.nx_ok, R.bind_ok, ih]
      rw [List.map_cons, e]
      rfl
    · simp only [beq_iff_eq, z, if_false, ih, e]
theorem enumL_length : ∀ (n : Nat) (l : List D), (enumL n l).length = l.length := fun n l => enumL_len n l
/-- the other places -/
theorem others_comp (p : Nat) (ρ : Env) (S : Store) (tt : BM) (te : EM) (ht : ∀ q : Nat, tt (ρ.set 7 (some (.int (q : Nat)))) S = .ok (q != p) S) (he : ∀ q : Nat, te (ρ.set 7 (some (.int (q : Nat)))) S = .ok (.int (q : Nat)) S) : ∀ ps : List Nat,
    mLcL (gN 7) tt te ρ (natsD ps) S = .ok (natsD (ps.filter fun q => q != p)) S
  | [] => rfl
  | q :: ps => by
    have ih := others_comp p ρ S tt te ht he ps
    simp only [natsD] at ih
    simp only [natsD, List.map_cons, mLcL, x_gN, ht, R.nx_ok, R.bind_ok]
    by_cases z : (q != p) = true
    · simp only [z, if_true, he, R.nx_ok, R.bind_ok, ih, List.filter_cons, List.map_cons]
    · simp only [z, if_false, Bool.false_eq_true, ih, List.filter_cons]
theorem ch_len : ∀ (ps : List Nat) (l : List (List Int)), (chF l ps).length = l.length * 2 ^ ps.length
  | [], l => by simp [chF]
  | p :: ps, l => by
    have ih := ch_len ps (l.flatMap fun one => [one.set p 1, one.set p (-1)])
    have e : chF l (p :: ps) = chF (l.flatMap fun one => [one.set p 1, one.set p (-1)]) ps := rfl
    rw [e, ih, flat2_len, List.length_cons, Nat.pow_succ, Nat.mul_comm 2, Nat.mul_assoc, Nat.mul_comm 2]
theorem chG_len (f : List Int) (ps : List Nat) : (chG f ps).length = 2 ^ ps.length := by
  have := ch_len ps [f]
  rw [show chG f ps = chF [f] ps from rfl, this]; simp
theorem filt_len (l : List Nat) (p : Nat → Bool) : (l.filter p).length ≤ l.length := List.length_filter_le p l
theorem set_same {S : Store} {n : Nat} {o : Ob} (h : S[n]? = some o) : S.set n o = S := by
  apply List.ext_getElem?
  intro k
  by_cases hk : n = k
  · subst hk
    rw [List.getElem?_set_self (List.getElem?_eq_some_iff.mp h).1, h]
  · rw [List.getElem?_set_ne hk]
theorem natsD_cons (p : Nat) (ps : List Nat) : natsD (p :: ps) = .int (p : Nat) :: natsD ps := rfl
theorem enum_face {f : EM} {ρ : Env} {S S' : Store} {h : List Int} (e : f ρ S = .ok (faceD h) S') : mEnumQ f ρ S = .ok ((enumL 0 (h.map D.int)).map D.wt) S' := by
  unfold mEnumQ
  rw [e]
  rfl
theorem edges_for {h : List Int} (hh : h.length ≤ 6) {pl : Nat} (d0 x5 x6 : Option D) : ∀ (qs : List Nat) (acc : List (List Int)) (S : Store) (x4 : Option D), (∀ p ∈ qs, p ∈ zerosF h) → S[pl]? = some (.lst (acc.map faceD)) → acc.length + 64 * qs.length ≤ 10000 →
    ∃ (y4 : Option D), mForL (gN 4) b_move_from_4 (natsD qs) [d0, some (faceD h), some (.lst (natsD (zerosF h))), some (.ref pl), x4, x5, x6, none] S = .go .nx [d0, some (faceD h), some (.lst (natsD (zerosF h))), some (.ref pl), y4, x5, x6, none] (S.set pl (.lst ((acc ++ qs.flatMap fun p => chG h ((zerosF h).filter fun q => q != p)).map faceD)))
  | [], acc, S, x4, _, hS, _ => ⟨x4, by simp [natsD, mForL, set_same hS]⟩
  | p :: qs, acc, S, x4, hq, hS, hl => by
    have hpl := (List.getElem?_eq_some_iff.mp hS).1
    have zl := zeros_len h
    have fl := filt_len (zerosF h) fun q => q != p
    have cl := chG_len h ((zerosF h).filter fun q => q != p)
    have c64 : (chG h ((zerosF h).filter fun q => q != p)).length ≤ 64 := by
      rw [cl]
      exact Nat.pow_le_pow_right (show 0 < 2 by decide) (show ((zerosF h).filter fun q => q != p).length ≤ 6 by omega)
    have oc := others_comp p [d0, some (faceD h), some (.lst (natsD (zerosF h))), some (.ref pl), some (.int (p : Nat)), x5, x6, none] S t_move_from_3 e_move_from_2 (fun q => by
      have e : ((q : Int) == (p : Int)) = (q == p) := by
        by_cases z : q = p
        · subst z; simp
        · rw [beq_eq_false_iff_ne.mpr z, beq_eq_false_iff_ne.mpr (by omega)]
      unfold t_move_from_3
      simp only [x_b, x_op, x_var, List.set, List.getElem?_cons_zero, List.getElem?_cons_succ, R.bind_ok, x_neI, x_toB, e, bne]) (fun q => by unfold e_move_from_2; simp) (zerosF h)
    have ch := s_choices (f := h) (by omega) (ps := (zerosF h).filter fun q => q != p) (fun q hq => (zeros_lt h q (List.mem_filter.mp hq).1).1) (by omega) S
    simp only [List.length_cons] at hl
    obtain ⟨y, e⟩ := edges_for hh d0 x5 x6 qs (acc ++ chG h ((zerosF h).filter fun q => q != p)) (S.set pl (.lst ((acc ++ chG h ((zerosF h).filter fun q => q != p)).map faceD))) (some (.int (p : Nat))) (fun q m => hq q (List.mem_cons_of_mem _ m)) (by rw [List.getElem?_set_self hpl]) (by rw [List.length_append]; omega)
    refine ⟨y, ?_⟩
    have hlen : (natsD (zerosF h)).length ≤ sizeLine := by rw [show sizeLine = 16777216 from rfl]; simp [natsD]; omega
    have B : b_move_from_4 [d0, some (faceD h), some (.lst (natsD (zerosF h))), some (.ref pl), some (.int (p : Nat)), x5, x6, none] S = .go .nx [d0, some (faceD h), some (.lst (natsD (zerosF h))), some (.ref pl), some (.int (p : Nat)), x5, x6, none] (S.set pl (.lst ((acc ++ chG h ((zerosF h).filter fun q => q != p)).map faceD))) := by
      unfold b_move_from_4
      have z1 : (acc.map faceD).length + ((chG h ((zerosF h).filter fun q => q != p)).map faceD).length ≤ sizeLine := by
        rw [show sizeLine = 16777216 from rfl, List.length_map, List.length_map]; omega
      have ex : extendD (.ref pl) [.lst ((chG h ((zerosF h).filter fun q => q != p)).map faceD)] S = .ok .non (S.set pl (.lst ((acc ++ chG h ((zerosF h).filter fun q => q != p)).map faceD))) := by
        simp only [extendD, hS]
        rw [if_pos z1, List.map_append]
      simp only [x_drop, x_met, x_var, List.getElem?_cons_zero, List.getElem?_cons_succ, R.bind_ok, isL, lstOf, hS, Option.isSome_some, if_true, x_cons, x_nil, x_call, x_lc, x_it, x_itL, if_pos hlen, wipeD, List.set, oc, fzL, List.length_cons, List.length_nil, ch, ex, R.to_ok]
    rw [natsD_cons]
    simp only [mForL, x_gN, List.set, B]
    rw [e, List.set_set, List.flatMap_cons, List.append_assoc]
def ptD (z : Rat × Rat) : D := .tup [fr z.1, fr z.2]
theorem moves_for {ls : List Ln} {rs : List Rl} (hp : PlOk ls rs) {ps : List Nat} (hps : ∀ p ∈ ps, p < ls.length) (hpl : ps.length ≤ 1000) (d1 x3 x4 x6 x7 : Option D) : ∀ (cs : List (List Int)) (S : Store) (x5 : Option D), (∀ f ∈ cs, f.length = ls.length) →
    ∃ (ρ' : Env) (S' : Store), Grow S S' ∧ mForL (gN 5) b_move_from_1 (cs.map faceD) [some (planD ls rs), d1, some (.lst (natsD ps)), x3, x4, x5, x6, x7] S = (match cs.find? fun f => fitsQ ls rs f ps with
      | some f => .go (.rt (.tup [faceD f, optD (driftQ ls rs f)])) ρ' S'
      | none => .go .nx [some (planD ls rs), d1, some (.lst (natsD ps)), x3, x4, ρ'[0]?.join, x6, x7] S')
  | [], S, x5, _ => ⟨[x5], S, Grow.refl S, by simp [mForL]⟩
  | f :: cs, S, x5, h => by
    obtain ⟨S1, e1, g1⟩ := s_fits hp (h f List.mem_cons_self) hps hpl S
    by_cases z : fitsQ ls rs f ps = true
    · obtain ⟨S2, e2, g2⟩ := s_drift_of hp (h f List.mem_cons_self) S1
      refine ⟨[some (planD ls rs), d1, some (.lst (natsD ps)), x3, x4, some (faceD f), x6, x7], S2, g1.trans g2, ?_⟩
      simp only [List.find?_cons, z, List.map_cons, mForL, x_gN, List.set]
      unfold b_move_from_1
      simp only [faceD] at e1 e2 ⊢
      simp [e1, z, e2, sizeLine]
    · obtain ⟨ρ', S2, g2, e2⟩ := moves_for hp hps hpl d1 x3 x4 x6 x7 cs S1 (some (faceD f)) fun g hg => h g (List.mem_cons_of_mem _ hg)
      refine ⟨ρ', S2, g1.trans g2, ?_⟩
      have z' : fitsQ ls rs f ps = false := by simpa using z
      simp only [List.find?_cons, z', List.map_cons, mForL, x_gN, List.set]
      have B : b_move_from_1 [some (planD ls rs), d1, some (.lst (natsD ps)), x3, x4, some (faceD f), x6, x7] S = .go .nx [some (planD ls rs), d1, some (.lst (natsD ps)), x3, x4, some (faceD f), x6, x7] S1 := by
        unfold b_move_from_1
        simp [e1, z']
      rw [B]
      exact e2
/-- the face and drift with which a point with these sides goes on -/
def moveQ (ls : List Ln) (rs : List Rl) (h : List Int) : List Int × (Rat × Rat) := match (patF h ++ edgF h).find? fun f => fitsQ ls rs f (zerosF h) with
  | some f => (f, (driftQ ls rs f).getD (0, 0))
  | none => (h, (0, 0))
def moveD (m : List Int × (Rat × Rat)) : D := .tup [faceD m.1, ptD m.2]
theorem fits_some {ls : List Ln} {rs : List Rl} {f : List Int} {ps : List Nat} (h : fitsQ ls rs f ps = true) : ∃ z, driftQ ls rs f = some z := by
  unfold fitsQ at h
  cases q : driftQ ls rs f with
  | none => rw [q] at h; cases h
  | some z => exact ⟨z, rfl⟩
theorem pat_len {h : List Int} (hh : h.length ≤ 6) : (patF h).length ≤ 64 := by
  rw [← ch_pat, chG_len]
  have := zeros_len h
  exact Nat.pow_le_pow_right (show 0 < 2 by decide) (show (zerosF h).length ≤ 6 by omega)
theorem flat_le {α β : Type} (f : α → List β) (c : Nat) : ∀ l : List α, (∀ a ∈ l, (f a).length ≤ c) → (l.flatMap f).length ≤ c * l.length
  | [], _ => by simp
  | a :: l, h => by
    have h1 := h a List.mem_cons_self
    have h2 := flat_le f c l fun b hb => h b (List.mem_cons_of_mem _ hb)
    rw [List.flatMap_cons, List.length_append, List.length_cons, Nat.mul_succ]
    omega
theorem edgG_le {h : List Int} (hh : h.length ≤ 6) : (edgG h).length ≤ 384 := by
  have zl := zeros_len h
  have := flat_le (fun p => chG h ((zerosF h).filter fun q => q != p)) 64 (zerosF h) fun p _ => by
    rw [chG_len]
    have := filt_len (zerosF h) fun q => q != p
    exact Nat.pow_le_pow_right (show 0 < 2 by decide) (show ((zerosF h).filter fun q => q != p).length ≤ 6 by omega)
  unfold edgG
  omega
theorem edgG_same (h : List Int) : sameLen (edgG h) = true := by
  have all : ∀ f ∈ edgG h, f.length = h.length := fun f hf => edgF_len ((edg_perm h).mem_iff.mpr hf)
  have pos : edgG h ≠ [] → 1 ≤ h.length := fun hne => by
    cases h with
    | nil => exact absurd rfl hne
    | cons v h => simp
  cases q : edgG h with
  | nil => rfl
  | cons f fs =>
    rw [q] at all pos
    have h1 := pos (by simp)
    have h2 := all f List.mem_cons_self
    simp only [sameLen, Bool.and_eq_true, decide_eq_true_eq, List.all_eq_true, beq_iff_eq]
    exact ⟨by omega, fun g hg => by rw [all g (List.mem_cons_of_mem _ hg), h2]⟩
theorem s_move_from {ls : List Ln} {rs : List Rl} (hp : PlOk ls rs) {h : List Int} (hh : h.length = ls.length) (S : Store) : ∃ S' : Store, m_move_from [planD ls rs, faceD h] S = .ok (moveD (moveQ ls rs h)) S' ∧ Grow S S' := by
  have hll := hp.ll
  have zl := zeros_len h
  have zc := zeros_comp (i := 4) (j := 6) (by decide) [some (planD ls rs), some (faceD h), none, none, none, none, none, none] (by simp) (by simp) S t_move_from_6 e_move_from_5 (fun k v => by unfold t_move_from_6; simp) (fun k v => by unfold e_move_from_5; simp) h 0
  have zc : mLcL (gTupM 2 (gConsM (gN 4) (gConsM (gN 6) gNilM))) t_move_from_6 e_move_from_5 [some (planD ls rs), some (faceD h), none, none, none, none, none, none] ((enumL 0 (h.map D.int)).map D.wt) S = .ok (natsD (zerosF h)) S := by
    rw [zc]; simp [natsD]
  have el : ((enumL 0 (h.map D.int)).map D.wt).length ≤ sizeLine := by rw [show sizeLine = 16777216 from rfl]; simp [enumL_len]; omega
  obtain ⟨y4, ef⟩ := edges_for (h := h) (by omega) (pl := S.length) (some (planD ls rs)) none none (zerosF h) [] (S ++ [.lst []]) none (fun p m => m) (by simp) (by simp; omega)
  have ef2 : (S ++ [Ob.lst []]).set S.length (.lst (([] ++ (zerosF h).flatMap fun p => chG h ((zerosF h).filter fun q => q != p)).map faceD)) = S ++ [.lst ((edgG h).map faceD)] := by
    rw [List.set_append_right _ _ (Nat.le_refl _)]
    simp [edgG]
  rw [ef2] at ef
  have hS : (S ++ [Ob.lst ((edgG h).map faceD)])[S.length]? = some (.lst ((edgG h).map faceD)) := by simp
  generalize hS2 : S ++ [Ob.lst ((edgG h).map faceD)] = S2 at ef hS
  have so : sortedD (.ref S.length) S2 = .ok (.lst ((sortF (edgG h)).map faceD)) S2 := by
    simp only [sortedD, lstOf, hS, facesOf_map, edgG_same, if_true]
  have rv : revD (.lst ((sortF (edgG h)).map faceD)) S2 = .ok (.lst ((edgF h).map faceD)) S2 := by
    simp only [revD, lstOf_lst]
    rw [← List.map_reverse, edg_sorted]
  have ch := s_choices (f := h) (by omega) (ps := zerosF h) (fun q hq => (zeros_lt h q hq).1) (by omega) S2
  rw [ch_pat] at ch
  have pl := pat_len (h := h) (by omega)
  have egl := edgG_le (h := h) (by omega)
  rw [← (edg_perm h).length_eq] at egl
  have ad : addD (.lst ((patF h).map faceD)) (.lst ((edgF h).map faceD)) S2 = .ok (.lst ((patF h ++ edgF h).map faceD)) S2 := by
    have z : ((patF h).map faceD).length + ((edgF h).map faceD).length ≤ sizeLine := by
      rw [show sizeLine = 16777216 from rfl, List.length_map, List.length_map]; omega
    simp only [addD, lstOf_lst]
    rw [if_pos z, List.map_append]
  obtain ⟨ρ', S3, g3, mf⟩ := moves_for hp (ps := zerosF h) (fun p m => by have := (zeros_lt h p m).1; omega) (by omega) (some (faceD h)) (some (.ref S.length)) y4 none none (patF h ++ edgF h) S2 none (fun f hf => by
    rcases List.mem_append.mp hf with hf | hf
    · rw [patF_len hf, hh]
    · rw [edgF_len hf, hh])
  refine ⟨S3, ?_, (hS2 ▸ Grow.one S _ : Grow S S2).trans g3⟩
  unfold m_move_from moveQ
  have en : mEnumQ (mVar 1) [some (planD ls rs), some (faceD h), none, none, none, none, none, none] S = .ok ((enumL 0 (h.map D.int)).map D.wt) S := enum_face rfl
  simp only [x_fun, x_seq, x_asg, start_def, List.map, List.length, Nat.reduceSub, List.replicate, List.cons_append, List.nil_append, x_lc, en, R.bind_ok, if_pos el, wipeD, List.set, zc, fzL, R.to_ok, x_gN, O.then_nx, x_new, x_nil, ite_size, Nat.zero_le, if_true, x_for, x_it, x_var, List.getElem?_cons_zero, List.getElem?_cons_succ, x_itL, ef]
  simp only [O.then_nx, x_seq, x_for, x_it, x_op, x_call, x_cons, x_nil, x_var, List.getElem?_cons_zero, List.getElem?_cons_succ, R.bind_ok, List.length_cons, List.length_nil, if_true, ch, x_un, x_cb, one, so, rv, ad, x_itL, R.to_ok]
  rw [mf]
  cases q : (patF h ++ edgF h).find? fun f => fitsQ ls rs f (zerosF h) with
  | some f =>
    have hft : fitsQ ls rs f (zerosF h) = true := by simpa using List.find?_some q
    obtain ⟨z, hz⟩ := fits_some hft
    simp only [O.then, hz, moveD, optD, ptD, Option.getD_some]
  | none =>
    have st : k_STILL = ptD (0, 0) := rfl
    simp only [O.then_nx, x_ret, x_tup, x_cons, x_var, x_c, x_nil, List.getElem?_cons_zero, List.getElem?_cons_succ, R.bind_ok, List.length_cons, List.length_nil, ite_size, Nat.reduceAdd, Nat.reduceLeDiff, R.to_ok, moveD, st]
theorem s_move {ls : List Ln} {rs : List Rl} (hp : PlOk ls rs) {x y : Rat} (hx : RS 200 x) (hy : RS 200 y) (S : Store) : ∃ S' : Store, m_move [planD ls rs, .tup [fr x, fr y]] S = .ok (moveD (moveQ ls rs (ls.map fun l => sideOf l x y))) S' ∧ Grow S S' := by
  have e1 := s_sides hp hx hy S
  have e0 : sidesD ls x y = faceD (ls.map fun l => sideOf l x y) := by simp [sidesD, faceD]
  rw [e0] at e1
  obtain ⟨S1, e2, g⟩ := s_move_from hp (h := ls.map fun l => sideOf l x y) (by simp) S
  refine ⟨S1, ?_, g⟩
  unfold m_move
  simp [e1, e2]
/-! ### by the law -/
theorem in_places {h : List Int} (hh : h.length ≤ 100) {k : Nat} {v : Int} (hv : h[k]? = some v) (S : Store) : inD (.int (k : Nat)) (.lst (natsD (zerosF h))) S = .ok (.bl (decide (v = 0))) S := by
  have hp : plains 63 (natsD (zerosF h)) = true := plains_map _ 63 _ fun _ _ => rfl
  have key : ∀ (h : List Int) (n : Nat) (k : Nat) (v : Int), h[k]? = some v → inB (.int ((n + k : Nat) : Int)) ((zerosF h).map fun p => .int ((n + p : Nat) : Int)) = decide (v = 0) := by
    intro h
    induction h with
    | nil => intro n k v hv; simp at hv
    | cons w h ih =>
      intro n k v hv
      cases k with
      | zero =>
        have : w = v := by simpa using hv
        subst this
        by_cases z : w = 0
        · simp [zerosF, z, inB, eqB]
        · have : inB (.int ((n + 0 : Nat) : Int)) ((zerosF (w :: h)).map fun p => .int ((n + p : Nat) : Int)) = false := by
            unfold zerosF
            rw [if_neg z]
            simp only [inB, List.any_eq_false, List.mem_map]
            rintro d ⟨p, ⟨q, _, rfl⟩, rfl⟩
            simp only [eqB, beq_iff_eq]
            omega
          rw [this]; simp [z]
      | succ k =>
        have hv' : h[k]? = some v := by simpa using hv
        have e := ih (n + 1) k v hv'
        have e2 : ((zerosF h).map (· + 1)).map (fun p => D.int ((n + p : Nat) : Int)) = (zerosF h).map fun p => .int ((n + 1 + p : Nat) : Int) := by
          rw [List.map_map]
          apply List.map_congr_left
          intro p _
          simp only [Function.comp]
          congr 1; omega
        have e3 : ((n + (k + 1) : Nat) : Int) = ((n + 1 + k : Nat) : Int) := by omega
        unfold zerosF
        by_cases z : w = 0
        · rw [if_pos z, List.map_cons, e2, e3]
          have : eqB (.int ((n + 0 : Nat) : Int)) (.int ((n + 1 + k : Nat) : Int)) = false := by
            simp only [eqB, beq_eq_false_iff_ne]
            omega
          simp only [inB, List.any_cons, this, Bool.false_or] at e ⊢
          exact e
        · rw [if_neg z, e2, e3]
          exact e
  have e := key h 0 k v hv
  have e2 : ((zerosF h).map fun p => D.int ((0 + p : Nat) : Int)) = natsD (zerosF h) := by simp [natsD]
  rw [e2, Nat.zero_add] at e
  simp only [inD, seqOf_lst, derD_int, plain, hp, Bool.and_self, if_true, e]
theorem add_faces {a b : List (List Int)} (h : a.length + b.length ≤ 16777216) (S : Store) : addD (.lst (a.map faceD)) (.lst (b.map faceD)) S = .ok (.lst ((a ++ b).map faceD)) S := by
  have z : (a.map faceD).length + (b.map faceD).length ≤ sizeLine := by
    rw [show sizeLine = 16777216 from rfl, List.length_map, List.length_map]; omega
  simp only [addD, lstOf_lst]
  rw [if_pos z, List.map_append]
def stepL (l : List (List Int)) (o : List Int) : List (List Int) := l.flatMap fun one => o.map fun v => one ++ [v]
def optL (v : Int) : List Int := if v = 0 then [1, 0, -1] else [v]
theorem optL_len (v : Int) : (optL v).length ≤ 3 := by unfold optL; split <;> simp
theorem stepL_le (l : List (List Int)) (v : Int) : (stepL l (optL v)).length ≤ 3 * l.length :=
  flat_le _ 3 l fun a _ => by rw [List.length_map]; exact optL_len v
theorem all_inner {h : List Int} (hh : h.length ≤ 6) {k : Nat} {v : Int} (hv : h[k]? = some v) (S : Store) (d2 : Option D) : ∀ (l lg : List (List Int)) (x6 x7 : Option D), (∀ f ∈ l, f.length ≤ 100) → lg.length + 3 * l.length ≤ 10000 →
    ∃ (y6 y7 : Option D), mForL (gN 6) b_L_all_faces_2 (l.map faceD) [some (faceD h), some (.lst (natsD (zerosF h))), d2, some (.int (k : Nat)), some (.int v), some (.lst (lg.map faceD)), x6, x7] S = .go .nx [some (faceD h), some (.lst (natsD (zerosF h))), d2, some (.int (k : Nat)), some (.int v), some (.lst ((lg ++ stepL l (optL v)).map faceD)), y6, y7] S
  | [], lg, x6, x7, _, _ => ⟨x6, x7, by simp [mForL, stepL]⟩
  | f :: l, lg, x6, x7, hf, hl => by
    have fl := hf f List.mem_cons_self
    have ol := optL_len v
    simp only [List.length_cons] at hl
    have E : mLcL (gN 7) mYes e_L_all_faces_1 [some (faceD h), some (.lst (natsD (zerosF h))), d2, some (.int (k : Nat)), some (.int v), some (.lst (lg.map faceD)), some (faceD f), none] ((optL v).map D.int) S = .ok (((optL v).map fun w => f ++ [w]).map faceD) S := by
      rw [List.map_map]
      refine lc_mapG (fun w _ => ?_)
      have z : (f.map D.int).length + [D.int w].length ≤ sizeLine := by rw [show sizeLine = 16777216 from rfl]; simp; omega
      unfold e_L_all_faces_1
      simp only [x_op, x_var, List.set, List.getElem?_cons_zero, List.getElem?_cons_succ, R.bind_ok, x_tup, x_cons, x_nil, List.length_cons, List.length_nil, ite_size, Nat.reduceAdd, Nat.reduceLeDiff, faceD, addD]
      rw [if_pos (show (f.map D.int).length + 1 ≤ sizeLine from z)]
      simp [Function.comp, faceD]
    have ip := in_places (h := h) (by omega) hv S
    have B : b_L_all_faces_2 [some (faceD h), some (.lst (natsD (zerosF h))), d2, some (.int (k : Nat)), some (.int v), some (.lst (lg.map faceD)), some (faceD f), x7] S = .go .nx [some (faceD h), some (.lst (natsD (zerosF h))), d2, some (.int (k : Nat)), some (.int v), some (.lst ((lg ++ (optL v).map fun w => f ++ [w]).map faceD)), some (faceD f), x7] S := by
      have ad := add_faces (a := lg) (b := (optL v).map fun w => f ++ [w]) (by simp; omega) S
      unfold b_L_all_faces_2
      have IT : (mIt (mIf (mB (mOp inD (mVar 3) (mVar 1))) (mTup (mCons (mC (.int 1)) (mCons (mC (.int 0)) (mCons (mOp subD (mC (.int 0)) (mC (.int 1))) mNil)))) (mTup (mCons (mVar 4) mNil)))) [some (faceD h), some (.lst (natsD (zerosF h))), d2, some (.int (k : Nat)), some (.int v), some (.lst (lg.map faceD)), some (faceD f), x7] S = .ok ((optL v).map D.int) S := by
        simp only [x_it, x_if, x_b, x_op, x_var, List.getElem?_cons_zero, List.getElem?_cons_succ, R.bind_ok, ip, x_toB]
        by_cases z : v = 0
        · simp [z, optL, sizeLine]
        · simp [z, optL, sizeLine]
      have ln : ((optL v).map D.int).length ≤ sizeLine := by rw [show sizeLine = 16777216 from rfl, List.length_map]; omega
      simp only [x_asg, x_op, x_var, List.getElem?_cons_zero, List.getElem?_cons_succ, R.bind_ok, x_lc, IT, if_pos ln, wipeD, List.set, E, fzL, ad, R.to_ok, x_gN]
    obtain ⟨y6, y7, e⟩ := all_inner hh hv S d2 l (lg ++ (optL v).map fun w => f ++ [w]) (some (faceD f)) x7 (fun g hg => hf g (List.mem_cons_of_mem _ hg)) (by simp; omega)
    refine ⟨y6, y7, ?_⟩
    simp only [List.map_cons, mForL, x_gN, List.set, B]
    rw [e]
    simp only [stepL, List.flatMap_cons, List.append_assoc]
theorem all_outer {h : List Int} (hh : h.length ≤ 6) (S : Store) : ∀ (t : List Int) (k : Nat) (acc : List (List Int)) (x3 x4 x5 x6 x7 : Option D), h.drop k = t → (∀ f ∈ acc, f.length ≤ k) → acc.length * 3 ^ t.length ≤ 3000 →
    ∃ (y3 y4 y5 y6 y7 : Option D), mForL (gTupM 2 (gConsM (gN 3) (gConsM (gN 4) gNilM))) b_L_all_faces_3 ((enumL k (t.map D.int)).map D.wt) [some (faceD h), some (.lst (natsD (zerosF h))), some (.lst (acc.map faceD)), x3, x4, x5, x6, x7] S = .go .nx [some (faceD h), some (.lst (natsD (zerosF h))), some (.lst (((t.map optL).foldl stepL acc).map faceD)), y3, y4, y5, y6, y7] S
  | [], k, acc, x3, x4, x5, x6, x7, _, _, _ => ⟨x3, x4, x5, x6, x7, rfl⟩
  | v :: t, k, acc, x3, x4, x5, x6, x7, ht, ha, hl => by
    have hkl : k < h.length := by
      apply Decidable.byContradiction
      intro z
      rw [List.drop_eq_nil_of_le (by omega)] at ht
      cases ht
    have hv : h[k]? = some v := by
      rw [List.drop_eq_getElem_cons hkl] at ht
      simp [hkl]
      exact (List.cons.inj ht).1
    have ht' : h.drop (k + 1) = t := by
      rw [List.drop_eq_getElem_cons hkl] at ht
      exact (List.cons.inj ht).2
    have e3 : 3 ^ (v :: t).length = 3 * 3 ^ t.length := by rw [List.length_cons, Nat.pow_succ, Nat.mul_comm]
    have hpos : 1 ≤ 3 ^ t.length := Nat.one_le_pow _ _ (by decide)
    rw [e3] at hl
    have hal : 3 * acc.length ≤ 3000 := by
      have : acc.length * 3 ≤ acc.length * (3 * 3 ^ t.length) := Nat.mul_le_mul_left _ (by omega)
      omega
    obtain ⟨y6, y7, e1⟩ := all_inner hh hv S (some (.lst (acc.map faceD))) acc [] x6 x7 (fun f hf => by have := ha f hf; omega) (by simp; omega)
    have sl := stepL_le acc v
    obtain ⟨z3, z4, z5, z6, z7, e2⟩ := all_outer hh S t (k + 1) (stepL acc (optL v)) (some (.int (k : Nat))) (some (.int v)) (some (.lst ((stepL acc (optL v)).map faceD))) y6 y7 ht' (fun f hf => by
      simp only [stepL, List.mem_flatMap, List.mem_map] at hf
      obtain ⟨o, ho, w, _, rfl⟩ := hf
      have := ha o ho
      simp; omega) (by
      calc (stepL acc (optL v)).length * 3 ^ t.length ≤ (3 * acc.length) * 3 ^ t.length := Nat.mul_le_mul_right _ sl
        _ = acc.length * (3 * 3 ^ t.length) := by rw [Nat.mul_comm 3, Nat.mul_assoc]
        _ ≤ 3000 := hl)
    refine ⟨z3, z4, z5, z6, z7, ?_⟩
    have B : b_L_all_faces_3 [some (faceD h), some (.lst (natsD (zerosF h))), some (.lst (acc.map faceD)), some (.int (k : Nat)), some (.int v), x5, x6, x7] S = .go .nx [some (faceD h), some (.lst (natsD (zerosF h))), some (.lst ((stepL acc (optL v)).map faceD)), some (.int (k : Nat)), some (.int v), some (.lst ((stepL acc (optL v)).map faceD)), y6, y7] S := by
      unfold b_L_all_faces_3
      simp only [List.nil_append, List.map_nil] at e1
      simp only [x_seq, x_asg, x_lst, x_nil, R.bind_ok, List.length_nil, ite_size, Nat.zero_le, if_true, R.to_ok, x_gN, List.set, O.then_nx, x_for, x_it, x_var, List.getElem?_cons_zero, List.getElem?_cons_succ, x_itL, e1]
    simp only [List.map_cons, enumL, mForL, x_gTupW, x_gCons, x_gN, x_gNil, List.length_cons, List.length_nil, Nat.reduceAdd, if_true, Option.bind_some, List.set, B]
    rw [e2]
    rfl
theorem s_all_faces {h : List Int} (hh : h.length ≤ 6) (S : Store) : m_L_all_faces [faceD h, .lst (natsD (zerosF h))] S = .ok (.lst ((allF h).map faceD)) S := by
  have p3 : 1 * 3 ^ h.length ≤ 3000 := by
    have : 3 ^ h.length ≤ 3 ^ 6 := Nat.pow_le_pow_right (by decide) hh
    omega
  obtain ⟨y3, y4, y5, y6, y7, e⟩ := all_outer hh S h 0 [[]] none none none none none (by simp) (by simp) p3
  have e1 : (h.map optL).foldl stepL [[]] = allF h := by
    have := prod_left (h.map optL) [[]]
    unfold stepL
    rw [this]
    have e2 : h.map optL = free3 h := by
      unfold free3 optL
      rfl
    rw [e2]
    simp [allF]
  rw [e1] at e
  have en : mEnumQ (mVar 0) [some (faceD h), some (.lst (natsD (zerosF h))), some (.lst [.tup []]), none, none, none, none, none] S = .ok ((enumL 0 (h.map D.int)).map D.wt) S := enum_face rfl
  have e0 : ([[]] : List (List Int)).map faceD = [.tup []] := rfl
  rw [e0] at e
  unfold m_L_all_faces
  simp only [x_fun, x_seq, x_asg, start_def, List.map, List.length, Nat.reduceSub, List.replicate, List.cons_append, List.nil_append, x_lst, x_cons, x_tup, x_nil, R.bind_ok, ite_size, Nat.zero_le, if_true, Nat.reduceAdd, Nat.reduceLeDiff, R.to_ok, x_gN, List.set, O.then_nx, x_for, en]
  rw [e]
  simp
end DL

/-! Plain laws: moves, 3: the law's. -/
namespace DL
open PySem PySem.Spec PyProof.Rows L2
theorem ones_comp (i : Nat) (ρ : Env) (S : Store) (tt : BM) (te : EM) (g : Nat → Bool) (he : ∀ p : Nat, te (ρ.set i (some (.int (p : Nat)))) S = .ok (.int 1) S) : ∀ ps : List Nat, (∀ p ∈ ps, tt (ρ.set i (some (.int (p : Nat)))) S = .ok (!g p) S) → ∃ ys : List D, mLcL (gN i) tt te ρ (natsD ps) S = .ok ys S ∧ (∀ y ∈ ys, y = .int 1) ∧ ys.isEmpty = ps.all g
  | [], _ => ⟨[], rfl, by simp, rfl⟩
  | p :: ps, ht => by
    obtain ⟨ys, e, h1, h2⟩ := ones_comp i ρ S tt te g he ps fun q hq => ht q (List.mem_cons_of_mem _ hq)
    have t := ht p List.mem_cons_self
    rw [natsD_cons]
    by_cases z : g p = true
    · refine ⟨ys, ?_, h1, by simp [z, h2]⟩
      simp only [mLcL, x_gN, t, z, Bool.not_true, R.nx_ok, R.bind_ok, Bool.false_eq_true, if_false, e]
    · have z' : g p = false := by simpa using z
      refine ⟨.int 1 :: ys, ?_, fun y m => ?_, by simp [z']⟩
      · simp only [mLcL, x_gN, t, z', Bool.not_false, R.nx_ok, R.bind_ok, if_true, he, e]
      · rcases List.mem_cons.mp m with rfl | m
        · rfl
        · exact h1 y m
theorem Lmoves_for {ls : List Ln} {rs : List Rl} (hp : PlOk ls rs) {ps : List Nat} (hps : ∀ p ∈ ps, p < ls.length) (hpl : ps.length ≤ 1000) (many : Nat) (d1 x7 : Option D) (S : Store) : ∀ (cs : List (List Int)) (x4 x5 : Option D), (∀ f ∈ cs, f.length = ls.length) →
    ∃ (y4 y5 : Option D), mForL (gN 4) b_L_move_3 (cs.map faceD) [some (planD ls rs), d1, some (.lst (natsD ps)), some (.int (many : Nat)), x4, x5, none, x7] S = (match (cs.filter fun f => f.count 0 == many).find? fun f => fitsQ ls rs f ps with
      | some f => .go (.rt (.tup [faceD f, optD (driftQ ls rs f)])) [some (planD ls rs), d1, some (.lst (natsD ps)), some (.int (many : Nat)), y4, y5, none, x7] S
      | none => .go .nx [some (planD ls rs), d1, some (.lst (natsD ps)), some (.int (many : Nat)), y4, y5, none, x7] S)
  | [], x4, x5, _ => ⟨x4, x5, by simp [mForL]⟩
  | f :: cs, x4, x5, h => by
    have hf := h f List.mem_cons_self
    have ih := fun a b => Lmoves_for hp hps hpl many d1 x7 S cs a b fun g hg => h g (List.mem_cons_of_mem _ hg)
    have cn := count_ints f 0 S
    have ld := s_Ldrift hp hf S
    have skip : ∀ (y5 : Option D), b_L_move_3 [some (planD ls rs), d1, some (.lst (natsD ps)), some (.int (many : Nat)), some (faceD f), x5, none, x7] S = .go .nx [some (planD ls rs), d1, some (.lst (natsD ps)), some (.int (many : Nat)), some (faceD f), y5, none, x7] S → (f.count 0 == many && fitsQ ls rs f ps) = false →
        ∃ (y4 y5 : Option D), mForL (gN 4) b_L_move_3 ((f :: cs).map faceD) [some (planD ls rs), d1, some (.lst (natsD ps)), some (.int (many : Nat)), x4, x5, none, x7] S = (match ((f :: cs).filter fun f => f.count 0 == many).find? fun f => fitsQ ls rs f ps with
          | some f => .go (.rt (.tup [faceD f, optD (driftQ ls rs f)])) [some (planD ls rs), d1, some (.lst (natsD ps)), some (.int (many : Nat)), y4, y5, none, x7] S
          | none => .go .nx [some (planD ls rs), d1, some (.lst (natsD ps)), some (.int (many : Nat)), y4, y5, none, x7] S) := fun y5 B z => by
      obtain ⟨z4, z5, e⟩ := ih (some (faceD f)) y5
      refine ⟨z4, z5, ?_⟩
      have fe : ((f :: cs).filter fun f => f.count 0 == many).find? (fun f => fitsQ ls rs f ps) = (cs.filter fun f => f.count 0 == many).find? fun f => fitsQ ls rs f ps := by
        rw [List.filter_cons]
        split
        · rename_i q
          rw [q, Bool.true_and] at z
          rw [List.find?_cons, z]
        · rfl
      rw [fe, List.map_cons]
      simp only [mForL, x_gN, List.set, B]
      exact e
    have C : ((f.count 0 : Nat) : Int) = ((many : Nat) : Int) ↔ f.count 0 = many := by omega
    by_cases c : f.count 0 = many
    rotate_left
    · refine skip x5 ?_ (by rw [beq_eq_false_iff_ne.mpr c]; rfl)
      have cb : (((f.count 0 : Nat) : Int) == ((many : Nat) : Int)) = false := beq_eq_false_iff_ne.mpr fun q => c (C.mp q)
      unfold b_L_move_3
      simp only [x_ifS, x_and, x_b, x_op, x_metA, x_var, x_c, x_cons, x_nil, List.getElem?_cons_zero, List.getElem?_cons_succ, R.bind_ok, isQ, faceD, if_true, cn, x_eqI, cb, x_toB, Bool.false_eq_true, if_false, R.to_ok, x_next]
    have cb : (((f.count 0 : Nat) : Int) == ((many : Nat) : Int)) = true := by rw [beq_iff_eq]; exact C.mpr c
    cases q : driftQ ls rs f with
    | none =>
      refine skip x5 ?_ (by rw [show fitsQ ls rs f ps = false by unfold fitsQ; rw [q], Bool.and_false])
      rw [q] at ld
      have nn : notND (optD none) .non S = .ok (.bl false) S := rfl
      unfold b_L_move_3
      simp only [x_ifS, x_and, x_b, x_op, x_metA, x_var, x_c, x_cons, x_nil, List.getElem?_cons_zero, List.getElem?_cons_succ, R.bind_ok, isQ, faceD, if_true, cn, x_eqI, cb, x_toB, x_call, List.length_cons, List.length_nil, ld, nn, Bool.false_eq_true, if_false, R.to_ok, x_next]
    | some z =>
      rw [q] at ld
      obtain ⟨r1, r2⟩ := driftQ_rs hp q
      have nn : notND (optD (some z)) .non S = .ok (.bl true) S := rfl
      have pl0 : ixD (planD ls rs) (.int 0) S = .ok (.tup (ls.map Ln.d)) S := rfl
      obtain ⟨ys, e, o1, o2⟩ := ones_comp 6 [some (planD ls rs), d1, some (.lst (natsD ps)), some (.int (many : Nat)), some (faceD f), some (optD (some z)), none, x7] S t_L_move_2 e_L_move_1 (fitP ls f z) (fun p => by unfold e_L_move_1; rfl) ps fun p hpp => by
        have hlt := hps p hpp
        have o := hp.ln _ (List.getElem_mem hlt)
        have i1 : atI (ls.map Ln.d) ((p : Nat) : Int) = some (ls[p]).d := by rw [atI_nat, List.getElem?_map]; simp [hlt]
        have i2 : atI (f.map D.int) ((p : Nat) : Int) = some (.int (f[p]'(by omega))) := by rw [atI_nat, List.getElem?_map]; simp [show p < f.length by omega]
        have d1 := s_Lvalue o r1 r2 S
        have fp : fitP ls f z p = ((((ls[p]).a * z.1 + (ls[p]).b * z.2).num.sign) == (f[p]'(by omega))) := by
          unfold fitP
          simp [hlt, show p < f.length by omega]
        unfold t_L_move_2
        simp only [x_b, x_op, x_call, x_cons, x_nil, x_var, x_c, List.set, List.getElem?_cons_zero, List.getElem?_cons_succ, R.bind_ok, pl0, x_ixT, i1, i2, List.length_cons, List.length_nil, if_true, optD, d1, s_Lsignum, faceD, x_neI, x_toB, fp]
      have oe := ones_eq o1 S
      have hlen : (natsD ps).length ≤ sizeLine := by rw [show sizeLine = 16777216 from rfl]; simp [natsD]; omega
      have fq : fitsQ ls rs f ps = ps.all (fitP ls f z) := by unfold fitsQ; rw [q]
      by_cases a : ps.all (fitP ls f z) = true
      · refine ⟨some (faceD f), some (optD (some z)), ?_⟩
        have fe : ((f :: cs).filter fun f => f.count 0 == many).find? (fun f => fitsQ ls rs f ps) = some f := by
          rw [List.filter_cons, if_pos (by simpa using c), List.find?_cons, fq, a]
        rw [fe, List.map_cons]
        have B : b_L_move_3 [some (planD ls rs), d1, some (.lst (natsD ps)), some (.int (many : Nat)), some (faceD f), x5, none, x7] S = .go (.rt (.tup [faceD f, optD (some z)])) [some (planD ls rs), d1, some (.lst (natsD ps)), some (.int (many : Nat)), some (faceD f), some (optD (some z)), none, x7] S := by
          unfold b_L_move_3
          simp only [faceD] at e
          simp only [x_ifS, x_and, x_b, x_op, x_metA, x_var, x_c, x_cons, x_nil, List.getElem?_cons_zero, List.getElem?_cons_succ, R.bind_ok, isQ, faceD, if_true, cn, x_eqI, cb, x_toB, x_call, List.length_cons, List.length_nil, ld, nn, R.to_ok, x_seq, x_asg, x_gN, List.set, O.then_nx, x_lc, x_it, x_itL, if_pos hlen, wipeD, e, fzL, x_lst, ite_size, Nat.zero_le, oe, o2, a, x_ret, x_tup, Nat.reduceAdd, Nat.reduceLeDiff]
        simp only [mForL, x_gN, List.set, B, q]
      · have a' : ps.all (fitP ls f z) = false := by simpa using a
        refine skip (some (optD (some z))) ?_ (by rw [fq, a', Bool.and_false])
        unfold b_L_move_3
        simp only [faceD] at e
        simp only [x_ifS, x_and, x_b, x_op, x_metA, x_var, x_c, x_cons, x_nil, List.getElem?_cons_zero, List.getElem?_cons_succ, R.bind_ok, isQ, faceD, if_true, cn, x_eqI, cb, x_toB, x_call, List.length_cons, List.length_nil, ld, nn, R.to_ok, x_seq, x_asg, x_gN, List.set, O.then_nx, x_lc, x_it, x_itL, if_pos hlen, wipeD, e, fzL, x_lst, ite_size, Nat.zero_le, oe, o2, a', Bool.false_eq_true, if_false, x_next]
theorem s_Lmove {ls : List Ln} {rs : List Rl} (hp : PlOk ls rs) {h : List Int} (hh : h.length = ls.length) (S : Store) : m_L_move [planD ls rs, faceD h] S = .ok (moveD (moveQ ls rs h)) S := by
  have hll := hp.ll
  have zl := zeros_len h
  have zc := zeros_comp (i := 6) (j := 7) (by decide) [some (planD ls rs), some (faceD h), none, none, none, none, none, none] (by simp) (by simp) S t_L_move_6 e_L_move_5 (fun k v => by unfold t_L_move_6; simp) (fun k v => by unfold e_L_move_5; simp) h 0
  have zc : mLcL (gTupM 2 (gConsM (gN 6) (gConsM (gN 7) gNilM))) t_L_move_6 e_L_move_5 [some (planD ls rs), some (faceD h), none, none, none, none, none, none] ((enumL 0 (h.map D.int)).map D.wt) S = .ok (natsD (zerosF h)) S := by
    rw [zc]; simp [natsD]
  have el : ((enumL 0 (h.map D.int)).map D.wt).length ≤ sizeLine := by rw [show sizeLine = 16777216 from rfl]; simp [enumL_len]; omega
  have en : mEnumQ (mVar 1) [some (planD ls rs), some (faceD h), none, none, none, none, none, none] S = .ok ((enumL 0 (h.map D.int)).map D.wt) S := enum_face rfl
  have sa := s_all_faces (h := h) (by omega) S
  have hz : ∀ p ∈ zerosF h, p < ls.length := fun p m => by have := (zeros_lt h p m).1; omega
  obtain ⟨y4, y5, e1⟩ := Lmoves_for hp hz (by omega) 0 (some (faceD h)) none S (allF h) none none fun f hf => by rw [allF_len hf, hh]
  rw [allF_pat] at e1
  have f4 : ∀ (m : Int) (x4 x5 : Option D), b_L_move_4 [some (planD ls rs), some (faceD h), some (.lst (natsD (zerosF h))), some (.int m), x4, x5, none, none] S = mForL (gN 4) b_L_move_3 ((allF h).map faceD) [some (planD ls rs), some (faceD h), some (.lst (natsD (zerosF h))), some (.int m), x4, x5, none, none] S := fun m x4 x5 => by
    unfold b_L_move_4
    simp only [x_for, x_it, x_call, x_cons, x_nil, x_var, List.getElem?_cons_zero, List.getElem?_cons_succ, R.bind_ok, List.length_cons, List.length_nil, if_true, sa, x_itL, R.to_ok]
  have HEAD : m_L_move [planD ls rs, faceD h] S = (match (mForL (gN 3) b_L_move_4 [.int 0, .int 1] [some (planD ls rs), some (faceD h), some (.lst (natsD (zerosF h))), none, none, none, none, none] S).then (mRet (mTup (mCons (mVar 1) (mCons (mTup (mCons (mTup (mCons (mC (.int 0)) (mCons (mC (.int 1)) mNil))) (mCons (mTup (mCons (mC (.int 0)) (mCons (mC (.int 1)) mNil))) mNil))) mNil)))) with
      | .go .nx _ S => .ok .non S
      | .go (.rt d) _ S => .ok d S
      | .go (.ex e) _ S => .exn e S
      | _ => .stuck) := by
    unfold m_L_move
    simp only [x_fun, x_seq, x_asg, start_def, List.map, List.length, Nat.reduceSub, List.replicate, List.cons_append, List.nil_append, x_lc, en, R.bind_ok, if_pos el, wipeD, List.set, zc, fzL, R.to_ok, x_gN, O.then_nx, x_for, x_it, x_tup, x_cons, x_c, x_nil, ite_size, Nat.reduceAdd, Nat.reduceLeDiff, x_itT]
    all_goals rfl
  rw [HEAD]
  have fa : (patF h ++ edgF h).find? (fun f => fitsQ ls rs f (zerosF h)) = ((patF h).find? fun f => fitsQ ls rs f (zerosF h)).or ((edgF h).find? fun f => fitsQ ls rs f (zerosF h)) := List.find?_append
  simp only [mForL, x_gN, List.set, f4]
  have e1' := e1
  simp only [Int.natCast_zero] at e1'
  rw [show ((0 : Nat) : Int) = 0 from rfl] at e1
  rw [e1]
  unfold moveQ
  rw [fa]
  cases q : (patF h).find? fun f => fitsQ ls rs f (zerosF h) with
  | some f =>
    have hft : fitsQ ls rs f (zerosF h) = true := by simpa using List.find?_some q
    obtain ⟨z, hz⟩ := fits_some hft
    simp only [O.then, hz, moveD, optD, ptD, Option.getD_some, Option.or]
  | none =>
    obtain ⟨z4, z5, e2⟩ := Lmoves_for hp hz (by omega) 1 (some (faceD h)) none S (allF h) y4 y5 fun f hf => by rw [allF_len hf, hh]
    rw [allF_edg] at e2
    rw [show ((1 : Nat) : Int) = 1 from rfl] at e2
    simp only [mForL, x_gN, List.set, f4]
    rw [e2]
    cases q2 : (edgF h).find? fun f => fitsQ ls rs f (zerosF h) with
    | some f =>
      have hft : fitsQ ls rs f (zerosF h) = true := by simpa using List.find?_some q2
      obtain ⟨z, hz⟩ := fits_some hft
      simp only [O.then, hz, moveD, optD, ptD, Option.getD_some, Option.or]
    | none =>
      simp only [O.then_nx, x_ret, x_tup, x_cons, x_var, x_c, x_nil, List.getElem?_cons_zero, List.getElem?_cons_succ, R.bind_ok, List.length_cons, List.length_nil, ite_size, Nat.reduceAdd, Nat.reduceLeDiff, R.to_ok, moveD, Option.or]
      rfl
end DL

/-! Plain laws: moves are shown. -/
namespace DL
open PySem PySem.Spec PyProof.Rows L2
theorem prod_mem : ∀ (os : List (List Int)) (f : List Int), f ∈ prodF os → ∀ v ∈ f, ∃ o ∈ os, v ∈ o
  | [], f, hf, v, hv => by
    simp [prodF] at hf
    subst hf
    simp at hv
  | o :: os, f, hf, v, hv => by
    simp only [prodF, List.mem_flatMap, List.mem_map] at hf
    obtain ⟨w, hw, t, ht, rfl⟩ := hf
    rcases List.mem_cons.mp hv with rfl | hv
    · exact ⟨o, List.mem_cons_self, hw⟩
    · obtain ⟨o', ho, h⟩ := prod_mem os t ht v hv
      exact ⟨o', List.mem_cons_of_mem _ ho, h⟩
def Uni (f : List Int) : Prop := ∀ v ∈ f, v.natAbs ≤ 1
theorem allF_uni {h f : List Int} (hh : Uni h) (hf : f ∈ allF h) : Uni f := fun v hv => by
  obtain ⟨o, ho, h2⟩ := prod_mem _ _ hf v hv
  unfold free3 at ho
  obtain ⟨w, hw, rfl⟩ := List.mem_map.mp ho
  split at h2
  · simp at h2
    rcases h2 with rfl | rfl | rfl <;> decide
  · simp at h2
    rw [h2]; exact hh w hw
theorem moveQ_face {ls : List Ln} {rs : List Rl} {h : List Int} (hh : Uni h) : Uni (moveQ ls rs h).1 ∧ (moveQ ls rs h).1.length = h.length := by
  unfold moveQ
  cases q : (patF h ++ edgF h).find? fun f => fitsQ ls rs f (zerosF h) with
  | none => exact ⟨hh, rfl⟩
  | some f =>
    have m : f ∈ allF h := by
      rcases List.mem_append.mp (List.mem_of_find?_eq_some q) with m | m
      · rw [← allF_pat] at m; exact (List.mem_filter.mp m).1
      · rw [← allF_edg] at m; exact (List.mem_filter.mp m).1
    exact ⟨allF_uni hh m, allF_len m⟩
theorem moveQ_rs {ls : List Ln} {rs : List Rl} (hp : PlOk ls rs) (h : List Int) : RS 200 (moveQ ls rs h).2.1 ∧ RS 200 (moveQ ls rs h).2.2 := by
  have z : RS 200 (0 : Rat) := RS.zero.mono (by decide)
  unfold moveQ
  cases q : (patF h ++ edgF h).find? fun f => fitsQ ls rs f (zerosF h) with
  | none => exact ⟨z, z⟩
  | some f =>
    cases q2 : driftQ ls rs f with
    | none => simp only [q2]; exact ⟨z, z⟩
    | some w => simp only [q2]; exact driftQ_rs hp q2
theorem sides_uni (ls : List Ln) (x y : Rat) : Uni (ls.map fun l => sideOf l x y) := fun v hv => by
  obtain ⟨l, _, rfl⟩ := List.mem_map.mp hv
  unfold sideOf
  rw [Int.natAbs_sign]
  split <;> omega
theorem uni_sz {f : List Int} (h : Uni f) {v : Int} (hv : v ∈ f) : Sz 14000 v := Nat.lt_of_le_of_lt (h v hv) (Nat.one_lt_two_pow (by decide))
theorem face_shown {f : List Int} (h : Uni f) (n : Nat) : plain (n + 1) (faceD f) = true ∧ szD 14000 (faceD f) ∧ (toPy (faceD f)).bulk ≤ f.length := by
  refine ⟨?_, ?_, ?_⟩
  · simp only [faceD, plain, plains_ints]
  · simp only [faceD, szD]
    exact szDs_map D.int 14000 f fun v hv => by simpa [szD] using uni_sz h hv
  · have := bulk_map D.int 0 f fun v _ => by simp [toPy, PyData.bulk]
    simp only [faceD, toPy, PyData.bulk]
    omega
theorem pt_shown {n : Nat} {z : Rat × Rat} (h1 : RS n z.1) (h2 : RS n z.2) (hn : n ≤ 14000) (k : Nat) : plain (k + 2) (ptD z) = true ∧ szD 14000 (ptD z) ∧ (toPy (ptD z)).bulk = 6 := by
  refine ⟨?_, ?_, ?_⟩
  · simp only [ptD, plain, plains, plain_fr, Bool.and_true]
  · simp only [ptD, szD, szDs]
    exact ⟨sz_fr h1 hn, sz_fr h2 hn, trivial⟩
  · simp only [ptD, toPy, toPys, PyData.bulk, PyData.bulkAll, bulk_fr]
theorem shw_move {ls : List Ln} {rs : List Rl} (hp : PlOk ls rs) {h : List Int} (hh : Uni h) (hl : h.length = ls.length) : Shw (moveD (moveQ ls rs h)) := by
  obtain ⟨u, l⟩ := moveQ_face (ls := ls) (rs := rs) hh
  obtain ⟨r1, r2⟩ := moveQ_rs hp h
  obtain ⟨a1, a2, a3⟩ := face_shown u 61
  obtain ⟨b1, b2, b3⟩ := pt_shown r1 r2 (by decide) 60
  have := hp.ll
  refine shw_of ?_ ?_ ?_
  · simp only [moveD, plain, plains, a1, b1, Bool.and_true]
  · simp only [moveD, szD, szDs]
    exact ⟨a2, b2, trivial⟩
  · simp only [moveD, toPy, toPys, PyData.bulk, PyData.bulkAll, b3]
    omega
end DL

/-! Plain laws: sides, moves of points of any size; the next crossing. -/
namespace DL
open PySem PySem.Spec PyProof.Rows L2
theorem s_dotN {a b c d : Rat} {m n : Nat} (S : Store) (h1 : RS m a) (h2 : RS m b) (h3 : RS n c) (h4 : RS n d) (hn : m + n < 4495) : m_dot [.tup [fr a, fr b], .tup [fr c, fr d]] S = .ok (fr (a * c + b * d)) S := by
  unfold m_dot
  simp [s_times S h1 h3 (by omega), s_times S h2 h4 (by omega), s_plus S (h1.mul h3) (h2.mul h4) (by omega)]
theorem s_valueN {l : Ln} (o : l.Ok) {n : Nat} (hn : n ≤ 4300) {x y : Rat} (hx : RS n x) (hy : RS n y) (S : Store) : m_value_at [l.d, .tup [fr x, fr y]] S = .ok (fr (l.a * x + l.b * y - l.c)) S := by
  have c1 : cutD [.str l.nm, fr l.a, fr l.b, fr l.c] (some 1) (some 3) = [fr l.a, fr l.b] := rfl
  have p1 := fun ρ : Env => x_part ρ S (mC (.int 1)) 1 S rfl (by decide)
  have p3 := fun ρ : Env => x_part ρ S (mC (.int 3)) 3 S rfl (by decide)
  have d := s_dotN S o.a o.b hx hy (by omega)
  have m := s_minus S ((o.a.mul hx).add (o.b.mul hy)) o.c (by omega)
  unfold m_value_at
  simp [Ln.d, slD, p1, p3, c1, d, m]
theorem s_LvalueN {l : Ln} (o : l.Ok) {n : Nat} (hn : n ≤ 4300) {x y : Rat} (hx : RS n x) (hy : RS n y) (S : Store) : m_L_value [l.d, .tup [fr x, fr y]] S = .ok (fr (l.a * x + l.b * y)) S := by
  have z1 := s_Lproduct S o.a hx (by omega)
  have z2 := s_Lproduct S o.b hy (by omega)
  have z3 := s_Lsum S (o.a.mul hx) (o.b.mul hy) (by omega)
  unfold m_L_value
  simp [Ln.d, z1, z2, z3]
def sidesF (ls : List Ln) (x y : Rat) : List Int := ls.map fun l => sideOf l x y
theorem sidesF_len (ls : List Ln) (x y : Rat) : (sidesF ls x y).length = ls.length := by simp [sidesF]
theorem s_sidesN {ls : List Ln} {rs : List Rl} (hp : PlOk ls rs) {n : Nat} (hn : n ≤ 4300) {x y : Rat} (hx : RS n x) (hy : RS n y) (S : Store) : m_sides [planD ls rs, .tup [fr x, fr y]] S = .ok (faceD (sidesF ls x y)) S := by
  have pl0 : ixD (planD ls rs) (.int 0) S = .ok (.tup (ls.map Ln.d)) S := rfl
  have key := lc_mapG (i := 2) (te := mCall 1 m_sign (mCons (mCall 2 m_value_at (mCons (mVar 2) (mCons (mVar 1) mNil))) mNil)) (ρ := [some (planD ls rs), some (.tup [fr x, fr y]), none]) (S := S) (g := Ln.d) (h := fun l => .int (sideOf l x y)) (ls := ls) fun l hl => by
    simp [s_valueN (hp.ln l hl) hn hx hy, s_sign, sideOf]
  have hlen : ls.length ≤ 16777216 := by have := hp.ll; omega
  unfold m_sides
  simp [pl0, sizeLine, hlen, wipeD, key, fzL, sidesF, faceD]
theorem s_LsidesN {ls : List Ln} {rs : List Rl} (hp : PlOk ls rs) {n : Nat} (hn : n ≤ 4300) {x y : Rat} (hx : RS n x) (hy : RS n y) (S : Store) : m_L_sides [planD ls rs, .tup [fr x, fr y]] S = .ok (faceD (sidesF ls x y)) S := by
  have pl0 : ixD (planD ls rs) (.int 0) S = .ok (.tup (ls.map Ln.d)) S := rfl
  have key := lc_mapG (i := 2) (te := mCall 1 m_L_signum (mCons (mCall 2 m_L_minus (mCons (mCall 2 m_L_value (mCons (mVar 2) (mCons (mVar 1) mNil))) (mCons (mOp ixD (mVar 2) (mC (.int 3))) mNil))) mNil)) (ρ := [some (planD ls rs), some (.tup [fr x, fr y]), none]) (S := S) (g := Ln.d) (h := fun l => .int (sideOf l x y)) (ls := ls) fun l hl => by
    have o := hp.ln l hl
    have i3 : ixD l.d (.int 3) S = .ok (fr l.c) S := rfl
    have m := s_Lminus S ((o.a.mul hx).add (o.b.mul hy)) o.c (by omega)
    simp [s_LvalueN o hn hx hy, i3, m, s_Lsignum, sideOf]
  have hlen : ls.length ≤ 16777216 := by have := hp.ll; omega
  unfold m_L_sides
  simp [pl0, sizeLine, hlen, wipeD, key, fzL, sidesF, faceD]
theorem s_moveN {ls : List Ln} {rs : List Rl} (hp : PlOk ls rs) {n : Nat} (hn : n ≤ 4300) {x y : Rat} (hx : RS n x) (hy : RS n y) (S : Store) : ∃ S' : Store, m_move [planD ls rs, .tup [fr x, fr y]] S = .ok (moveD (moveQ ls rs (sidesF ls x y))) S' ∧ Grow S S' := by
  have e1 := s_sidesN hp hn hx hy S
  obtain ⟨S1, e2, g⟩ := s_move_from hp (sidesF_len ls x y) S
  refine ⟨S1, ?_, g⟩
  unfold m_move
  simp [e1, e2]
/-! ### the next crossing -/
def lessQ (t b : Rat) : Bool := decide (t.num * b.den < b.num * t.den)
def crossT (l : Ln) (x y dx dy : Rat) (side : Int) : Option Rat :=
  if (l.a * x + l.b * y - l.c).num.sign * (l.a * dx + l.b * dy).num.sign < 0 ∧ side ≠ 0 then some (-(l.a * x + l.b * y - l.c) / (l.a * dx + l.b * dy)) else none
def bestQ (b : Option Rat) (t : Option Rat) : Option Rat := match t with
  | none => b
  | some t => match b with
    | none => some t
    | some b => if lessQ t b then some t else some b
def nextQ : List Ln → Rat → Rat → Rat → Rat → List Int → Option Rat → Option Rat
  | l :: ls, x, y, dx, dy, v :: f, b => nextQ ls x y dx dy f (bestQ b (crossT l x y dx dy v))
  | _, _, _, _, _, _, b => b
def optT : Option Rat → D
  | none => .non
  | some t => fr t
theorem opp (q : Rat) (S : Store) : m_opposite [fr q] S = .ok (fr (-q)) S := by
  unfold m_opposite
  have : D.tup [.int (-q.num), .int q.den] = fr (-q) := neg_fr q
  simp [sizeLine, this]
theorem s_less {m n : Nat} {t b : Rat} (ht : RS m t) (hb : RS n b) (hn : m + n < 1000000) (S : Store) : m_is_less [fr t, fr b] S = .ok (.bl (lessQ t b)) S := by
  have z1 := mul_ok S ht.1 hb.den (by omega)
  have z2 := mul_ok S hb.1 ht.den (by omega)
  unfold m_is_less lessQ
  simp [-x_mul, z1, z2]
/-- the times are no larger than this -/
def TB (n : Nat) (b : Option Rat) : Prop := ∀ t, b = some t → RS n t
theorem sgn_sz (z : Int) : Sz 2 z.sign := by
  unfold Sz
  rw [Int.natAbs_sign]
  split <;> decide
theorem cross_rs {l : Ln} (o : l.Ok) {n : Nat} {x y dx dy : Rat} (hx : RS n x) (hy : RS n y) (h1 : RS 200 dx) (h2 : RS 200 dy) (v : Int) : TB (2 * n + 500) (crossT l x y dx dy v) := fun t e => by
  unfold crossT at e
  split at e
  · cases e
    exact ((((o.a.mul hx).add (o.b.mul hy)).sub o.c).neg.div ((o.a.mul h1).add (o.b.mul h2))).mono (by omega)
  · cases e
theorem best_tb {n : Nat} {b t : Option Rat} (hb : TB n b) (ht : TB n t) : TB n (bestQ b t) := by
  unfold bestQ
  cases t with
  | none => exact hb
  | some t =>
    cases b with
    | none => exact ht
    | some b =>
      simp only
      split
      · exact ht
      · exact hb
theorem time_turn {l : Ln} (o : l.Ok) {n : Nat} (hn : n ≤ 4250) {x y dx dy : Rat} (hx : RS n x) (hy : RS n y) (h1 : RS 200 dx) (h2 : RS 200 dy) (v : Int) {b : Option Rat} (hb : TB (2 * n + 500) b) (S : Store) (d0 d2 x7 x8 x9 : Option D) :
    ∃ (y7 y8 y9 : Option D), b_time_to_cross_1 [d0, some (.tup [fr x, fr y]), d2, some (.tup [fr dx, fr dy]), some (optT b), some l.d, some (.int v), x7, x8, x9] S = .go .nx [d0, some (.tup [fr x, fr y]), d2, some (.tup [fr dx, fr dy]), some (optT (bestQ b (crossT l x y dx dy v))), some l.d, some (.int v), y7, y8, y9] S := by
  have c1 : cutD [.str l.nm, fr l.a, fr l.b, fr l.c] (some 1) (some 3) = [fr l.a, fr l.b] := rfl
  have p1 := fun ρ : Env => x_part ρ S (mC (.int 1)) 1 S rfl (by decide)
  have p3 := fun ρ : Env => x_part ρ S (mC (.int 3)) 3 S rfl (by decide)
  have e1 := s_dotN S o.a o.b h1 h2 (by decide)
  have e2 := s_valueN o (by omega) hx hy S
  have rs := (o.a.mul h1).add (o.b.mul h2)
  have rv := ((o.a.mul hx).add (o.b.mul hy)).sub o.c
  have ct := cross_rs o hx hy h1 h2 v
  unfold crossT at ct ⊢
  generalize hs : l.a * dx + l.b * dy = s at *
  generalize hv : l.a * x + l.b * y - l.c = w at *
  have mm := mul_ok S (sgn_sz w.num) (sgn_sz s.num) (by decide)
  have PRE : ∀ k : SM, mSeq (mAsg (mCall 2 m_dot (mCons (mSl (mVar 5) (mPart (mC (.int 1))) (mPart (mC (.int 3)))) (mCons (mVar 3) mNil))) (gN 7)) (mSeq (mAsg (mCall 2 m_value_at (mCons (mVar 5) (mCons (mVar 1) mNil))) (gN 8)) k) [d0, some (.tup [fr x, fr y]), d2, some (.tup [fr dx, fr dy]), some (optT b), some l.d, some (.int v), x7, x8, x9] S = k [d0, some (.tup [fr x, fr y]), d2, some (.tup [fr dx, fr dy]), some (optT b), some l.d, some (.int v), some (fr s), some (fr w), x9] S := fun k => by
    have c1' : slD l.d (some 1) (some 3) S = .ok (.tup [fr l.a, fr l.b]) S := rfl
    simp only [x_seq, x_asg, x_call, x_cons, x_nil, x_sl, x_var, List.getElem?_cons_zero, List.getElem?_cons_succ, R.bind_ok, p1, p3, c1', List.length_cons, List.length_nil, if_true, e1, R.to_ok, x_gN, List.set, O.then_nx, e2]
  unfold b_time_to_cross_1
  rw [PRE]
  by_cases c : w.num.sign * s.num.sign < 0
  rotate_left
  · refine ⟨some (fr s), some (fr w), x9, ?_⟩
    rw [if_neg (fun z => c z.1)]
    simp [-x_mul, s_sign, mm, c, bestQ]
  by_cases cv : v = 0
  · refine ⟨some (fr s), some (fr w), x9, ?_⟩
    rw [if_neg (fun z => z.2 cv)]
    simp [-x_mul, s_sign, mm, c, cv, bestQ]
  rw [if_pos ⟨c, cv⟩] at ct ⊢
  have s0 : s ≠ 0 := fun z => by
    rw [z] at c
    simp at c
  have ov := s_over S rv.neg rs s0 (by omega)
  have rt := ct _ rfl
  refine ⟨some (fr s), some (fr w), some (fr (-w / s)), ?_⟩
  cases b with
  | none =>
    simp [-x_mul, s_sign, mm, c, cv, bestQ, opp, ov, optT, isNon]
  | some b =>
    have ls := s_less rt (hb b rfl) (by omega) S
    have nn : isND (fr b) .non S = .ok (.bl false) S := rfl
    have nf : isNon (fr b) = false := rfl
    by_cases q : lessQ (-w / s) b = true
    · simp [-x_mul, s_sign, mm, c, cv, bestQ, opp, ov, optT, nn, nf, ls, q]
    · have q' : lessQ (-w / s) b = false := by simpa using q
      simp [-x_mul, s_sign, mm, c, cv, bestQ, opp, ov, optT, nn, nf, ls, q']
theorem time_loop {n : Nat} (hn : n ≤ 4250) {x y dx dy : Rat} (hx : RS n x) (hy : RS n y) (h1 : RS 200 dx) (h2 : RS 200 dy) (S : Store) (d0 d2 : Option D) : ∀ (ls : List Ln) (f : List Int) (b : Option Rat) (x5 x6 x7 x8 x9 : Option D), (∀ l ∈ ls, l.Ok) → f.length = ls.length → TB (2 * n + 500) b →
    ∃ (y5 y6 y7 y8 y9 : Option D), mForL (gTupM 2 (gConsM (gN 5) (gConsM (gN 6) gNilM))) b_time_to_cross_1 ((zipL (ls.map Ln.d) (f.map D.int)).map D.wt) [d0, some (.tup [fr x, fr y]), d2, some (.tup [fr dx, fr dy]), some (optT b), x5, x6, x7, x8, x9] S = .go .nx [d0, some (.tup [fr x, fr y]), d2, some (.tup [fr dx, fr dy]), some (optT (nextQ ls x y dx dy f b)), y5, y6, y7, y8, y9] S
  | [], f, b, x5, x6, x7, x8, x9, _, _, _ => ⟨x5, x6, x7, x8, x9, by cases f <;> simp [zipL, nextQ, mForL]⟩
  | l :: ls, [], b, x5, x6, x7, x8, x9, _, h, _ => by simp at h
  | l :: ls, v :: f, b, x5, x6, x7, x8, x9, ho, hl, hb => by
    have o := ho l List.mem_cons_self
    obtain ⟨y7, y8, y9, e1⟩ := time_turn o hn hx hy h1 h2 v hb S d0 d2 x7 x8 x9
    obtain ⟨z5, z6, z7, z8, z9, e2⟩ := time_loop hn hx hy h1 h2 S d0 d2 ls f (bestQ b (crossT l x y dx dy v)) (some l.d) (some (.int v)) y7 y8 y9 (fun m hm => ho m (List.mem_cons_of_mem _ hm)) (by simpa using hl) (best_tb hb (cross_rs o hx hy h1 h2 v))
    refine ⟨z5, z6, z7, z8, z9, ?_⟩
    simp only [List.map_cons, zipL, mForL, x_gTupW, x_gCons, x_gN, x_gNil, List.length_cons, List.length_nil, Nat.reduceAdd, if_true, Option.bind_some, List.set, e1, e2, nextQ]
theorem s_time {ls : List Ln} {rs : List Rl} (hp : PlOk ls rs) {n : Nat} (hn : n ≤ 4250) {x y dx dy : Rat} (hx : RS n x) (hy : RS n y) (h1 : RS 200 dx) (h2 : RS 200 dy) {f : List Int} (hf : f.length = ls.length) (S : Store) :
    m_time_to_cross [planD ls rs, .tup [fr x, fr y], faceD f, .tup [fr dx, fr dy]] S = .ok (optT (nextQ ls x y dx dy f none)) S := by
  have pl0 : ixD (planD ls rs) (.int 0) S = .ok (.tup (ls.map Ln.d)) S := rfl
  obtain ⟨y5, y6, y7, y8, y9, e⟩ := time_loop hn hx hy h1 h2 S (some (planD ls rs)) (some (faceD f)) ls f none none none none none none hp.ln hf (fun t z => by cases z)
  unfold m_time_to_cross
  have e0 : (some (optT none) : Option D) = some .non := rfl
  rw [e0] at e
  have mz : mZip (mOp ixD (mVar 0) (mC (.int 0))) (mVar 2) [some (planD ls rs), some (.tup [fr x, fr y]), some (faceD f), some (.tup [fr dx, fr dy]), some .non, none, none, none, none, none] S = .ok ((zipL (ls.map Ln.d) (f.map D.int)).map D.wt) S := by
    simp only [mZip, x_op, x_var, x_c, List.getElem?_cons_zero, List.getElem?_cons_succ, R.bind_ok, pl0]
    rfl
  simp only [x_fun, x_seq, x_asg, start_def, List.map, List.length, Nat.reduceSub, List.replicate, List.cons_append, List.nil_append, x_c, R.to_ok, x_gN, List.set, O.then_nx, x_for, mz]
  rw [e]
  simp
/-! by the law -/
theorem sgn_prod (w s : Int) : 0 < -w * s ↔ w.sign * s.sign < 0 := by
  rcases Int.lt_trichotomy w 0 with h | h | h <;> rcases Int.lt_trichotomy s 0 with k | k | k
  · rw [Int.sign_eq_neg_one_of_neg h, Int.sign_eq_neg_one_of_neg k]
    have := Int.mul_neg_of_pos_of_neg (show 0 < -w by omega) k
    constructor <;> intro z <;> omega
  · rw [k]; simp
  · rw [Int.sign_eq_neg_one_of_neg h, Int.sign_eq_one_of_pos k]
    have := Int.mul_pos (show 0 < -w by omega) k
    constructor <;> intro z <;> omega
  · rw [h]; simp
  · rw [h]; simp
  · rw [h]; simp
  · rw [Int.sign_eq_one_of_pos h, Int.sign_eq_neg_one_of_neg k]
    have := Int.mul_pos_of_neg_of_neg (show -w < 0 by omega) k
    constructor <;> intro z <;> omega
  · rw [k]; simp
  · rw [Int.sign_eq_one_of_pos h, Int.sign_eq_one_of_pos k]
    have := Int.mul_neg_of_neg_of_pos (show -w < 0 by omega) k
    constructor <;> intro z <;> omega
theorem next_turn {l : Ln} (o : l.Ok) {n : Nat} (hn : n ≤ 4250) {x y dx dy : Rat} (hx : RS n x) (hy : RS n y) (h1 : RS 200 dx) (h2 : RS 200 dy) (v : Int) {b : Option Rat} (hb : TB (2 * n + 500) b) (S : Store) (d0 d2 x7 x8 x9 : Option D) :
    ∃ (y7 y8 y9 : Option D), b_L_next_1 [d0, some (.tup [fr x, fr y]), d2, some (.tup [fr dx, fr dy]), some (optT b), some l.d, some (.int v), x7, x8, x9] S = .go .nx [d0, some (.tup [fr x, fr y]), d2, some (.tup [fr dx, fr dy]), some (optT (bestQ b (crossT l x y dx dy v))), some l.d, some (.int v), y7, y8, y9] S := by
  have e1 := s_LvalueN o (by omega) h1 h2 S
  have e2 := s_LvalueN o (by omega) hx hy S
  have rs := (o.a.mul h1).add (o.b.mul h2)
  have ru := (o.a.mul hx).add (o.b.mul hy)
  have e3 := s_Lminus S o.c ru (by omega)
  have rg := o.c.sub ru
  have ct := cross_rs o hx hy h1 h2 v
  have i3 : ixD l.d (.int 3) S = .ok (fr l.c) S := rfl
  unfold crossT at ct ⊢
  have hg : l.c - (l.a * x + l.b * y) = -(l.a * x + l.b * y - l.c) := by grind
  rw [hg] at e3 rg
  generalize hs : l.a * dx + l.b * dy = s at *
  generalize hv : l.a * x + l.b * y - l.c = w at *
  have z1 := mul_ok S rg.1 rs.1 (by omega)
  have z2 := mul_ok S rg.1 rs.den (by omega)
  have z3 := mul_ok S rg.den rs.1 (by omega)
  have sp := sgn_prod w.num s.num
  have PRE : ∀ k : SM, mSeq (mAsg (mCall 2 m_L_value (mCons (mVar 5) (mCons (mVar 3) mNil))) (gN 7)) (mSeq (mAsg (mCall 2 m_L_minus (mCons (mOp ixD (mVar 5) (mC (.int 3))) (mCons (mCall 2 m_L_value (mCons (mVar 5) (mCons (mVar 1) mNil))) mNil))) (gN 8)) k) [d0, some (.tup [fr x, fr y]), d2, some (.tup [fr dx, fr dy]), some (optT b), some l.d, some (.int v), x7, x8, x9] S = k [d0, some (.tup [fr x, fr y]), d2, some (.tup [fr dx, fr dy]), some (optT b), some l.d, some (.int v), some (fr s), some (fr (-w)), x9] S := fun k => by
    simp only [x_seq, x_asg, x_call, x_cons, x_nil, x_op, x_c, x_var, List.getElem?_cons_zero, List.getElem?_cons_succ, R.bind_ok, List.length_cons, List.length_nil, if_true, e1, R.to_ok, x_gN, List.set, O.then_nx, i3, e2, e3]
  unfold b_L_next_1
  rw [PRE]
  simp only [Rat.neg_num, Rat.neg_den] at z1 z2 z3
  by_cases cv : v = 0
  · refine ⟨some (fr s), some (fr (-w)), x9, ?_⟩
    rw [if_neg (fun z => z.2 cv)]
    simp [cv, bestQ]
  by_cases c : w.num.sign * s.num.sign < 0
  rotate_left
  · refine ⟨some (fr s), some (fr (-w)), x9, ?_⟩
    rw [if_neg (fun z => c z.1)]
    have c' : ¬ 0 < -w.num * s.num := fun z => c (sp.mp z)
    simp [-x_mul, z1, cv, bestQ, -Int.neg_mul]
    intro q
    exact absurd (sp.mp q) c
  rw [if_pos ⟨c, cv⟩] at ct ⊢
  have c' : 0 < -w.num * s.num := sp.mpr c
  have s0 : s ≠ 0 := fun z => by
    rw [z] at c
    simp at c
  have lw := low_div S rg rs (num_ne s0) (by omega)
  simp only [Rat.neg_num, Rat.neg_den] at lw
  have rt := ct _ rfl
  refine ⟨some (fr s), some (fr (-w)), some (fr (-w / s)), ?_⟩
  cases b with
  | none =>
    simp [-x_mul, z1, z2, z3, c', cv, bestQ, lw, optT, isNon, -Int.neg_mul]
  | some b =>
    have y1 := mul_ok S rt.1 (hb b rfl).den (by omega)
    have y2 := mul_ok S (hb b rfl).1 rt.den (by omega)
    have nn : isND (fr b) .non S = .ok (.bl false) S := rfl
    have nf : isNon (fr b) = false := rfl
    by_cases q : lessQ (-w / s) b = true
    · have q2 := of_decide_eq_true (show decide ((-w / s).num * b.den < b.num * (-w / s).den) = true from q)
      simp [-x_mul, z1, z2, z3, c', cv, bestQ, lw, optT, nn, nf, y1, y2, q, q2, -Int.neg_mul]
    · have q' : lessQ (-w / s) b = false := by simpa using q
      have q2 := of_decide_eq_false (show decide ((-w / s).num * b.den < b.num * (-w / s).den) = false from q')
      simp [-x_mul, z1, z2, z3, c', cv, bestQ, lw, optT, nn, nf, y1, y2, q', q2, -Int.neg_mul]
theorem next_loop {n : Nat} (hn : n ≤ 4250) {x y dx dy : Rat} (hx : RS n x) (hy : RS n y) (h1 : RS 200 dx) (h2 : RS 200 dy) (S : Store) (d0 d2 : Option D) : ∀ (ls : List Ln) (f : List Int) (b : Option Rat) (x5 x6 x7 x8 x9 : Option D), (∀ l ∈ ls, l.Ok) → f.length = ls.length → TB (2 * n + 500) b →
    ∃ (y5 y6 y7 y8 y9 : Option D), mForL (gTupM 2 (gConsM (gN 5) (gConsM (gN 6) gNilM))) b_L_next_1 ((zipL (ls.map Ln.d) (f.map D.int)).map D.wt) [d0, some (.tup [fr x, fr y]), d2, some (.tup [fr dx, fr dy]), some (optT b), x5, x6, x7, x8, x9] S = .go .nx [d0, some (.tup [fr x, fr y]), d2, some (.tup [fr dx, fr dy]), some (optT (nextQ ls x y dx dy f b)), y5, y6, y7, y8, y9] S
  | [], f, b, x5, x6, x7, x8, x9, _, _, _ => ⟨x5, x6, x7, x8, x9, by cases f <;> simp [zipL, nextQ, mForL]⟩
  | l :: ls, [], b, x5, x6, x7, x8, x9, _, h, _ => by simp at h
  | l :: ls, v :: f, b, x5, x6, x7, x8, x9, ho, hl, hb => by
    have o := ho l List.mem_cons_self
    obtain ⟨y7, y8, y9, e1⟩ := next_turn o hn hx hy h1 h2 v hb S d0 d2 x7 x8 x9
    obtain ⟨z5, z6, z7, z8, z9, e2⟩ := next_loop hn hx hy h1 h2 S d0 d2 ls f (bestQ b (crossT l x y dx dy v)) (some l.d) (some (.int v)) y7 y8 y9 (fun m hm => ho m (List.mem_cons_of_mem _ hm)) (by simpa using hl) (best_tb hb (cross_rs o hx hy h1 h2 v))
    refine ⟨z5, z6, z7, z8, z9, ?_⟩
    simp only [List.map_cons, zipL, mForL, x_gTupW, x_gCons, x_gN, x_gNil, List.length_cons, List.length_nil, Nat.reduceAdd, if_true, Option.bind_some, List.set, e1, e2, nextQ]
theorem s_Lnext {ls : List Ln} {rs : List Rl} (hp : PlOk ls rs) {n : Nat} (hn : n ≤ 4250) {x y dx dy : Rat} (hx : RS n x) (hy : RS n y) (h1 : RS 200 dx) (h2 : RS 200 dy) {f : List Int} (hf : f.length = ls.length) (S : Store) :
    m_L_next [planD ls rs, .tup [fr x, fr y], faceD f, .tup [fr dx, fr dy]] S = .ok (optT (nextQ ls x y dx dy f none)) S := by
  have pl0 : ixD (planD ls rs) (.int 0) S = .ok (.tup (ls.map Ln.d)) S := rfl
  obtain ⟨y5, y6, y7, y8, y9, e⟩ := next_loop hn hx hy h1 h2 S (some (planD ls rs)) (some (faceD f)) ls f none none none none none none hp.ln hf (fun t z => by cases z)
  unfold m_L_next
  have e0 : (some (optT none) : Option D) = some .non := rfl
  rw [e0] at e
  have mz : mZip (mOp ixD (mVar 0) (mC (.int 0))) (mVar 2) [some (planD ls rs), some (.tup [fr x, fr y]), some (faceD f), some (.tup [fr dx, fr dy]), some .non, none, none, none, none, none] S = .ok ((zipL (ls.map Ln.d) (f.map D.int)).map D.wt) S := by
    simp only [mZip, x_op, x_var, x_c, List.getElem?_cons_zero, List.getElem?_cons_succ, R.bind_ok, pl0]
    rfl
  simp only [x_fun, x_seq, x_asg, start_def, List.map, List.length, Nat.reduceSub, List.replicate, List.cons_append, List.nil_append, x_c, R.to_ok, x_gN, List.set, O.then_nx, x_for, mz]
  rw [e]
  simp
end DL

/-! Plain laws: courses. -/
namespace DL
open PySem PySem.Spec PyProof.Rows L2
structure En where
  t : Rat
  x : Rat
  y : Rat
  m : List Int × (Rat × Rat)
def En.d (e : En) : D := .tup [fr e.t, .tup [fr e.x, fr e.y], faceD e.m.1, ptD e.m.2]
abbrev mvQ (ls : List Ln) (rs : List Rl) (x y : Rat) : List Int × (Rat × Rat) := moveQ ls rs (sidesF ls x y)
/-- the time from a point to the next crossing -/
def stepQ (ls : List Ln) (rs : List Rl) (x y : Rat) : Option Rat := nextQ ls x y (mvQ ls rs x y).2.1 (mvQ ls rs x y).2.2 (mvQ ls rs x y).1 none
/-- the entries, so many at most -/
def courseQ (ls : List Ln) (rs : List Rl) : Nat → Rat → Rat → Rat → List En
  | 0, _, _, _ => []
  | n + 1, t, x, y => ⟨t, x, y, mvQ ls rs x y⟩ :: match stepQ ls rs x y with
    | none => []
    | some s => courseQ ls rs n (t + s) (x + (mvQ ls rs x y).2.1 * s) (y + (mvQ ls rs x y).2.2 * s)
/-- sizes along a course, up to entry K -/
structure Good (ls : List Ln) (rs : List Rl) (K : Nat) (G : Nat → Rat → Rat → Rat → Prop) : Prop where
  sz : ∀ k t x y, G k t x y → RS 4250 t ∧ RS 4250 x ∧ RS 4250 y
  go : ∀ k t x y s, k < K → G k t x y → stepQ ls rs x y = some s → RS 4250 s ∧ G (k + 1) (t + s) (x + (mvQ ls rs x y).2.1 * s) (y + (mvQ ls rs x y).2.2 * s)
theorem still_next (x y : Rat) : ∀ (ls : List Ln) (f : List Int) (b : Option Rat), nextQ ls x y 0 0 f b = b
  | [], f, b => by cases f <;> rfl
  | l :: ls, [], b => rfl
  | l :: ls, v :: f, b => by
    have : crossT l x y 0 0 v = none := by
      unfold crossT
      rw [if_neg]
      intro z
      have h : l.a * 0 + l.b * 0 = 0 := by grind
      rw [h] at z
      simp at z
    rw [nextQ, this]
    exact still_next x y ls f b
theorem Ext.urn {u p k : Nat} {S S' : Store} (h : Ext p S S') (hp : p ≠ u) (q : Urn u k S) : Urn u k S' := by
  obtain ⟨ns, a, v, h1, h2⟩ := q.ex
  exact ⟨ns, a, v, by rw [h.at_ u (List.getElem?_eq_some_iff.mp h1).1 (Ne.symm hp)]; exact h1, h2⟩
theorem Ext.set {p : Nat} (S : Store) (o : Ob) : Ext p S (S.set p o) := ⟨by simp, fun n _ hn => by rw [List.getElem?_set_ne (Ne.symm hn)]⟩
section
variable {ls : List Ln} {rs : List Rl} (hp : PlOk ls rs) {K : Nat} {G : Nat → Rat → Rat → Rat → Prop} (hG : Good ls rs K G)
include hp hG
theorem course_turn {pl k : Nat} {t x y : Rat} (g : G k t x y) (acc : List En) (S : Store) (hS : S[pl]? = some (.lst (acc.map En.d))) (hl : acc.length ≤ 10000) (hk : k < K) (d1 d2 x6 x7 x8 : Option D) :
    ∃ S' : Store, Ext pl S S' ∧ S'[pl]? = some (.lst ((acc ++ [En.mk t x y (mvQ ls rs x y)]).map En.d)) ∧
      b_course_2 [some (planD ls rs), d1, d2, some (.ref pl), some (fr t), some (.tup [fr x, fr y]), x6, x7, x8] S = (match stepQ ls rs x y with
        | none => .go (.rt (.ref pl)) [some (planD ls rs), d1, d2, some (.ref pl), some (fr t), some (.tup [fr x, fr y]), some (faceD (mvQ ls rs x y).1), some (ptD (mvQ ls rs x y).2), some .non] S'
        | some s => .go .nx [some (planD ls rs), d1, d2, some (.ref pl), some (fr (t + s)), some (.tup [fr (x + (mvQ ls rs x y).2.1 * s), fr (y + (mvQ ls rs x y).2.2 * s)]), some (faceD (mvQ ls rs x y).1), some (ptD (mvQ ls rs x y).2), some (fr s)] S') := by
  obtain ⟨rt, rx, ry⟩ := hG.sz k t x y g
  obtain ⟨S1, e1, g1⟩ := s_moveN hp (by decide) rx ry S
  have hS1 := g1.at_ hS
  have mrs := moveQ_rs hp (sidesF ls x y)
  have mfl : (mvQ ls rs x y).1.length = ls.length := by
    rw [(moveQ_face (ls := ls) (rs := rs) (h := sidesF ls x y) (sides_uni ls x y)).2, sidesF_len]
  have hst := hG.go k t x y
  have e2 := s_time hp (by decide) rx ry mrs.1 mrs.2 mfl (S1.set pl (.lst ((acc ++ [En.mk t x y (mvQ ls rs x y)]).map En.d)))
  have hpl := (List.getElem?_eq_some_iff.mp hS1).1
  refine ⟨S1.set pl (.lst ((acc ++ [En.mk t x y (mvQ ls rs x y)]).map En.d)), (g1.ext pl).trans (Ext.set S1 _), by rw [List.getElem?_set_self hpl], ?_⟩
  generalize hS2 : S1.set pl (.lst ((acc ++ [En.mk t x y (mvQ ls rs x y)]).map En.d)) = S2 at *
  have ap : appendD (.ref pl) [.tup [fr t, .tup [fr x, fr y], faceD (mvQ ls rs x y).1, ptD (mvQ ls rs x y).2]] S1 = .ok .non S2 := by
    simp only [appendD, hS1]
    rw [if_pos (by rw [List.length_map, show sizeLine = 16777216 from rfl]; omega), ← hS2, List.map_append]
    rfl
  have st : k_STILL = .tup [fr 0, fr 0] := rfl
  have e3 : mIf (mB (mOp neD (mVar 7) (mC k_STILL))) (mCall 4 m_time_to_cross (mCons (mVar 0) (mCons (mVar 5) (mCons (mVar 6) (mCons (mVar 7) mNil))))) (mC .non) [some (planD ls rs), d1, d2, some (.ref pl), some (fr t), some (.tup [fr x, fr y]), some (faceD (mvQ ls rs x y).1), some (ptD (mvQ ls rs x y).2), x8] S2 = .ok (optT (stepQ ls rs x y)) S2 := by
    have n2 := x_neFr2 (mvQ ls rs x y).2.1 (mvQ ls rs x y).2.2 0 0 S2
    have P : ptD (mvQ ls rs x y).2 = .tup [fr (mvQ ls rs x y).2.1, fr (mvQ ls rs x y).2.2] := rfl
    rw [P]
    simp only [x_if, x_b, x_op, x_var, x_c, List.getElem?_cons_zero, List.getElem?_cons_succ, R.bind_ok, st, n2, x_toB]
    by_cases c : (mvQ ls rs x y).2.1 = 0 ∧ (mvQ ls rs x y).2.2 = 0
    · have q : stepQ ls rs x y = none := by
        unfold stepQ
        rw [c.1, c.2]
        exact still_next x y ls _ none
      rw [q]
      simp [c.1, c.2, optT]
    · have c' : (!(decide ((mvQ ls rs x y).2.1 = 0) && decide ((mvQ ls rs x y).2.2 = 0))) = true := by
        rw [Bool.not_eq_true', Bool.and_eq_false_iff]
        by_cases q : (mvQ ls rs x y).2.1 = 0
        · exact .inr (decide_eq_false fun z => c ⟨q, z⟩)
        · exact .inl (decide_eq_false q)
      rw [c', if_pos rfl]
      simp only [x_call, x_cons, x_nil, x_var, List.getElem?_cons_zero, List.getElem?_cons_succ, R.bind_ok, List.length_cons, List.length_nil, Nat.reduceAdd, if_true, e2]
      rfl
  have B : b_course_2 [some (planD ls rs), d1, d2, some (.ref pl), some (fr t), some (.tup [fr x, fr y]), x6, x7, x8] S = mSeq (mIfS (mB (mOp isND (mVar 8) (mC .non))) (mRet (mVar 3)) mNext) (mPar 4 5 (mCall 2 m_plus (mCons (mVar 4) (mCons (mVar 8) mNil))) (mCall 3 m_moved (mCons (mVar 5) (mCons (mVar 7) (mCons (mVar 8) mNil))))) [some (planD ls rs), d1, d2, some (.ref pl), some (fr t), some (.tup [fr x, fr y]), some (faceD (mvQ ls rs x y).1), some (ptD (mvQ ls rs x y).2), some (optT (stepQ ls rs x y))] S2 := by
    unfold b_course_2
    rw [x_seq, x_asg]
    simp only [x_call, x_cons, x_nil, x_var, List.getElem?_cons_zero, List.getElem?_cons_succ, R.bind_ok, List.length_cons, List.length_nil, Nat.reduceAdd, if_true, e1, R.to_ok, moveD, x_gTup, x_gCons, x_gN, x_gNil, Option.bind_some, List.set, O.then_nx]
    rw [x_seq, x_drop]
    have hsq : (mMet isL appendD (mVar 3) (mCons (mTup (mCons (mVar 4) (mCons (mVar 5) (mCons (mVar 6) (mCons (mVar 7) mNil))))) mNil)) [some (planD ls rs), d1, d2, some (.ref pl), some (fr t), some (.tup [fr x, fr y]), some (faceD (mvQ ls rs x y).1), some (ptD (mvQ ls rs x y).2), x8] S1 = .ok .non S2 := by
      simp only [x_met, x_var, List.getElem?_cons_zero, List.getElem?_cons_succ, R.bind_ok, isL, lstOf, hS1, Option.isSome_some, if_true, x_cons, x_tup, x_nil, List.length_cons, List.length_nil, ite_size, Nat.reduceAdd, Nat.reduceLeDiff, ap]
    rw [hsq]
    simp only [R.to_ok, O.then_nx]
    rw [x_seq, x_asg, e3]
    simp only [R.to_ok, x_gN, List.set, O.then_nx]
  rw [B]
  cases q : stepQ ls rs x y with
  | none =>
    simp only [x_seq, x_ifS, x_b, x_op, x_var, x_c, List.getElem?_cons_zero, List.getElem?_cons_succ, R.bind_ok, optT, x_isN, isNon, x_toB, R.to_ok, if_true, x_ret, O.then_rt]
  | some s =>
    simp only
    obtain ⟨rs1, _⟩ := hst s hk g q
    have p1 := s_plus S2 rt rs1 (by decide)
    have t1 := s_times S2 mrs.1 rs1 (by decide)
    have t2 := s_times S2 mrs.2 rs1 (by decide)
    have p2 := s_plus S2 rx (mrs.1.mul rs1) (by decide)
    have p3 := s_plus S2 ry (mrs.2.mul rs1) (by decide)
    have mv : m_moved [.tup [fr x, fr y], ptD (mvQ ls rs x y).2, fr s] S2 = .ok (.tup [fr (x + (mvQ ls rs x y).2.1 * s), fr (y + (mvQ ls rs x y).2.2 * s)]) S2 := by
      have P : ptD (mvQ ls rs x y).2 = .tup [fr (mvQ ls rs x y).2.1, fr (mvQ ls rs x y).2.2] := rfl
      rw [P]
      unfold m_moved
      simp only [x_fun, x_ret, start_def, List.map, List.length, Nat.reduceSub, List.replicate, List.append_nil, x_tup, x_call, x_cons, x_nil, x_op, x_var, x_c, List.getElem?_cons_zero, List.getElem?_cons_succ, R.bind_ok, x_ixT, atI_0, atI_1, List.length_cons, List.length_nil, Nat.reduceAdd, if_true, t1, p2, t2, p3, ite_size, Nat.reduceLeDiff, R.to_ok]
    have nf : isNon (fr s) = false := rfl
    simp only [x_seq, x_ifS, x_b, x_op, x_var, x_c, List.getElem?_cons_zero, List.getElem?_cons_succ, R.bind_ok, optT, x_isN, nf, x_toB, R.to_ok, Bool.false_eq_true, if_false, x_next, O.then_nx, x_par, x_call, x_cons, x_nil, List.length_cons, List.length_nil, Nat.reduceAdd, if_true, p1, mv, List.set]
theorem course_loop {pl : Nat} (d1 : Option D) (c : Nat) : ∀ (n k : Nat) (t x y : Rat) (acc : List En) (S : Store) (x6 x7 x8 : Option D), G k t x y → k + n ≤ K → acc.length + n = c + 1 → c ≤ 1000 → S[pl]? = some (.lst (acc.map En.d)) →
    ∃ (r : Fl) (ρ' : Env) (S' : Store), mWhile t_course_1 b_course_2 [some (planD ls rs), d1, some (.int (c : Nat)), some (.ref pl), some (fr t), some (.tup [fr x, fr y]), x6, x7, x8] S = .go r ρ' S' ∧ (r = .rt (.ref pl) ∨ (r = .nx ∧ ρ'[3]? = some (some (.ref pl)))) ∧ S'[pl]? = some (.lst ((acc ++ courseQ ls rs n t x y).map En.d)) ∧ Ext pl S S'
  | 0, k, t, x, y, acc, S, x6, x7, x8, g, hk, hc, hcc, hS => by
    have ln : lenD (.ref pl) S = .ok (.int acc.length) S := by simp [lenD, seqOf, lstOf, hS]
    refine ⟨.nx, [some (planD ls rs), d1, some (.int (c : Nat)), some (.ref pl), some (fr t), some (.tup [fr x, fr y]), x6, x7, x8], S, ?_, .inr ⟨rfl, rfl⟩, by simpa [courseQ] using hS, Ext.refl _ _⟩
    rw [mWhile_eq]
    have cf : ¬ ((acc.length : Nat) : Int) ≤ (c : Nat) := by omega
    unfold t_course_1
    simp only [x_b, x_op, x_cb, x_cons, x_nil, x_var, List.getElem?_cons_zero, List.getElem?_cons_succ, R.bind_ok, one, ln, x_cmp, decide_eq_false cf, x_toB, R.to_ok, Bool.false_eq_true, if_false]
  | n + 1, k, t, x, y, acc, S, x6, x7, x8, g, hk, hc, hcc, hS => by
    have ln : lenD (.ref pl) S = .ok (.int acc.length) S := by simp [lenD, seqOf, lstOf, hS]
    have cf : ((acc.length : Nat) : Int) ≤ (c : Nat) := by omega
    have T : t_course_1 [some (planD ls rs), d1, some (.int (c : Nat)), some (.ref pl), some (fr t), some (.tup [fr x, fr y]), x6, x7, x8] S = .ok true S := by
      unfold t_course_1
      simp only [x_b, x_op, x_cb, x_cons, x_nil, x_var, List.getElem?_cons_zero, List.getElem?_cons_succ, R.bind_ok, one, ln, x_cmp, decide_eq_true cf, x_toB]
    obtain ⟨S1, x1, hS1, B⟩ := course_turn hp hG g acc S hS (by omega) (by omega) d1 (some (.int (c : Nat))) x6 x7 x8
    rw [mWhile_eq, T]
    simp only [R.to_ok, if_true]
    cases q : stepQ ls rs x y with
    | none =>
      rw [q] at B
      rw [B]
      exact ⟨_, _, S1, rfl, .inl rfl, by rw [courseQ, q]; exact hS1, x1⟩
    | some s =>
      rw [q] at B
      obtain ⟨_, g'⟩ := hG.go k t x y s (by omega) g q
      obtain ⟨r, ρ', S2, e, hr, hS2, x2⟩ := course_loop d1 c n (k + 1) _ _ _ (acc ++ [En.mk t x y (mvQ ls rs x y)]) S1 (some (faceD (mvQ ls rs x y).1)) (some (ptD (mvQ ls rs x y).2)) (some (fr s)) g' (by omega) (by simp; omega) hcc hS1
      refine ⟨r, ρ', S2, ?_, hr, ?_, x1.trans x2⟩
      · simp only [B]
        exact e
      · rw [hS2, courseQ, q, List.append_assoc]
        rfl
theorem s_course {c : Nat} (hc : c + 1 ≤ K) (hcc : c ≤ 1000) {x y : Rat} (g : G 0 0 x y) (S : Store) : ∃ S' : Store, m_course [planD ls rs, .tup [fr x, fr y], .int (c : Nat)] S = .ok (.ref S.length) S' ∧ S'[S.length]? = some (.lst ((courseQ ls rs (c + 1) 0 x y).map En.d)) ∧ S.length < S'.length ∧ ∀ i, i < S.length → S'[i]? = S[i]? := by
  obtain ⟨r, ρ', S2, e, hr, hS2, x2⟩ := course_loop hp hG (pl := S.length) (some (.tup [fr x, fr y])) c (c + 1) 0 0 x y [] (S ++ [.lst []]) none none none g (by omega) (by simp) hcc (by simp)
  refine ⟨S2, ?_, by simpa using hS2, ?_, fun i hi => ?_⟩
  · have z : k_ZERO = fr 0 := rfl
    unfold m_course
    simp only [x_fun, x_seq, x_asg, start_def, List.map, List.length, Nat.reduceSub, List.replicate, List.cons_append, List.nil_append, x_new, x_nil, R.bind_ok, ite_size, Nat.zero_le, if_true, R.to_ok, x_gN, List.set, O.then_nx, x_par, x_c, x_var, List.getElem?_cons_zero, List.getElem?_cons_succ, z]
    rw [e]
    rcases hr with rfl | ⟨rfl, h3⟩
    · rfl
    · simp [h3]
  · have := (List.getElem?_eq_some_iff.mp hS2).1
    exact this
  · rw [x2.at_ i (by simp; omega) (by omega), List.getElem?_append_left hi]
/-! by the law -/
theorem entries_turn {pl k : Nat} {t x y : Rat} (g : G k t x y) (acc : List En) (S : Store) (hS : S[pl]? = some (.lst (acc.map En.d))) (hl : acc.length ≤ 10000) (hk : k < K) (d1 d2 x6 x7 x8 x9 x10 : Option D) :
    ∃ S' : Store, Ext pl S S' ∧ S'[pl]? = some (.lst ((acc ++ [En.mk t x y (mvQ ls rs x y)]).map En.d)) ∧
      b_L_entries_3 [some (planD ls rs), d1, d2, some (.ref pl), some (fr t), some (.tup [fr x, fr y]), x6, x7, x8, x9, x10] S = (match stepQ ls rs x y with
        | none => .go (.rt (.lst ((acc ++ [En.mk t x y (mvQ ls rs x y)]).map En.d))) [some (planD ls rs), d1, d2, some (.ref pl), some (fr t), some (.tup [fr x, fr y]), some (faceD (mvQ ls rs x y).1), some (ptD (mvQ ls rs x y).2), some .non, x9, x10] (S'.set pl .dead)
        | some s => .go .nx [some (planD ls rs), d1, d2, some (.ref pl), some (fr (t + s)), some (.tup [fr (x + (mvQ ls rs x y).2.1 * s), fr (y + (mvQ ls rs x y).2.2 * s)]), some (faceD (mvQ ls rs x y).1), some (ptD (mvQ ls rs x y).2), some (fr s), x9, x10] S') := by
  obtain ⟨rt, rx, ry⟩ := hG.sz k t x y g
  have e0 := s_LsidesN hp (by decide) rx ry S
  have e1 := s_Lmove hp (sidesF_len ls x y) S
  have mrs := moveQ_rs hp (sidesF ls x y)
  have mfl : (mvQ ls rs x y).1.length = ls.length := by
    rw [(moveQ_face (ls := ls) (rs := rs) (h := sidesF ls x y) (sides_uni ls x y)).2, sidesF_len]
  have hst := hG.go k t x y
  have e2 := s_Lnext hp (by decide) rx ry mrs.1 mrs.2 mfl (S.set pl (.lst ((acc ++ [En.mk t x y (mvQ ls rs x y)]).map En.d)))
  have hpl := (List.getElem?_eq_some_iff.mp hS).1
  refine ⟨S.set pl (.lst ((acc ++ [En.mk t x y (mvQ ls rs x y)]).map En.d)), Ext.set S _, by rw [List.getElem?_set_self hpl], ?_⟩
  have hS2' : (S.set pl (.lst ((acc ++ [En.mk t x y (mvQ ls rs x y)]).map En.d)))[pl]? = some (.lst ((acc ++ [En.mk t x y (mvQ ls rs x y)]).map En.d)) := by rw [List.getElem?_set_self hpl]
  generalize hS2 : S.set pl (.lst ((acc ++ [En.mk t x y (mvQ ls rs x y)]).map En.d)) = S2 at *
  have ap : appendD (.ref pl) [.tup [fr t, .tup [fr x, fr y], faceD (mvQ ls rs x y).1, ptD (mvQ ls rs x y).2]] S = .ok .non S2 := by
    simp only [appendD, hS]
    rw [if_pos (by rw [List.length_map, show sizeLine = 16777216 from rfl]; omega), ← hS2, List.map_append]
    rfl
  have B : b_L_entries_3 [some (planD ls rs), d1, d2, some (.ref pl), some (fr t), some (.tup [fr x, fr y]), x6, x7, x8, x9, x10] S = mSeq (mIfS (mB (mOp isND (mVar 8) (mC .non))) (mRet (mFrz (mVar 3))) mNext)
      (mSeq (mAsg (mCall 2 m_L_sum (mCons (mVar 4) (mCons (mVar 8) mNil))) (gN 4))
      (mAsg (mCB (one tupleD) (mCons (mLc [9, 10] (mZip (mVar 5) (mVar 7)) (gTupM 2 (gConsM (gN 9) (gConsM (gN 10) gNilM))) mYes e_L_entries_1) mNil)) (gN 5))) [some (planD ls rs), d1, d2, some (.ref pl), some (fr t), some (.tup [fr x, fr y]), some (faceD (mvQ ls rs x y).1), some (ptD (mvQ ls rs x y).2), some (optT (stepQ ls rs x y)), x9, x10] S2 := by
    unfold b_L_entries_3
    rw [x_seq, x_asg]
    simp only [x_call, x_cons, x_nil, x_var, List.getElem?_cons_zero, List.getElem?_cons_succ, R.bind_ok, List.length_cons, List.length_nil, Nat.reduceAdd, if_true, e0, e1, R.to_ok, moveD, x_gTup, x_gCons, x_gN, x_gNil, Option.bind_some, List.set, O.then_nx]
    rw [x_seq, x_drop]
    have hsq : (mMet isL appendD (mVar 3) (mCons (mTup (mCons (mVar 4) (mCons (mVar 5) (mCons (mVar 6) (mCons (mVar 7) mNil))))) mNil)) [some (planD ls rs), d1, d2, some (.ref pl), some (fr t), some (.tup [fr x, fr y]), some (faceD (mvQ ls rs x y).1), some (ptD (mvQ ls rs x y).2), x8, x9, x10] S = .ok .non S2 := by
      simp only [x_met, x_var, List.getElem?_cons_zero, List.getElem?_cons_succ, R.bind_ok, isL, lstOf, hS, Option.isSome_some, if_true, x_cons, x_tup, x_nil, List.length_cons, List.length_nil, ite_size, Nat.reduceAdd, Nat.reduceLeDiff, ap]
    rw [hsq]
    simp only [R.to_ok, O.then_nx]
    have e3 : mCall 4 m_L_next (mCons (mVar 0) (mCons (mVar 5) (mCons (mVar 6) (mCons (mVar 7) mNil)))) [some (planD ls rs), d1, d2, some (.ref pl), some (fr t), some (.tup [fr x, fr y]), some (faceD (mvQ ls rs x y).1), some (ptD (mvQ ls rs x y).2), x8, x9, x10] S2 = .ok (optT (stepQ ls rs x y)) S2 := by
      have P : ptD (mvQ ls rs x y).2 = .tup [fr (mvQ ls rs x y).2.1, fr (mvQ ls rs x y).2.2] := rfl
      rw [P]
      simp only [x_call, x_cons, x_nil, x_var, List.getElem?_cons_zero, List.getElem?_cons_succ, R.bind_ok, List.length_cons, List.length_nil, Nat.reduceAdd, if_true, e2]
      rfl
    rw [x_seq, x_asg, e3]
    simp only [R.to_ok, x_gN, List.set, O.then_nx]
  rw [B]
  cases q : stepQ ls rs x y with
  | none =>
    simp only [x_seq, x_ifS, x_b, x_op, x_var, x_c, List.getElem?_cons_zero, List.getElem?_cons_succ, R.bind_ok, optT, x_isN, isNon, x_toB, R.to_ok, if_true, x_ret, x_frz, frzD, hS2', O.then_rt]
  | some s =>
    simp only
    obtain ⟨rs1, _⟩ := hst s hk g q
    have p1 := s_Lsum S2 rt rs1 (by decide)
    have t1 := s_Lproduct S2 mrs.1 rs1 (by decide)
    have t2 := s_Lproduct S2 mrs.2 rs1 (by decide)
    have p2 := s_Lsum S2 rx (mrs.1.mul rs1) (by decide)
    have p3 := s_Lsum S2 ry (mrs.2.mul rs1) (by decide)
    have nf : isNon (fr s) = false := rfl
    have P : ptD (mvQ ls rs x y).2 = .tup [fr (mvQ ls rs x y).2.1, fr (mvQ ls rs x y).2.2] := rfl
    have E : ∀ (f q : Rat) (ρ8 : Option D) , (∃ r, m_L_product [fr q, fr s] S2 = .ok (fr (q * s)) S2 ∧ m_L_sum [fr f, fr (q * s)] S2 = .ok (fr r) S2) → True := fun _ _ _ _ => trivial
    have cm : mLc [9, 10] (mZip (mVar 5) (mVar 7)) (gTupM 2 (gConsM (gN 9) (gConsM (gN 10) gNilM))) mYes e_L_entries_1 [some (planD ls rs), d1, d2, some (.ref pl), some (fr (t + s)), some (.tup [fr x, fr y]), some (faceD (mvQ ls rs x y).1), some (ptD (mvQ ls rs x y).2), some (fr s), x9, x10] S2 = .ok (.lst [fr (x + (mvQ ls rs x y).2.1 * s), fr (y + (mvQ ls rs x y).2.2 * s)]) S2 := by
      rw [P]
      unfold e_L_entries_1
      simp [mZip, zipL, mLcL, sizeLine, wipeD, t1, t2, p2, p3, fzL]
    simp only [x_seq, x_ifS, x_b, x_op, x_var, x_c, List.getElem?_cons_zero, List.getElem?_cons_succ, R.bind_ok, optT, x_isN, nf, x_toB, R.to_ok, Bool.false_eq_true, if_false, x_next, O.then_nx, x_asg, x_call, x_cons, x_nil, List.length_cons, List.length_nil, Nat.reduceAdd, if_true, p1, x_gN, List.set, x_cb, cm, one, x_tupL]
theorem entries_loop {pl : Nat} (d1 : Option D) (c : Nat) : ∀ (n k : Nat) (t x y : Rat) (acc : List En) (S : Store) (x6 x7 x8 x9 x10 : Option D), G k t x y → k + n ≤ K → acc.length + n = c + 1 → c ≤ 1000 → S[pl]? = some (.lst (acc.map En.d)) →
    ∃ (r : Fl) (ρ' : Env) (S' : Store), mWhile t_L_entries_2 b_L_entries_3 [some (planD ls rs), d1, some (.int (c : Nat)), some (.ref pl), some (fr t), some (.tup [fr x, fr y]), x6, x7, x8, x9, x10] S = .go r ρ' S' ∧ (r = .rt (.lst ((acc ++ courseQ ls rs n t x y).map En.d)) ∨ (r = .nx ∧ ρ'[3]? = some (some (.ref pl)) ∧ S'[pl]? = some (.lst ((acc ++ courseQ ls rs n t x y).map En.d)))) ∧ Ext pl S S'
  | 0, k, t, x, y, acc, S, x6, x7, x8, x9, x10, g, hk, hc, hcc, hS => by
    have ln : lenD (.ref pl) S = .ok (.int acc.length) S := by simp [lenD, seqOf, lstOf, hS]
    refine ⟨.nx, [some (planD ls rs), d1, some (.int (c : Nat)), some (.ref pl), some (fr t), some (.tup [fr x, fr y]), x6, x7, x8, x9, x10], S, ?_, .inr ⟨rfl, rfl, by simpa [courseQ] using hS⟩, Ext.refl _ _⟩
    rw [mWhile_eq]
    have cf : ¬ ((acc.length : Nat) : Int) ≤ (c : Nat) := by omega
    unfold t_L_entries_2
    simp only [x_b, x_op, x_cb, x_cons, x_nil, x_var, List.getElem?_cons_zero, List.getElem?_cons_succ, R.bind_ok, one, ln, x_cmp, decide_eq_false cf, x_toB, R.to_ok, Bool.false_eq_true, if_false]
  | n + 1, k, t, x, y, acc, S, x6, x7, x8, x9, x10, g, hk, hc, hcc, hS => by
    have ln : lenD (.ref pl) S = .ok (.int acc.length) S := by simp [lenD, seqOf, lstOf, hS]
    have cf : ((acc.length : Nat) : Int) ≤ (c : Nat) := by omega
    have T : t_L_entries_2 [some (planD ls rs), d1, some (.int (c : Nat)), some (.ref pl), some (fr t), some (.tup [fr x, fr y]), x6, x7, x8, x9, x10] S = .ok true S := by
      unfold t_L_entries_2
      simp only [x_b, x_op, x_cb, x_cons, x_nil, x_var, List.getElem?_cons_zero, List.getElem?_cons_succ, R.bind_ok, one, ln, x_cmp, decide_eq_true cf, x_toB]
    obtain ⟨S1, x1, hS1, B⟩ := entries_turn hp hG g acc S hS (by omega) (by omega) d1 (some (.int (c : Nat))) x6 x7 x8 x9 x10
    rw [mWhile_eq, T]
    simp only [R.to_ok, if_true]
    cases q : stepQ ls rs x y with
    | none =>
      rw [q] at B
      rw [B]
      exact ⟨_, _, S1.set pl .dead, rfl, .inl (by rw [courseQ, q]), x1.trans (Ext.set S1 _)⟩
    | some s =>
      rw [q] at B
      obtain ⟨_, g'⟩ := hG.go k t x y s (by omega) g q
      obtain ⟨r, ρ', S2, e, hr, x2⟩ := entries_loop d1 c n (k + 1) _ _ _ (acc ++ [En.mk t x y (mvQ ls rs x y)]) S1 (some (faceD (mvQ ls rs x y).1)) (some (ptD (mvQ ls rs x y).2)) (some (fr s)) x9 x10 g' (by omega) (by simp; omega) hcc hS1
      have ce : acc ++ courseQ ls rs (n + 1) t x y = acc ++ [En.mk t x y (mvQ ls rs x y)] ++ courseQ ls rs n (t + s) (x + (mvQ ls rs x y).2.1 * s) (y + (mvQ ls rs x y).2.2 * s) := by
        rw [courseQ, q, List.append_assoc]; rfl
      refine ⟨r, ρ', S2, ?_, by rw [ce]; exact hr, x1.trans x2⟩
      simp only [B]
      exact e
theorem s_entries {c : Nat} (hc : c + 1 ≤ K) (hcc : c ≤ 1000) {x y : Rat} (g : G 0 0 x y) (S : Store) : ∃ S' : Store, m_L_entries [planD ls rs, .tup [fr x, fr y], .int (c : Nat)] S = .ok (.lst ((courseQ ls rs (c + 1) 0 x y).map En.d)) S' ∧ S.length < S'.length ∧ ∀ i, i < S.length → S'[i]? = S[i]? := by
  obtain ⟨r, ρ', S2, e, hr, x2⟩ := entries_loop hp hG (pl := S.length) (some (.tup [fr x, fr y])) c (c + 1) 0 0 x y [] (S ++ [.lst []]) none none none none none g (by omega) (by simp) hcc (by simp)
  have z : D.tup [.int 0, .int 1] = fr 0 := rfl
  have HEAD : m_L_entries [planD ls rs, .tup [fr x, fr y], .int (c : Nat)] S = (match (O.go r ρ' S2).then (mRet (mFrz (mVar 3))) with
      | .go .nx _ S => .ok .non S
      | .go (.rt d) _ S => .ok d S
      | .go (.ex e) _ S => .exn e S
      | _ => .stuck) := by
    unfold m_L_entries
    simp only [x_fun, x_seq, x_asg, start_def, List.map, List.length, Nat.reduceSub, List.replicate, List.cons_append, List.nil_append, x_new, x_nil, R.bind_ok, ite_size, Nat.zero_le, if_true, R.to_ok, x_gN, List.set, O.then_nx, x_par, x_tup, x_cons, x_c, List.length_cons, List.length_nil, Nat.reduceAdd, Nat.reduceLeDiff, x_var, List.getElem?_cons_zero, List.getElem?_cons_succ, z]
    rw [e]
    all_goals rfl
  have l1 : S.length < S2.length := by have := x2.len; simp at this; omega
  have at_ : ∀ i, i < S.length → S2[i]? = S[i]? := fun i hi => by
    rw [x2.at_ i (by simp; omega) (by omega), List.getElem?_append_left hi]
  rw [HEAD]
  rcases hr with rfl | ⟨rfl, h3, h4⟩
  · exact ⟨S2, by simp, l1, at_⟩
  · refine ⟨S2.set S.length .dead, ?_, by simpa using l1, fun i hi => by rw [List.getElem?_set_ne (by omega)]; exact at_ i hi⟩
    simp only [O.then_nx, x_ret, x_frz, x_var, h3, R.bind_ok, frzD, h4, R.to_ok, List.nil_append]
end
end DL

/-! Plain laws: how large the numbers of a course become. -/
namespace DL
open PySem PySem.Spec PyProof.Rows L2
def Ab (n : Nat) (z : Int) : Prop := z.natAbs ≤ n
theorem Ab.mul {m n : Nat} {x y : Int} (h : Ab m x) (k : Ab n y) : Ab (m * n) (x * y) := by
  unfold Ab at *
  rw [Int.natAbs_mul]
  exact Nat.mul_le_mul h k
theorem Ab.add {m n : Nat} {x y : Int} (h : Ab m x) (k : Ab n y) : Ab (m + n) (x + y) := by
  unfold Ab at *; omega
theorem Ab.sub {m n : Nat} {x y : Int} (h : Ab m x) (k : Ab n y) : Ab (m + n) (x - y) := by
  unfold Ab at *; omega
theorem Ab.le {m n : Nat} {x : Int} (h : Ab m x) (k : m ≤ n) : Ab n x := Nat.le_trans h k
/-- a line with whole numbers -/
def LnB (a0 c0 : Nat) (l : Ln) : Prop := ∃ A B C L : Int, L ≠ 0 ∧ l.a * L = A ∧ l.b * L = B ∧ l.c * L = C ∧ Ab a0 A ∧ Ab a0 B ∧ Ab c0 C
/-- a drift with whole numbers -/
def DrB (d0 m0 : Nat) (z : Rat × Rat) : Prop := ∃ X Y M : Int, M ≠ 0 ∧ z.1 * M = X ∧ z.2 * M = Y ∧ Ab d0 X ∧ Ab d0 Y ∧ Ab m0 M
/-- a time and a point with whole numbers -/
def PtB (N h : Nat) (t x y : Rat) : Prop := ∃ X Y T E : Int, E ≠ 0 ∧ x * E = X ∧ y * E = Y ∧ t * E = T ∧ Ab N X ∧ Ab N Y ∧ Ab (N * h) T ∧ Ab N E
theorem rs_of {n : Nat} {x : Rat} {X E : Int} (h0 : E ≠ 0) (h : x * E = X) (h1 : X.natAbs < 2 ^ n) (h2 : E.natAbs < 2 ^ n) (hn : 0 < n) : RS n x := by
  have e : x = Rat.divInt X E := by
    have hE : (E : Rat) ≠ 0 := by
      intro z
      exact h0 (by simpa using z)
    rw [Rat.divInt_eq_div, ← h]
    grind
  rw [e]
  exact RS.divInt h1 h2 hn
theorem DrB.le {d0 m0 d1 m1 : Nat} {z : Rat × Rat} (h : DrB d0 m0 z) (hd : d0 ≤ d1) (hm : m0 ≤ m1) : DrB d1 m1 z := by
  obtain ⟨X, Y, M, h0, h1, h2, h3, h4, h5⟩ := h
  exact ⟨X, Y, M, h0, h1, h2, h3.le hd, h4.le hd, h5.le hm⟩
theorem castne {E : Int} (h : E ≠ 0) : (E : Rat) ≠ 0 := fun z => h (by simpa using z)
theorem edge_b {a0 c0 d0 m0 : Nat} (ha : 1 ≤ a0) (hd : 1 ≤ d0) (hm : 1 ≤ m0) {l : Ln} (hl : LnB a0 c0 l) {a b : Rl} (h1 : DrB d0 m0 (a.p, a.q)) (h2 : DrB d0 m0 (b.p, b.q)) {z : Rat × Rat} (h : edgeQ l a b = some z) : DrB (2 * a0 * (d0 * d0)) (4 * a0 * d0 * m0) z := by
  have le1 : d0 ≤ 2 * a0 * (d0 * d0) := by
    calc d0 = 1 * (1 * d0) := by omega
      _ ≤ 2 * a0 * (d0 * d0) := Nat.mul_le_mul (by omega) (Nat.mul_le_mul hd (Nat.le_refl _))
  have le2 : m0 ≤ 4 * a0 * d0 * m0 := by
    calc m0 = 1 * 1 * m0 := by omega
      _ ≤ 4 * a0 * d0 * m0 := Nat.mul_le_mul (Nat.mul_le_mul (by omega) hd) (Nat.le_refl _)
  unfold edgeQ at h
  split at h
  · cases h
  · split at h
    · cases h
      exact h1.le le1 le2
    · rename_i hne
      cases h
      obtain ⟨A, B, C, L, hL, ea, eb, ec, b1, b2, b3⟩ := hl
      obtain ⟨X1, Y1, M1, hM1, x1, y1, p1, p2, p3⟩ := h1
      obtain ⟨X2, Y2, M2, hM2, x2, y2, q1, q2, q3⟩ := h2
      simp only at x1 y1 x2 y2
      have cL := castne hL
      have c1 := castne hM1
      have c2 := castne hM2
      have hw : (l.a * b.p + l.b * b.q) - (l.a * a.p + l.b * a.q) ≠ 0 := fun z => hne (by grind)
      generalize hP : l.a * a.p + l.b * a.q = p at *
      generalize hQ : l.a * b.p + l.b * b.q = q at *
      have eM : (((A * X2 + B * Y2) * M1 - (A * X1 + B * Y1) * M2 : Int) : Rat) = (q - p) * (L * M1 * M2) := by
        simp only [Rat.intCast_sub, Rat.intCast_mul, Rat.intCast_add]
        rw [← ea, ← eb, ← x1, ← y1, ← x2, ← y2, ← hP, ← hQ]
        grind
      refine ⟨B * (Y2 * X1 - Y1 * X2), A * (X2 * Y1 - X1 * Y2), (A * X2 + B * Y2) * M1 - (A * X1 + B * Y1) * M2, ?_, ?_, ?_, ?_, ?_, ?_⟩
      · intro z
        rw [z] at eM
        have : (q - p) * ((L : Rat) * M1 * M2) = 0 := by rw [← eM]; simp
        grind
      · rw [eM]
        simp only [Rat.intCast_sub, Rat.intCast_mul]
        rw [← eb, ← x1, ← y1, ← x2, ← y2]
        grind
      · rw [eM]
        simp only [Rat.intCast_sub, Rat.intCast_mul]
        rw [← ea, ← x1, ← y1, ← x2, ← y2]
        grind
      · exact (b2.mul ((q2.mul p1).sub (p2.mul q1))).le (by rw [Nat.mul_comm 2, Nat.mul_assoc]; exact Nat.mul_le_mul_left _ (by omega))
      · exact (b1.mul ((q1.mul p2).sub (p1.mul q2))).le (by rw [Nat.mul_comm 2, Nat.mul_assoc]; exact Nat.mul_le_mul_left _ (by omega))
      · refine ((((b1.mul q1).add (b2.mul q2)).mul p3).sub (((b1.mul p1).add (b2.mul p2)).mul q3)).le ?_
        have : (a0 * d0 + a0 * d0) * m0 + (a0 * d0 + a0 * d0) * m0 = 4 * a0 * d0 * m0 := by grind
        omega
structure PlB (ls : List Ln) (rs : List Rl) (a0 c0 d0 m0 : Nat) : Prop where
  ln : ∀ l ∈ ls, LnB a0 c0 l
  dr : ∀ r ∈ rs, DrB d0 m0 (r.p, r.q)
theorem next_some : ∀ (ls : List Ln) (x y dx dy : Rat) (f : List Int) (b : Option Rat) (s : Rat), nextQ ls x y dx dy f b = some s → b = some s ∨ ∃ l ∈ ls, l.a * dx + l.b * dy ≠ 0 ∧ s = -(l.a * x + l.b * y - l.c) / (l.a * dx + l.b * dy)
  | [], x, y, dx, dy, f, b, s, h => by cases f <;> exact .inl h
  | l :: ls, x, y, dx, dy, [], b, s, h => .inl h
  | l :: ls, x, y, dx, dy, v :: f, b, s, h => by
    rw [nextQ] at h
    rcases next_some ls x y dx dy f _ s h with h | ⟨m, hm, h⟩
    · unfold bestQ crossT at h
      split at h
      · exact .inl h
      · rename_i t q
        split at q
        · rename_i hc
          cases q
          have ne : l.a * dx + l.b * dy ≠ 0 := fun z => by
            rw [z] at hc
            simp at hc
          split at h
          · cases h
            exact .inr ⟨l, List.mem_cons_self, ne, rfl⟩
          · split at h
            · cases h
              exact .inr ⟨l, List.mem_cons_self, ne, rfl⟩
            · exact .inl h
        · cases q
    · exact .inr ⟨m, List.mem_cons_of_mem _ hm, h⟩
theorem step_b {a0 c0 d1 m1 N h g : Nat} {l : Ln} (hl : LnB a0 c0 l) {z : Rat × Rat} (hz : DrB d1 m1 z) {t x y s : Rat} (hp : PtB N h t x y) (ne : l.a * z.1 + l.b * z.2 ≠ 0) (hs : s = -(l.a * x + l.b * y - l.c) / (l.a * z.1 + l.b * z.2))
    (hg : d1 * (2 * a0 + c0) ≤ g) (hg2 : 2 * a0 * d1 + 1 ≤ g) (hh : m1 * (2 * a0 + c0) ≤ h) : PtB (N * g) h (t + s) (x + z.1 * s) (y + z.2 * s) ∧ ∃ T E : Int, E ≠ 0 ∧ s * E = T ∧ Ab (N * h) T ∧ Ab (N * g) E := by
  obtain ⟨A, B, C, L, hL, ea, eb, ec, b1, b2, b3⟩ := hl
  obtain ⟨U, V, M, hM, eu, ev, u1, u2, u3⟩ := hz
  obtain ⟨X, Y, T, E, hE, ex, ey, et, n1, n2, n3, n4⟩ := hp
  have cL := castne hL
  have cM := castne hM
  have cE := castne hE
  generalize hv : l.a * z.1 + l.b * z.2 = v at *
  have sv : s * v = -(l.a * x + l.b * y - l.c) := by rw [hs]; grind
  have eF : ((A * U + B * V : Int) : Rat) = v * (L * M) := by
    simp only [Rat.intCast_mul, Rat.intCast_add]
    rw [← ea, ← eb, ← eu, ← ev, ← hv]
    grind
  have hF : A * U + B * V ≠ 0 := fun q => by
    rw [q] at eF
    have : v * ((L : Rat) * M) = 0 := by rw [← eF]; simp
    grind
  have hEF : E * (A * U + B * V) ≠ 0 := Int.mul_ne_zero hE hF
  have Fb : Ab (2 * a0 * d1) (A * U + B * V) := ((b1.mul u1).add (b2.mul u2)).le (by rw [Nat.mul_assoc]; omega)
  have W : s * ((E * (A * U + B * V) : Int) : Rat) = ((M * (C * E - A * X - B * Y) : Int) : Rat) := by
    simp only [Rat.intCast_mul, Rat.intCast_sub]
    rw [eF, ← ea, ← eb, ← ec, ← ex, ← ey]
    have : s * (E * (v * (L * M))) = (s * v) * (E * L * M) := by grind
    rw [this, sv]
    grind
  have Wb : Ab (N * h) (M * (C * E - A * X - B * Y)) := by
    refine (u3.mul (((b3.mul n4).sub (b1.mul n1)).sub (b2.mul n2))).le ?_
    calc m1 * (c0 * N + a0 * N + a0 * N) = N * (m1 * (2 * a0 + c0)) := by grind
      _ ≤ N * h := Nat.mul_le_mul_left _ hh
  refine ⟨⟨B * (V * X - U * Y) + U * C * E, A * (U * Y - V * X) + V * C * E, T * (A * U + B * V) + M * (C * E - A * X - B * Y), E * (A * U + B * V), hEF, ?_, ?_, ?_, ?_, ?_, ?_, ?_⟩, ⟨M * (C * E - A * X - B * Y), E * (A * U + B * V), hEF, W, Wb, ?_⟩⟩
  · have W' : z.1 * s * ((E * (A * U + B * V) : Int) : Rat) = ((U * (C * E - A * X - B * Y) : Int) : Rat) := by
      rw [Rat.mul_assoc, W]
      simp only [Rat.intCast_mul, Rat.intCast_sub]
      rw [← eu]
      grind
    rw [Rat.add_mul, W']
    simp only [Rat.intCast_mul, Rat.intCast_sub, Rat.intCast_add]
    rw [← ex, ← ey]
    grind
  · have W' : z.2 * s * ((E * (A * U + B * V) : Int) : Rat) = ((V * (C * E - A * X - B * Y) : Int) : Rat) := by
      rw [Rat.mul_assoc, W]
      simp only [Rat.intCast_mul, Rat.intCast_sub]
      rw [← ev]
      grind
    rw [Rat.add_mul, W']
    simp only [Rat.intCast_mul, Rat.intCast_sub, Rat.intCast_add]
    rw [← ex, ← ey]
    grind
  · rw [Rat.add_mul, W]
    simp only [Rat.intCast_mul, Rat.intCast_sub, Rat.intCast_add]
    rw [← et]
    grind
  · refine ((b2.mul ((u2.mul n1).sub (u1.mul n2))).add ((u1.mul b3).mul n4)).le ?_
    calc a0 * (d1 * N + d1 * N) + d1 * c0 * N = N * (d1 * (2 * a0 + c0)) := by grind
      _ ≤ N * g := Nat.mul_le_mul_left _ hg
  · refine ((b1.mul ((u1.mul n2).sub (u2.mul n1))).add ((u2.mul b3).mul n4)).le ?_
    calc a0 * (d1 * N + d1 * N) + d1 * c0 * N = N * (d1 * (2 * a0 + c0)) := by grind
      _ ≤ N * g := Nat.mul_le_mul_left _ hg
  · refine ((n3.mul Fb).add Wb).le ?_
    calc N * h * (2 * a0 * d1) + N * h = N * h * (2 * a0 * d1 + 1) := by grind
      _ ≤ N * h * g := Nat.mul_le_mul_left _ hg2
      _ = N * g * h := by grind
  · exact (n4.mul Fb).le (Nat.mul_le_mul_left _ (by omega))
  · exact (n4.mul Fb).le (Nat.mul_le_mul_left _ (by omega))
theorem drift_b {ls : List Ln} {rs : List Rl} {a0 c0 d0 m0 : Nat} (hb : PlB ls rs a0 c0 d0 m0) (ha : 1 ≤ a0) (hd : 1 ≤ d0) (hm : 1 ≤ m0) {f : List Int} {z : Rat × Rat} (h : driftQ ls rs f = some z) : DrB (2 * a0 * (d0 * d0)) (4 * a0 * d0 * m0) z := by
  have le1 : d0 ≤ 2 * a0 * (d0 * d0) := by
    calc d0 = 1 * (1 * d0) := by omega
      _ ≤ 2 * a0 * (d0 * d0) := Nat.mul_le_mul (by omega) (Nat.mul_le_mul hd (Nat.le_refl _))
  have le2 : m0 ≤ 4 * a0 * d0 * m0 := by
    calc m0 = 1 * 1 * m0 := by omega
      _ ≤ 4 * a0 * d0 * m0 := Nat.mul_le_mul (Nat.mul_le_mul (by omega) hd) (Nat.le_refl _)
  have fr : ∀ {fs : List Int} {r : Rl}, firstR ls fs rs = some r → DrB d0 m0 (r.p, r.q) := fun e => hb.dr _ (List.mem_of_find?_eq_some e)
  unfold driftQ at h
  split at h
  · cases q : firstR ls f rs with
    | none => rw [q] at h; cases h
    | some r =>
      rw [q] at h
      cases h
      exact (fr q).le le1 le2
  · split at h
    · split at h
      · rename_i j _
        split at h
        · rename_i l a b e1 e2 e3
          exact edge_b ha hd hm (hb.ln l (List.mem_of_getElem? e1)) (fr e2) (fr e3) h
        · cases h
      · cases h
    · cases h
theorem move_b {ls : List Ln} {rs : List Rl} {a0 c0 d0 m0 : Nat} (hb : PlB ls rs a0 c0 d0 m0) (ha : 1 ≤ a0) (hd : 1 ≤ d0) (hm : 1 ≤ m0) (h : List Int) : DrB (2 * a0 * (d0 * d0)) (4 * a0 * d0 * m0) (moveQ ls rs h).2 := by
  have z : DrB (2 * a0 * (d0 * d0)) (4 * a0 * d0 * m0) (0, 0) := by
    refine ⟨0, 0, 1, by decide, by simp, by simp, Nat.zero_le _, Nat.zero_le _, ?_⟩
    have : 1 * 1 * 1 * 1 ≤ 4 * a0 * d0 * m0 := Nat.mul_le_mul (Nat.mul_le_mul (Nat.mul_le_mul (by decide) ha) hd) hm
    simpa [Ab] using this
  unfold moveQ
  cases q : (patF h ++ edgF h).find? fun f => fitsQ ls rs f (zerosF h) with
  | none => exact z
  | some f =>
    cases q2 : driftQ ls rs f with
    | none => simp only [q2]; exact z
    | some w => simp only [q2]; exact drift_b hb ha hd hm q2
theorem ab_lt {n : Nat} {N : Nat} {z : Int} (h : Ab N z) (k : N < 2 ^ n) : z.natAbs < 2 ^ n := Nat.lt_of_le_of_lt h k
theorem good_of {ls : List Ln} {rs : List Rl} {a0 c0 d0 m0 : Nat} (hb : PlB ls rs a0 c0 d0 m0) (ha : 1 ≤ a0) (hd : 1 ≤ d0) (hm : 1 ≤ m0) {K N0 h g : Nat}
    (hg : 2 * a0 * (d0 * d0) * (2 * a0 + c0) ≤ g) (hg2 : 2 * a0 * (2 * a0 * (d0 * d0)) + 1 ≤ g) (hh : 4 * a0 * d0 * m0 * (2 * a0 + c0) ≤ h) (hh1 : 1 ≤ h) (hsz : N0 * g ^ K * h < 2 ^ 4250) :
    Good ls rs K fun k t x y => k ≤ K ∧ PtB (N0 * g ^ k) h t x y := by
  have g1 : 1 ≤ g := by omega
  have szk : ∀ k, k ≤ K → N0 * g ^ k * h < 2 ^ 4250 := fun k hk => by
    refine Nat.lt_of_le_of_lt ?_ hsz
    exact Nat.mul_le_mul_right _ (Nat.mul_le_mul_left _ (Nat.pow_le_pow_right g1 hk))
  have sz' : ∀ k, k ≤ K → N0 * g ^ k < 2 ^ 4250 := fun k hk => by
    refine Nat.lt_of_le_of_lt ?_ (szk k hk)
    exact Nat.le_mul_of_pos_right _ hh1
  refine ⟨fun k t x y ⟨hk, X, Y, T, E, hE, ex, ey, et, n1, n2, n3, n4⟩ => ?_, fun k t x y s hk ⟨_, hp⟩ hs => ?_⟩
  · exact ⟨rs_of hE et (ab_lt n3 (szk k hk)) (ab_lt n4 (sz' k hk)) (by decide), rs_of hE ex (ab_lt n1 (sz' k hk)) (ab_lt n4 (sz' k hk)) (by decide), rs_of hE ey (ab_lt n2 (sz' k hk)) (ab_lt n4 (sz' k hk)) (by decide)⟩
  · unfold stepQ at hs
    rcases next_some ls x y _ _ _ none s hs with q | ⟨l, hl, ne, e⟩
    · cases q
    · obtain ⟨h1, T, E, hE, et, n3, n4⟩ := step_b (hb.ln l hl) (move_b hb ha hd hm (sidesF ls x y)) hp ne e hg hg2 hh
      rw [Nat.mul_assoc, ← Nat.pow_succ] at h1 n4
      refine ⟨rs_of hE et (ab_lt n3 (szk k (by omega))) (ab_lt n4 (sz' (k + 1) (by omega))) (by decide), by omega, h1⟩
/-! ### plans of small numbers -/
theorem num_den (q : Rat) : q * (q.den : Int) = (q.num : Rat) := by
  have h := Rat.num_divInt_den q
  rw [Rat.divInt_eq_div] at h
  have d : ((q.den : Int) : Rat) ≠ 0 := fun z => q.den_nz (by simpa using z)
  grind
theorem sz_ab {n : Nat} {z : Int} (h : Sz n z) : Ab (2 ^ n) z := Nat.le_of_lt h
theorem ln_b {l : Ln} (o : l.Ok) : LnB (2 ^ 24) (2 ^ 24) l := by
  refine ⟨l.a.num * l.b.den * l.c.den, l.b.num * l.a.den * l.c.den, l.c.num * l.a.den * l.b.den, l.a.den * l.b.den * l.c.den, ?_, ?_, ?_, ?_, ?_, ?_, ?_⟩
  · exact Int.mul_ne_zero (Int.mul_ne_zero (den_ne _) (den_ne _)) (den_ne _)
  · simp only [Rat.intCast_mul]
    have := num_den l.a
    grind
  · simp only [Rat.intCast_mul]
    have := num_den l.b
    grind
  · simp only [Rat.intCast_mul]
    have := num_den l.c
    grind
  · exact (((sz_ab o.a.1).mul (sz_ab o.b.den)).mul (sz_ab o.c.den)).le (by decide)
  · exact (((sz_ab o.b.1).mul (sz_ab o.a.den)).mul (sz_ab o.c.den)).le (by decide)
  · exact (((sz_ab o.c.1).mul (sz_ab o.a.den)).mul (sz_ab o.b.den)).le (by decide)
theorem dr_b {p q : Rat} (h1 : RS 5 p) (h2 : RS 5 q) : DrB (2 ^ 10) (2 ^ 10) (p, q) := by
  refine ⟨p.num * q.den, q.num * p.den, p.den * q.den, ?_, ?_, ?_, ?_, ?_, ?_⟩
  · exact Int.mul_ne_zero (den_ne _) (den_ne _)
  · simp only [Rat.intCast_mul]
    have := num_den p
    grind
  · simp only [Rat.intCast_mul]
    have := num_den q
    grind
  · exact ((sz_ab h1.1).mul (sz_ab h2.den)).le (by decide)
  · exact ((sz_ab h2.1).mul (sz_ab h1.den)).le (by decide)
  · exact ((sz_ab h1.den).mul (sz_ab h2.den)).le (by decide)
theorem pl_b {ls : List Ln} {rs : List Rl} (hp : PlOk ls rs) : PlB ls rs (2 ^ 24) (2 ^ 24) (2 ^ 10) (2 ^ 10) := ⟨fun l hl => ln_b (hp.ln l hl), fun r hr => dr_b (hp.rl r hr).p (hp.rl r hr).q⟩
theorem pt_b {x y : Rat} (h1 : RS 70 x) (h2 : RS 70 y) (h : Nat) : PtB (2 ^ 140) h 0 x y := by
  refine ⟨x.num * y.den, y.num * x.den, 0, x.den * y.den, ?_, ?_, ?_, by simp, ?_, ?_, Nat.zero_le _, ?_⟩
  · exact Int.mul_ne_zero (den_ne _) (den_ne _)
  · simp only [Rat.intCast_mul]
    have := num_den x
    grind
  · simp only [Rat.intCast_mul]
    have := num_den y
    grind
  · exact ((sz_ab h1.1).mul (sz_ab h2.den)).le (by decide)
  · exact ((sz_ab h2.1).mul (sz_ab h1.den)).le (by decide)
  · exact ((sz_ab h1.den).mul (sz_ab h2.den)).le (by decide)
/-- short courses of any drawn plan -/
theorem good_small {ls : List Ln} {rs : List Rl} (hp : PlOk ls rs) : Good ls rs 40 fun k t x y => k ≤ 40 ∧ PtB (2 ^ 140 * (2 ^ 72) ^ k) (2 ^ 74) t x y :=
  good_of (pl_b hp) (by decide) (by decide) (by decide) (by decide) (by decide) (by decide) (by decide) (by decide +kernel)
/-- long ones of plans with smaller numbers -/
theorem good_long {ls : List Ln} {rs : List Rl} (hb : PlB ls rs 27 24 9 9) : Good ls rs 201 fun k t x y => k ≤ 201 ∧ PtB (2 ^ 140 * (2 ^ 20) ^ k) (2 ^ 20) t x y :=
  good_of hb (by decide) (by decide) (by decide) (by decide) (by decide) (by decide) (by decide) (by decide +kernel)
end DL

/-! Plain laws: wheels and strips that are drawn. -/
namespace DL
open PySem PySem.Spec PyProof.Rows L2
/-- a quotient of small numbers -/
def Qu (n d : Nat) (q : Rat) : Prop := ∃ t w : Int, q = Rat.divInt t w ∧ t.natAbs ≤ n ∧ 1 ≤ w ∧ w ≤ d
theorem Qu.rs {n d k : Nat} {q : Rat} (h : Qu n d q) (hn : n < 2 ^ k) (hd : d < 2 ^ k) (hk : 0 < k) : RS k q := by
  obtain ⟨t, w, rfl, h1, h2, h3⟩ := h
  exact RS.divInt (show t.natAbs < 2 ^ k by omega) (show w.natAbs < 2 ^ k by omega) hk
theorem Qu.neg {n d : Nat} {q : Rat} (h : Qu n d q) : Qu n d (-q) := by
  obtain ⟨t, w, rfl, h1, h2, h3⟩ := h
  refine ⟨-t, w, ?_, by omega, h2, h3⟩
  rw [Rat.divInt_eq_div, Rat.divInt_eq_div, Rat.intCast_neg]
  grind
theorem Qu.mono {n d m e : Nat} {q : Rat} (h : Qu n d q) (h1 : n ≤ m) (h2 : d ≤ e) : Qu m e q := by
  obtain ⟨t, w, e0, a, b, c⟩ := h
  exact ⟨t, w, e0, by omega, b, by omega⟩
theorem qu0 : Qu 0 1 0 := ⟨0, 1, by decide, by decide, by decide, by decide⟩
theorem qu1 : Qu 1 1 1 := ⟨1, 1, by decide, by decide, by decide, by decide⟩
theorem qu_eq {t w : Int} (hw : 1 ≤ w) : Rat.divInt t w * w = t := by
  have : (w : Rat) ≠ 0 := castne (by omega)
  rw [Rat.divInt_eq_div]
  grind
theorem dr_qu {p q : Rat} {n1 d1 n2 d2 : Nat} (h1 : Qu n1 d1 p) (h2 : Qu n2 d2 q) (a : n1 * d2 ≤ 9) (b : n2 * d1 ≤ 9) (c : d1 * d2 ≤ 9) : DrB 9 9 (p, q) := by
  obtain ⟨t1, w1, rfl, x1, y1, z1⟩ := h1
  obtain ⟨t2, w2, rfl, x2, y2, z2⟩ := h2
  refine ⟨t1 * w2, t2 * w1, w1 * w2, Int.mul_ne_zero (by omega) (by omega), ?_, ?_, ?_, ?_, ?_⟩
  · simp only [Rat.intCast_mul]
    have := qu_eq (t := t1) y1
    grind
  · simp only [Rat.intCast_mul]
    have := qu_eq (t := t2) y2
    grind
  · exact (Ab.mul (m := n1) (n := d2) x1 (show w2.natAbs ≤ d2 by omega)).le a
  · exact (Ab.mul (m := n2) (n := d1) x2 (show w1.natAbs ≤ d1 by omega)).le b
  · exact (Ab.mul (m := d1) (n := d2) (show w1.natAbs ≤ d1 by omega) (show w2.natAbs ≤ d2 by omega)).le c
theorem s_smallQ {u k : Nat} {S : Store} (h : Urn u k S) (hk : k < 2 ^ 62) : ∃ (q : Rat) (S' : Store), m_L_small [.ref u, .int 2] S = .ok (fr q) S' ∧ Qu 2 3 q ∧ Urn u (k + 2) S' ∧ But u S S' := by
  obtain ⟨r, S1, e1, r0, r1, u1, b1⟩ := s_pull (m := 2 * 2 + 1) (n := 5) h (by omega) (by unfold Sz; omega) (by decide) (by omega)
  obtain ⟨d, S2, e2, hd, u2, b2⟩ := s_item (l := [.int 1, .int 1, .int 1, .int 2, .int 3]) u1 (by simp) (by simp) (by omega)
  obtain ⟨w, rfl, w0, w1⟩ : ∃ w : Int, d = .int w ∧ 0 < w ∧ w ≤ 3 := by
    simp at hd
    rcases hd with rfl | rfl | rfl <;> exact ⟨_, rfl, by decide, by decide⟩
  have e3 := s_low (n := 5) (t := r - 2) (b := w) S2 (by omega) (by unfold Sz; omega) (by decide)
  refine ⟨_, S2, ?_, ⟨r - 2, w, rfl, by omega, by omega, by omega⟩, u2, b1.trans b2⟩
  unfold m_L_small
  have e4 := mul_ok S (sz_lit (n := 2) (z := 2) (by decide)) (sz_lit (n := 2) (z := 2) (by decide)) (by decide)
  simp at e1
  simp [-x_mul, sizeLine, e1, e2, e3, e4]
/-- low(1 + a number below m, 1 + one below 2) -/
theorem s_quot {u k : Nat} {S : Store} (m : Int) (hm : 1 ≤ m ∧ m ≤ 3) (h : Urn u k S) (hk : k < 2 ^ 62) : ∃ (r t : Int) (q : Rat) (S1 S2 : Store), m_L_pull [.ref u, .int m] S = .ok (.int r) S1 ∧ m_L_pull [.ref u, .int 2] S1 = .ok (.int t) S2 ∧ m_L_low [.int (1 + r), .int (1 + t)] S2 = .ok (fr q) S2 ∧ Qu 3 2 q ∧ Urn u (k + 2) S2 ∧ But u S S2 := by
  obtain ⟨r, S1, e1, r0, r1, u1, b1⟩ := s_pull (m := m) (n := 5) h (by omega) (by unfold Sz; omega) (by decide) (by omega)
  obtain ⟨t, S2, e2, t0, t1, u2, b2⟩ := s_pull (m := 2) (n := 5) u1 (by omega) (by unfold Sz; omega) (by decide) (by omega)
  have e3 := s_low (n := 5) (t := 1 + r) (b := 1 + t) S2 (by omega) (by unfold Sz; omega) (by decide)
  exact ⟨r, t, _, S1, S2, e1, e2, e3, ⟨1 + r, 1 + t, rfl, by omega, by omega, by omega⟩, u2, b1.trans b2⟩
def LnF (l : Ln) : Prop := l.Ok ∧ LnB 27 24 l
def RlF (r : Rl) : Prop := RS 5 r.p ∧ RS 5 r.q ∧ DrB 9 9 (r.p, r.q)
theorem rl_qu {p q : Rat} {n1 d1 n2 d2 : Nat} (cs : List (Str × Int)) (h1 : Qu n1 d1 p) (h2 : Qu n2 d2 q) (a : n1 * d2 ≤ 9) (b : n2 * d1 ≤ 9) (c : d1 * d2 ≤ 9) (s : n1 < 32 ∧ d1 < 32 ∧ n2 < 32 ∧ d2 < 32) : RlF ⟨p, q, cs⟩ :=
  ⟨h1.rs s.1 s.2.1 (by decide), h2.rs s.2.2.1 s.2.2.2 (by decide), dr_qu h1 h2 a b c⟩
/-! ### strips -/
theorem strip_draw {u : Nat} {te : EM} {ρ : Env} (h0 : ρ[0]? = some (some (.ref u))) (h9 : 9 < ρ.length) (he : te = mCall 2 m_L_low (mCons (mOp addD (mC (.int 1)) (mCall 2 m_L_pull (mCons (mVar 0) (mCons (mC (.int 3)) mNil)))) (mCons (mOp addD (mC (.int 1)) (mCall 2 m_L_pull (mCons (mVar 0) (mCons (mC (.int 2)) mNil)))) mNil))) : ∀ (ds : List D) {k : Nat} {S : Store}, Urn u k S → k + 2 * ds.length < 2 ^ 60 →
    ∃ (qs : List Rat) (S' : Store), mLcL (gN 9) mYes te ρ ds S = .ok (qs.map fr) S' ∧ qs.length = ds.length ∧ (∀ q ∈ qs, Qu 3 2 q) ∧ Urn u (k + 2 * ds.length) S' ∧ But u S S'
  | [], k, S, hu, hk => ⟨[], S, rfl, rfl, by simp, hu, But.refl _ _⟩
  | d :: ds, k, S, hu, hk => by
    simp only [List.length_cons] at hk ⊢
    obtain ⟨r, t, q, S1, S2, e1, e2, e3, hq, u2, b2⟩ := s_quot 3 (by decide) hu (by omega)
    obtain ⟨qs, S3, e4, l4, h4, u4, b4⟩ := strip_draw h0 h9 he ds u2 (by omega)
    have g0 : (ρ.set 9 (some d))[0]? = some (some (.ref u)) := by rw [List.getElem?_set_ne (by decide)]; exact h0
    have E : te (ρ.set 9 (some d)) S = .ok (fr q) S2 := by
      rw [he]
      simp only [x_call, x_cons, x_nil, x_op, x_c, x_var, g0, R.bind_ok, List.length_cons, List.length_nil, Nat.reduceAdd, if_true, e1, x_add, e2, e3]
    refine ⟨q :: qs, S3, ?_, by simp [l4], fun z hz => ?_, u4.mono (by omega), b2.trans b4⟩
    · simp only [mLcL, x_gN, x_yes, R.nx_ok, R.bind_ok, if_true, E, e4, List.map_cons]
    · rcases List.mem_cons.mp hz with rfl | hz
      · exact hq
      · exact h4 z hz
theorem five {α : Type} {l : List α} (h : l.length = 5) : ∃ a b c d e, l = [a, b, c, d, e] := by
  match l, h with
  | [a, b, c, d, e], _ => exact ⟨a, b, c, d, e, rfl⟩
theorem neg_fr' (q : Rat) : D.tup [.int (0 - q.num), .int q.den] = fr (-q) := by rw [← neg_fr]; simp
theorem neg_loop {te : EM} {ρ : Env} (S : Store) (he : te = mTup (mCons (mOp subD (mC (.int 0)) (mOp ixD (mVar 10) (mC (.int 0)))) (mCons (mOp ixD (mVar 10) (mC (.int 1))) mNil))) (h10 : 10 < ρ.length) (qs : List Rat) : mLcL (gN 10) mYes te ρ (qs.map fr) S = .ok ((qs.map fun q => -q).map fr) S := by
  rw [List.map_map]
  refine lc_mapG fun q _ => ?_
  rw [he]
  have g : (ρ.set 10 (some (fr q)))[10]? = some (some (fr q)) := by rw [List.getElem?_set_self h10]
  simp only [x_tup, x_cons, x_nil, x_op, x_c, x_var, g, R.bind_ok, ix_fr0, ix_fr1, x_sub, List.length_cons, List.length_nil, ite_size, Nat.reduceAdd, Nat.reduceLeDiff, neg_fr']
  rfl
theorem s_strip {u k : Nat} {S : Store} (h : Urn u k S) (hk : k < 2 ^ 58) : ∃ (ls : List Ln) (rs : List Rl) (S' : Store), m_L_strip [.ref u] S = .ok (planD ls rs) S' ∧ PlOk ls rs ∧ PlB ls rs 27 24 9 9 ∧ Urn u (k + 40) S' ∧ But u S S' := by
  obtain ⟨r, t, hi, S1, S2, e1, e2, e3, hq, u2, b2⟩ := s_quot 3 (by decide) h (by omega)
  obtain ⟨sh, S3, e4, hsh, u3, b3⟩ := s_smallQ u2 (by omega)
  obtain ⟨ps, S4, e5, l5, h5, u4, b4⟩ := strip_draw (te := e_L_strip_4) (ρ := [some (.ref u), some (fr hi), some (fr sh), none, none, none, none, none, none, none, none]) rfl (by simp) rfl (rangeL 0 5) u3 (by simp [rangeL]; omega)
  obtain ⟨qs, S5, e6, l6, h6, u5, b5⟩ := strip_draw (te := e_L_strip_3) (ρ := [some (.ref u), some (fr hi), some (fr sh), some (.lst (ps.map fr)), none, none, none, none, none, none, none]) rfl (by simp) rfl (rangeL 0 5) u4 (by simp [rangeL]; omega)
  obtain ⟨p0, p1, p2, p3, p4, rfl⟩ := five (l := ps) (by rw [l5]; rfl)
  obtain ⟨q0, q1, q2, q3, q4, rfl⟩ := five (l := qs) (by rw [l6]; rfl)
  simp only [List.mem_cons, List.not_mem_nil, or_false, forall_eq_or_imp, forall_eq] at h5 h6
  have n1 := neg_loop (te := e_L_strip_1) (ρ := [some (.ref u), some (fr hi), some (fr sh), some (.lst ([p0, p1, p2, p3, p4].map fr)), some (.lst ([q0, q1, q2, q3, q4].map fr)), none, none, none, none, none, none]) S5 rfl (by simp) [p0, p1, p2, p3, p4]
  have n2 := neg_loop (te := e_L_strip_2) (ρ := [some (.ref u), some (fr hi), some (fr sh), some (.lst ([p0, p1, p2, p3, p4].map fr)), some (.lst ([q0, q1, q2, q3, q4].map fr)), none, none, none, none, none, none]) S5 rfl (by simp) [q0, q1, q2, q3, q4]
  have bb := ((b2.trans b3).trans b4).trans b5
  refine ⟨[⟨"x", 1, 0, 0⟩, ⟨"u", 0, 1, 0⟩, ⟨"v", 0, 1, hi⟩], [⟨-p0, q0, [("x", 1), ("v", 1)]⟩, ⟨sh, q1, [("x", 1), ("u", 1)]⟩, ⟨p2, q2, [("x", 1)]⟩, ⟨-p3, -q3, [("v", 1)]⟩, ⟨0, -q4, [("u", 1)]⟩, ⟨p4, -q2, []⟩], S5, ?_, ?_, ?_, u5.mono (by simp [rangeL]), bb⟩
  · have RG : ∀ (ρ : Env) (S : Store), mRange1 (mC (.int 5)) ρ S = .ok (rangeL 0 5) S := fun ρ S => range_of (j := 5) rfl (by decide)
    have rl : (rangeL 0 5).length ≤ sizeLine := by rw [show sizeLine = 16777216 from rfl]; simp [rangeL]
    have t0 : D.tup [.int 0, .int 1] = fr 0 := rfl
    have t1 : D.tup [.int 1, .int 1] = fr 1 := rfl
    simp only [List.map_cons, List.map_nil] at e5 e6 n1 n2
    unfold m_L_strip
    rw [x_fun, x_seq]
    have A : mPar 1 2 (mCall 2 m_L_low (mCons (mOp addD (mC (.int 1)) (mCall 2 m_L_pull (mCons (mVar 0) (mCons (mC (.int 3)) mNil)))) (mCons (mOp addD (mC (.int 1)) (mCall 2 m_L_pull (mCons (mVar 0) (mCons (mC (.int 2)) mNil)))) mNil))) (mCall 2 m_L_small (mCons (mVar 0) (mCons (mC (.int 2)) mNil))) (start0 11 [.ref u]) S = .go .nx [some (.ref u), some (fr hi), some (fr sh), none, none, none, none, none, none, none, none] S3 := by
      simp [e1, e2, e3, e4]
    rw [A, O.then_nx, x_seq, x_asg]
    simp only [x_lc, RG, R.bind_ok, if_pos rl, wipeD, List.set, e5, fzL, R.to_ok, x_gN, O.then_nx]
    rw [x_seq, x_asg]
    simp only [x_lc, RG, R.bind_ok, if_pos rl, wipeD, List.set, e6, fzL, R.to_ok, x_gN, O.then_nx]
    have l5 : [fr p0, fr p1, fr p2, fr p3, fr p4].length ≤ sizeLine := by rw [show sizeLine = 16777216 from rfl]; simp
    have l6 : [fr q0, fr q1, fr q2, fr q3, fr q4].length ≤ sizeLine := by rw [show sizeLine = 16777216 from rfl]; simp
    have at4 : ∀ a b c d e : D, atI [a, b, c, d, e] 4 = some e := fun _ _ _ _ _ => atI_nat _ 4
    simp [wipeD, n1, n2, fzL, sizeLine, t0, t1, addD, lstOf, at4, planD, Ln.d, Rl.d, cnd]
  · have r5 : ∀ {q : Rat}, Qu 3 2 q → RS 5 q := fun h => h.rs (by decide) (by decide) (by decide)
    have z5 : RS 5 (0 : Rat) := RS.zero.mono (by decide)
    refine ⟨fun l hl => ?_, show (["x", "u", "v"] : List Str).Nodup by decide +kernel, by simp, fun r hr => ?_, by simp, ⟨_, List.mem_cons_of_mem _ (List.mem_cons_of_mem _ (List.mem_cons_of_mem _ (List.mem_cons_of_mem _ (List.mem_cons_of_mem _ List.mem_cons_self)))), rfl⟩⟩
    · simp only [List.mem_cons, List.not_mem_nil, or_false] at hl
      rcases hl with rfl | rfl | rfl
      · exact ⟨RS.one.mono (by decide), RS.zero.mono (by decide), RS.zero.mono (by decide), by decide, by decide +kernel⟩
      · exact ⟨RS.zero.mono (by decide), RS.one.mono (by decide), RS.zero.mono (by decide), by decide, by decide +kernel⟩
      · exact ⟨RS.zero.mono (by decide), RS.one.mono (by decide), (r5 hq).mono (by decide), by simp, show ("v" : Str) ∈ names by decide +kernel⟩
    · simp only [List.mem_cons, List.not_mem_nil, or_false] at hr
      rcases hr with rfl | rfl | rfl | rfl | rfl | rfl
      · exact ⟨r5 h5.1.neg, r5 h6.1, by simp, by simp⟩
      · exact ⟨hsh.rs (by decide) (by decide) (by decide), r5 h6.2.1, by simp, by simp⟩
      · exact ⟨r5 h5.2.2.1, r5 h6.2.2.1, by simp, by simp⟩
      · exact ⟨r5 h5.2.2.2.1.neg, r5 h6.2.2.2.1.neg, by simp, by simp⟩
      · exact ⟨z5, r5 h6.2.2.2.2.neg, by simp, by simp⟩
      · exact ⟨r5 h5.2.2.2.2, r5 h6.2.2.1.neg, by simp, by simp⟩
  · refine ⟨fun l hl => ?_, fun r hr => ?_⟩
    · simp only [List.mem_cons, List.not_mem_nil, or_false] at hl
      rcases hl with rfl | rfl | rfl
      · exact ⟨1, 0, 0, 1, by decide, by simp, by simp, by simp, by unfold Ab; decide, by unfold Ab; decide, by unfold Ab; decide⟩
      · exact ⟨0, 1, 0, 1, by decide, by simp, by simp, by simp, by unfold Ab; decide, by unfold Ab; decide, by unfold Ab; decide⟩
      · obtain ⟨a, w, rfl, x1, y1, z1⟩ := hq
        exact ⟨0, w, a, w, by omega, by simp, by simp, qu_eq y1, by unfold Ab; decide, by unfold Ab; omega, by unfold Ab; omega⟩
    · simp only [List.mem_cons, List.not_mem_nil, or_false] at hr
      rcases hr with rfl | rfl | rfl | rfl | rfl | rfl
      · exact dr_qu h5.1.neg h6.1 (by decide) (by decide) (by decide)
      · exact dr_qu hsh h6.2.1 (by decide) (by decide) (by decide)
      · exact dr_qu h5.2.2.1 h6.2.2.1 (by decide) (by decide) (by decide)
      · exact dr_qu h5.2.2.2.1.neg h6.2.2.2.1.neg (by decide) (by decide) (by decide)
      · exact dr_qu qu0 h6.2.2.2.2.neg (by decide) (by decide) (by decide)
      · exact dr_qu h5.2.2.2.2 h6.2.2.1.neg (by decide) (by decide) (by decide)
/-! ### wheels -/
def sgq (o : Int) (q : Rat) : Rat := if o = 1 then q else -q
theorem sgq_d {o : Int} (ho : o = 1 ∨ o = -1) (q : Rat) : D.tup [.int (o * q.num), .int q.den] = fr (sgq o q) := by
  rcases ho with rfl | rfl
  · simp [sgq, fr]
  · rw [show sgq (-1) q = -q from by simp [sgq], ← neg_fr]
    simp
theorem sgq_qu {n d : Nat} {o : Int} {q : Rat} (h : Qu n d q) : Qu n d (sgq o q) := by
  unfold sgq
  split
  · exact h
  · exact h.neg
theorem wheel_q {u k : Nat} {S : Store} {ρ : Env} (h0 : ρ[0]? = some (some (.ref u))) (h : Urn u k S) (hk : k < 2 ^ 60) : ∃ (q : Rat) (S' : Store), e_L_wheel_2 ρ S = .ok (fr q) S' ∧ Qu 3 2 q ∧ Urn u (k + 3) S' ∧ But u S S' := by
  obtain ⟨d, S0, e0, hd, u0, b0⟩ := s_item (l := [.int 1, .int 2, .int 3]) h (by simp) (by simp) (by omega)
  obtain ⟨m, rfl, m0, m1⟩ : ∃ m : Int, d = .int m ∧ 1 ≤ m ∧ m ≤ 3 := by
    simp at hd
    rcases hd with rfl | rfl | rfl <;> exact ⟨_, rfl, by decide, by decide⟩
  obtain ⟨r, t, q, S1, S2, e1, e2, e3, hq, u2, b2⟩ := s_quot m ⟨m0, m1⟩ u0 (by omega)
  refine ⟨q, S2, ?_, hq, u2, b0.trans b2⟩
  unfold e_L_wheel_2
  simp only [x_call, x_cons, x_nil, x_op, x_c, x_var, h0, R.bind_ok, x_lst, List.length_cons, List.length_nil, ite_size, Nat.reduceAdd, Nat.reduceLeDiff, if_true, e0, e1, x_add, e2, e3]
structure Wh (w : (Int × Int) × (Int × Int)) : Prop where
  a : w.1.1 = 1 ∨ w.1.1 = -1
  b : w.1.2 = 1 ∨ w.1.2 = -1
  c : w.2.1 = 1 ∨ w.2.1 = -1
  d : w.2.2 = 1 ∨ w.2.2 = -1
def whD (w : Int × Int) : D := .tup [.int w.1, .int w.2]
structure WRl (r : Rl) : Prop where
  f : RlF r
  c : ∃ s t : Int, (s = 1 ∨ s = -1) ∧ (t = 1 ∨ t = -1) ∧ r.cs = [(("x" : Str), s), (("y" : Str), t)]
theorem wheel_rule {u p k : Nat} {S : Store} (hp : p ≠ u) {w : (Int × Int) × (Int × Int)} (hw : Wh w) (acc : List Rl) (hS : S[p]? = some (.lst (acc.map Rl.d))) (ha : acc.length ≤ 100) (h : Urn u k S) (hk : k < 2 ^ 58) (x1 x2 x3 x4 x5 x6 x7 x8 x9 x13 x14 x15 x16 x17 : Option D) :
    ∃ (y13 y14 : Option D) (S' : Store) (r : Rl), b_L_wheel_3 [some (.ref u), x1, x2, x3, x4, x5, x6, x7, x8, x9, some (.ref p), some (whD w.1), some (whD w.2), x13, x14, x15, x16, x17] S = .go .nx [some (.ref u), x1, x2, x3, x4, x5, x6, x7, x8, x9, some (.ref p), some (whD w.1), some (whD w.2), y13, y14, x15, x16, x17] S' ∧
      Urn u (k + 6) S' ∧ But2 u p S S' ∧ S'[p]? = some (.lst ((acc ++ [r]).map Rl.d)) ∧ WRl r := by
  obtain ⟨q1, S1, e1, h1, u1, b1⟩ := wheel_q (ρ := [some (.ref u), x1, x2, x3, x4, x5, x6, x7, x8, x9, some (.ref p), some (whD w.1), some (whD w.2), x13, x14, some (.int 0), x16, x17]) rfl h (by omega)
  obtain ⟨q2, S2, e2, h2, u2, b2⟩ := wheel_q (ρ := [some (.ref u), x1, x2, x3, x4, x5, x6, x7, x8, x9, some (.ref p), some (whD w.1), some (whD w.2), x13, x14, some (.int 1), x16, x17]) rfl u1 (by omega)
  have bb := b1.trans b2
  have hS2 : S2[p]? = some (.lst (acc.map Rl.d)) := by rw [bb.at_ p hp]; exact hS
  have hpl := (List.getElem?_eq_some_iff.mp hS2).1
  generalize hr : (⟨sgq w.2.1 q1, sgq w.2.2 q2, [(("x" : Str), w.1.1), (("y" : Str), w.1.2)]⟩ : Rl) = r
  have rd : r.d = .tup [.tup [fr (sgq w.2.1 q1), fr (sgq w.2.2 q2)], .tup [.tup [.str "x", .int w.1.1], .tup [.str "y", .int w.1.2]]] := by rw [← hr]; rfl
  refine ⟨some (.lst [fr q1, fr q2]), some (.tup [fr (sgq w.2.1 q1), fr (sgq w.2.2 q2)]), S2.set p (.lst ((acc ++ [r]).map Rl.d)), r, ?_, (u2.mono (by omega)).set hp _, (bb.two p).trans ⟨by simp, fun n _ h2 => by rw [List.getElem?_set_ne (Ne.symm h2)]⟩, by rw [List.getElem?_set_self hpl], ?_⟩
  · have RG : ∀ (ρ : Env) (S : Store), mRange1 (mC (.int 2)) ρ S = .ok [.int 0, .int 1] S := fun ρ S => range_of (j := 2) rfl (by decide)
    have r2 : [D.int 0, D.int 1].length ≤ sizeLine := by rw [show sizeLine = 16777216 from rfl]; simp
    have ap : appendD (.ref p) [r.d] S2 = .ok .non (S2.set p (.lst ((acc ++ [r]).map Rl.d))) := by
      simp only [appendD, hS2]
      rw [if_pos (by rw [List.length_map, show sizeLine = 16777216 from rfl]; omega), List.map_append]
      rfl
    have m1 : ∀ o : Int, (o = 1 ∨ o = -1) → ∀ q : Rat, Qu 3 2 q → ∀ S, mulD (.int o) (.int q.num) S = .ok (.int (o * q.num)) S := fun o ho q hq S => mul_ok S (show Sz 2 o by rcases ho with rfl | rfl <;> (unfold Sz; decide)) ((hq.rs (k := 5) (by decide) (by decide) (by decide)).1) (by decide)
    have L1 : mLc [15] (mRange1 (mC (.int 2))) (gN 15) mYes e_L_wheel_2 [some (.ref u), x1, x2, x3, x4, x5, x6, x7, x8, x9, some (.ref p), some (whD w.1), some (whD w.2), x13, x14, x15, x16, x17] S = .ok (.lst [fr q1, fr q2]) S2 := by
      simp only [x_lc, RG, R.bind_ok, if_pos r2, wipeD, List.set, mLcL, x_gN, x_yes, R.nx_ok, if_true, e1, e2, fzL]
    have L2 : mLc [16, 17] (mZipQ (mVar 12) (mVar 13)) (gTupM 2 (gConsM (gN 16) (gConsM (gN 17) gNilM))) mYes e_L_wheel_1 [some (.ref u), x1, x2, x3, x4, x5, x6, x7, x8, x9, some (.ref p), some (whD w.1), some (whD w.2), some (.lst [fr q1, fr q2]), x14, x15, x16, x17] S2 = .ok (.lst [fr (sgq w.2.1 q1), fr (sgq w.2.2 q2)]) S2 := by
      have z1 := m1 w.2.1 hw.c q1 h1 S2
      have z2 := m1 w.2.2 hw.d q2 h2 S2
      have s1 := sgq_d hw.c q1
      have s2 := sgq_d hw.d q2
      have mz : mZipQ (mVar 12) (mVar 13) [some (.ref u), x1, x2, x3, x4, x5, x6, x7, x8, x9, some (.ref p), some (whD w.1), some (whD w.2), some (.lst [fr q1, fr q2]), x14, x15, x16, x17] S2 = .ok [.wt [.int w.2.1, fr q1], .wt [.int w.2.2, fr q2]] S2 := rfl
      have hl : [D.wt [.int w.2.1, fr q1], D.wt [.int w.2.2, fr q2]].length ≤ sizeLine := by rw [show sizeLine = 16777216 from rfl]; simp
      have ix0 : ∀ q : Rat, ixD (fr q) (.int 0) S2 = .ok (.int q.num) S2 := fun _ => rfl
      have ix1 : ∀ q : Rat, ixD (fr q) (.int 1) S2 = .ok (.int q.den) S2 := fun _ => rfl
      have E : ∀ (o : Int) (q : Rat), mulD (.int o) (.int q.num) S2 = .ok (.int (o * q.num)) S2 → D.tup [.int (o * q.num), .int q.den] = fr (sgq o q) → e_L_wheel_1 [some (.ref u), x1, x2, x3, x4, x5, x6, x7, x8, x9, some (.ref p), some (whD w.1), some (whD w.2), some (.lst [fr q1, fr q2]), x14, x15, some (.int o), some (fr q)] S2 = .ok (fr (sgq o q)) S2 := fun o q e s => by
        unfold e_L_wheel_1
        simp only [x_tup, x_cons, x_nil, x_op, x_c, x_var, List.getElem?_cons_zero, List.getElem?_cons_succ, R.bind_ok, ix0, ix1, e, List.length_cons, List.length_nil, ite_size, Nat.reduceAdd, Nat.reduceLeDiff, s]
      simp only [x_lc, mz, R.bind_ok, ite_size, Nat.reduceLeDiff, wipeD, List.set, mLcL, x_gTupW, x_gCons, x_gN, x_gNil, List.length_cons, List.length_nil, Nat.reduceAdd, if_true, Option.bind_some, x_yes, R.nx_ok, E _ _ z1 s1, E _ _ z2 s2, fzL]
    unfold b_L_wheel_3
    rw [x_seq, x_asg, L1]
    simp only [R.to_ok, x_gN, List.set, O.then_nx]
    rw [x_seq, x_asg]
    simp only [x_cb, x_cons, x_nil, L2, R.bind_ok, one, x_tupL, R.to_ok, x_gN, List.set, O.then_nx]
    rw [rd] at ap
    have wd : ∀ S, ixD (whD w.1) (.int 0) S = .ok (.int w.1.1) S ∧ ixD (whD w.1) (.int 1) S = .ok (.int w.1.2) S := fun S => ⟨rfl, rfl⟩
    simp only [x_drop, x_met, x_var, List.getElem?_cons_zero, List.getElem?_cons_succ, R.bind_ok, isL, lstOf, hS2, Option.isSome_some, if_true, x_cons, x_nil, x_tup, x_op, x_c, wd, List.length_cons, List.length_nil, ite_size, Nat.reduceAdd, Nat.reduceLeDiff, ap, R.to_ok]
  · rw [← hr]
    exact ⟨rl_qu _ (sgq_qu h1) (sgq_qu h2) (by decide) (by decide) (by decide) (by decide), w.1.1, w.1.2, hw.a, hw.b, rfl⟩
theorem wheel_rules {u p : Nat} (hp : p ≠ u) (x1 x2 x3 x4 x5 x6 x7 x8 x9 x15 x16 x17 : Option D) : ∀ (ws : List ((Int × Int) × (Int × Int))) (acc : List Rl) {k : Nat} {S : Store} (x11 x12 x13 x14 : Option D), (∀ w ∈ ws, Wh w) → Urn u k S → k + 6 * ws.length < 2 ^ 57 → S[p]? = some (.lst (acc.map Rl.d)) → acc.length + ws.length ≤ 100 → (∀ r ∈ acc, WRl r) →
    ∃ (y11 y12 y13 y14 : Option D) (S' : Store) (all : List Rl), mForL (gTupM 2 (gConsM (gN 11) (gConsM (gN 12) gNilM))) b_L_wheel_3 (ws.map fun w => .wt [whD w.1, whD w.2]) [some (.ref u), x1, x2, x3, x4, x5, x6, x7, x8, x9, some (.ref p), x11, x12, x13, x14, x15, x16, x17] S = .go .nx [some (.ref u), x1, x2, x3, x4, x5, x6, x7, x8, x9, some (.ref p), y11, y12, y13, y14, x15, x16, x17] S' ∧
      Urn u (k + 6 * ws.length) S' ∧ But2 u p S S' ∧ S'[p]? = some (.lst (all.map Rl.d)) ∧ (∀ r ∈ all, WRl r) ∧ all.length = acc.length + ws.length
  | [], acc, k, S, x11, x12, x13, x14, _, hu, _, hS, _, ha => ⟨_, _, _, _, S, acc, rfl, hu, ⟨rfl, fun _ _ _ => rfl⟩, hS, ha, rfl⟩
  | w :: ws, acc, k, S, x11, x12, x13, x14, hw, hu, hk, hS, hl, ha => by
    simp only [List.length_cons] at hk hl ⊢
    obtain ⟨y13, y14, S1, r, e1, u1, b1, hS1, hr⟩ := wheel_rule hp (hw w List.mem_cons_self) acc hS (by omega) hu (by omega) x1 x2 x3 x4 x5 x6 x7 x8 x9 x13 x14 x15 x16 x17
    obtain ⟨z11, z12, z13, z14, S2, all, e2, u2, b2, hS2, h2, l2⟩ := wheel_rules hp x1 x2 x3 x4 x5 x6 x7 x8 x9 x15 x16 x17 ws (acc ++ [r]) (some (whD w.1)) (some (whD w.2)) y13 y14 (fun v hv => hw v (List.mem_cons_of_mem _ hv)) u1 (by omega) hS1 (by simp; omega) (fun s hs => by
      rcases List.mem_append.mp hs with hs | hs
      · exact ha s hs
      · simp at hs; rw [hs]; exact hr)
    refine ⟨z11, z12, z13, z14, S2, all, ?_, u2.mono (by omega), b1.trans b2, hS2, h2, by rw [l2]; simp; omega⟩
    simp only [List.map_cons, mForL, x_gTupW, x_gCons, x_gN, x_gNil, List.length_cons, List.length_nil, Nat.reduceAdd, if_true, Option.bind_some, List.set, e1, e2]
theorem wheel_line {p : Nat} {S : Store} {nm : Str} {a b s1 s2 : Rat} (ra : RS 3 a) (rb : RS 3 b) (r1 : RS 5 s1) (r2 : RS 5 s2) (acc : List Ln) (hS : S[p]? = some (.lst (acc.map Ln.d))) (ha : acc.length ≤ 100) (x0 x1 x2 x7 x8 x9 x10 x11 x12 x13 x14 x15 x16 x17 : Option D) :
    b_L_wheel_4 [x0, x1, x2, some (.tup [fr s1, fr s2]), some (.ref p), some (.str nm), some (.tup [fr a, fr b]), x7, x8, x9, x10, x11, x12, x13, x14, x15, x16, x17] S = .go .nx [x0, x1, x2, some (.tup [fr s1, fr s2]), some (.ref p), some (.str nm), some (.tup [fr a, fr b]), some (fr (a * s1 + b * s2)), x8, x9, x10, x11, x12, x13, x14, x15, x16, x17] (S.set p (.lst ((acc ++ [Ln.mk nm a b (a * s1 + b * s2)]).map Ln.d))) := by
  have p1 := s_Lproduct S ra r1 (by decide)
  have p2 := s_Lproduct S rb r2 (by decide)
  have p3 := s_Lsum S (ra.mul r1) (rb.mul r2) (by decide)
  have ap : appendD (.ref p) [.tup [.str nm, fr a, fr b, fr (a * s1 + b * s2)]] S = .ok .non (S.set p (.lst ((acc ++ [Ln.mk nm a b (a * s1 + b * s2)]).map Ln.d))) := by
    simp only [appendD, hS]
    rw [if_pos (by rw [List.length_map, show sizeLine = 16777216 from rfl]; omega), List.map_append]
    rfl
  unfold b_L_wheel_4
  simp only [x_seq, x_asg, x_call, x_cons, x_nil, x_op, x_c, x_var, List.getElem?_cons_zero, List.getElem?_cons_succ, R.bind_ok, x_ixT, atI_0, atI_1, List.length_cons, List.length_nil, Nat.reduceAdd, if_true, p1, p2, p3, R.to_ok, x_gN, List.set, O.then_nx, x_drop, x_met, isL, lstOf, hS, Option.isSome_some, x_tup, ite_size, Nat.reduceLeDiff, ap]
/-- a line of a wheel through a spot -/
theorem ln_wheel {s1 s2 : Rat} (h1 : Qu 2 3 s1) (h2 : Qu 2 3 s2) {nm : Str} (hn : nm ∈ names) {a b : Rat} (hab : (a = 1 ∧ b = 0) ∨ (a = 1 ∧ b = Rat.divInt 1 2) ∨ (a = 0 ∧ b = 1) ∨ (a = Rat.divInt (-1) 3 ∧ b = 1)) : LnF ⟨nm, a, b, a * s1 + b * s2⟩ := by
  have bound : ∃ A B C L : Int, L ≠ 0 ∧ a * L = A ∧ b * L = B ∧ (a * s1 + b * s2) * L = C ∧ Ab 27 A ∧ Ab 27 B ∧ Ab 24 C ∧ Ab 27 L := by
    obtain ⟨t1, w1, rfl, x1, y1, z1⟩ := h1
    obtain ⟨t2, w2, rfl, x2, y2, z2⟩ := h2
    have e1 := qu_eq (t := t1) y1
    have e2 := qu_eq (t := t2) y2
    have c1 := castne (E := w1) (by omega)
    have c2 := castne (E := w2) (by omega)
    have b1 : Ab 3 w1 := show w1.natAbs ≤ 3 by omega
    have b2 : Ab 3 w2 := show w2.natAbs ≤ 3 by omega
    have bt1 : Ab 2 t1 := x1
    have bt2 : Ab 2 t2 := x2
    have k1 : Ab 2 (2 : Int) := by unfold Ab; decide
    have k2 : Ab 3 (3 : Int) := by unfold Ab; decide
    have n12 : w1 * w2 ≠ 0 := Int.mul_ne_zero (by omega) (by omega)
    rcases hab with ⟨rfl, rfl⟩ | ⟨rfl, rfl⟩ | ⟨rfl, rfl⟩ | ⟨rfl, rfl⟩
    · refine ⟨w1 * w2, 0, t1 * w2, w1 * w2, n12, by simp, by simp, ?_, (b1.mul b2).le (by decide), Nat.zero_le _, (bt1.mul b2).le (by decide), (b1.mul b2).le (by decide)⟩
      simp only [Rat.intCast_mul]
      grind
    · have h : (Rat.divInt 1 2) * (2 : Int) = ((1 : Int) : Rat) := qu_eq (by decide)
      refine ⟨2 * (w1 * w2), w1 * w2, 2 * (t1 * w2) + t2 * w1, 2 * (w1 * w2), Int.mul_ne_zero (by decide) n12, by simp, ?_, ?_, (k1.mul (b1.mul b2)).le (by decide), (b1.mul b2).le (by decide), ((k1.mul (bt1.mul b2)).add (bt2.mul b1)).le (by decide), (k1.mul (b1.mul b2)).le (by decide)⟩
      · simp only [Rat.intCast_mul]
        grind
      · simp only [Rat.intCast_mul, Rat.intCast_add]
        grind
    · refine ⟨0, w1 * w2, t2 * w1, w1 * w2, n12, by simp, by simp, ?_, Nat.zero_le _, (b1.mul b2).le (by decide), (bt2.mul b1).le (by decide), (b1.mul b2).le (by decide)⟩
      simp only [Rat.intCast_mul]
      grind
    · have h : (Rat.divInt (-1) 3) * (3 : Int) = ((-1 : Int) : Rat) := qu_eq (by decide)
      refine ⟨-1 * (w1 * w2), 3 * (w1 * w2), -1 * (t1 * w2) + 3 * (t2 * w1), 3 * (w1 * w2), Int.mul_ne_zero (by decide) n12, ?_, by simp, ?_, ((show Ab 1 (-1 : Int) by unfold Ab; decide).mul (b1.mul b2)).le (by decide), (k2.mul (b1.mul b2)).le (by decide), (((show Ab 1 (-1 : Int) by unfold Ab; decide).mul (bt1.mul b2)).add (k2.mul (bt2.mul b1))).le (by decide), (k2.mul (b1.mul b2)).le (by decide)⟩
      · simp only [Rat.intCast_mul]
        grind
      · simp only [Rat.intCast_mul, Rat.intCast_add]
        grind
  have q1 : Rat.divInt 1 2 ≠ 0 := by decide +kernel
  have q2 : Rat.divInt (-1) 3 ≠ 0 := by decide +kernel
  have ra : RS 3 a := by
    rcases hab with ⟨rfl, _⟩ | ⟨rfl, _⟩ | ⟨rfl, _⟩ | ⟨rfl, _⟩
    · exact RS.one.mono (by decide)
    · exact RS.one.mono (by decide)
    · exact RS.zero.mono (by decide)
    · exact RS.divInt (by unfold Sz; decide) (by unfold Sz; decide) (by decide)
  have rb : RS 3 b := by
    rcases hab with ⟨_, rfl⟩ | ⟨_, rfl⟩ | ⟨_, rfl⟩ | ⟨_, rfl⟩
    · exact RS.zero.mono (by decide)
    · exact RS.divInt (by unfold Sz; decide) (by unfold Sz; decide) (by decide)
    · exact RS.one.mono (by decide)
    · exact RS.one.mono (by decide)
  obtain ⟨A, B, C, L, hL, ea, eb, ec, m1, m2, m3, m4⟩ := bound
  refine ⟨⟨ra.mono (by decide), rb.mono (by decide), rs_of hL ec (ab_lt m3 (by decide)) (ab_lt m4 (by decide)) (by decide), ?_, hn⟩, A, B, C, L, hL, ea, eb, ec, m1, m2, m3⟩
  rcases hab with ⟨rfl, rfl⟩ | ⟨rfl, rfl⟩ | ⟨rfl, rfl⟩ | ⟨rfl, rfl⟩
  · simp
  · simp
  · simp
  · simp
theorem wheel_plan {l1 l2 : Ln} (f1 : LnF l1) (f2 : LnF l2) (n1 : l1.nm = "x") (n2 : l2.nm = "y") {more : List Ln} (hm : more = [] ∨ ∃ l3, more = [l3] ∧ LnF l3 ∧ l3.nm = "z") {all : List Rl} (ha : ∀ r ∈ all, WRl r) (hal : all.length = 4) {pre : List Rl} (hpre : ∀ r ∈ pre, RlF r ∧ more ≠ [] ∧ r.cs = [(("z" : Str), 1)]) (hpl : pre.length ≤ 1) :
    PlOk (l1 :: l2 :: more) (pre ++ (all ++ [⟨1, 1, []⟩])) ∧ PlB (l1 :: l2 :: more) (pre ++ (all ++ [⟨1, 1, []⟩])) 27 24 9 9 := by
  have lf : ∀ l ∈ l1 :: l2 :: more, LnF l := fun l hl => by
    rcases List.mem_cons.mp hl with rfl | hl
    · exact f1
    · rcases List.mem_cons.mp hl with rfl | hl
      · exact f2
      · rcases hm with rfl | ⟨l3, rfl, f3, _⟩
        · simp at hl
        · simp at hl; rw [hl]; exact f3
  have one5 : RS 5 (1 : Rat) := RS.one.mono (by decide)
  have last : DrB 9 9 ((1 : Rat), (1 : Rat)) := dr_qu qu1 qu1 (by decide) (by decide) (by decide)
  have ml : more.length ≤ 1 := by
    rcases hm with rfl | ⟨l3, rfl, _⟩ <;> simp
  refine ⟨⟨fun l hl => (lf l hl).1, ?_, by simp; omega, fun r hr => ?_, by simp; omega, ⟨⟨1, 1, []⟩, by simp, rfl⟩⟩, ⟨fun l hl => (lf l hl).2, fun r hr => ?_⟩⟩
  · rcases hm with rfl | ⟨l3, rfl, _, n3⟩
    · simp only [List.map_cons, List.map_nil, n1, n2]
      exact show (["x", "y"] : List Str).Nodup by decide +kernel
    · simp only [List.map_cons, List.map_nil, n1, n2, n3]
      exact show (["x", "y", "z"] : List Str).Nodup by decide +kernel
  · rcases List.mem_append.mp hr with hr | hr
    · obtain ⟨h1, h2, h3⟩ := hpre r hr
      rcases hm with rfl | ⟨l3, rfl, _, n3⟩
      · exact absurd rfl h2
      · refine ⟨h1.1, h1.2.1, fun c hc => ?_, by rw [h3]; simp⟩
        rw [h3] at hc
        simp at hc
        rw [hc]
        simp [n3]
    · rcases List.mem_append.mp hr with hr | hr
      · obtain ⟨h1, s, t, hs, ht, h3⟩ := ha r hr
        refine ⟨h1.1, h1.2.1, fun c hc => ?_, by rw [h3]; simp⟩
        rw [h3] at hc
        simp at hc
        rcases hc with rfl | rfl
        · exact ⟨by simp [n1], hs⟩
        · exact ⟨by simp [n2], ht⟩
      · simp at hr
        rw [hr]
        exact ⟨one5, one5, by simp, by simp⟩
  · rcases List.mem_append.mp hr with hr | hr
    · exact (hpre r hr).1.2.2
    · rcases List.mem_append.mp hr with hr | hr
      · exact (ha r hr).1.2.2
      · simp at hr
        rw [hr]
        exact last
theorem But2.trans1 {u p : Nat} {S S1 S2 : Store} (h : But u S S1) (k : But2 u p S1 S2) : But2 u p S S2 := (h.two p).trans k
end DL

/-! Plain laws: wheels, put together. -/
namespace DL
open PySem PySem.Spec PyProof.Rows L2
theorem half_fr : D.tup [.int 1, .int 2] = fr (Rat.divInt 1 2) := by
  unfold fr; rw [show (Rat.divInt 1 2).num = 1 by decide +kernel, show (Rat.divInt 1 2).den = 2 by decide +kernel]; rfl
theorem third_fr : D.tup [.int (-1), .int 3] = fr (Rat.divInt (-1) 3) := by
  unfold fr; rw [show (Rat.divInt (-1) 3).num = -1 by decide +kernel, show (Rat.divInt (-1) 3).den = 3 by decide +kernel]; rfl
theorem qu_half : RS 3 (Rat.divInt 1 2) := RS.divInt (by unfold Sz; decide) (by unfold Sz; decide) (by decide)
theorem qu_third : RS 3 (Rat.divInt (-1) 3) := RS.divInt (by unfold Sz; decide) (by unfold Sz; decide) (by decide)
theorem fr_int (z : Int) : D.tup [.int z, .int 1] = fr (z : Rat) := by
  unfold fr; simp
def ways1 : List ((Int × Int) × (Int × Int)) := [((1, 1), (-1, 1)), ((-1, 1), (-1, -1)), ((-1, -1), (1, -1)), ((1, -1), (1, 1))]
def ways2 : List ((Int × Int) × (Int × Int)) := [((1, 1), (1, -1)), ((-1, 1), (1, 1)), ((-1, -1), (-1, 1)), ((1, -1), (-1, -1))]
theorem ways_wh : (∀ w ∈ ways1, Wh w) ∧ ∀ w ∈ ways2, Wh w := by
  constructor <;> intro w hw <;> simp [ways1, ways2] at hw <;> rcases hw with rfl | rfl | rfl | rfl <;> constructor <;> simp
noncomputable def whTail : SM := mSeq (mIfS (mB (mOp eqD (mCall 2 m_L_pull (mCons (mVar 0) (mCons (mC (.int 3)) mNil))) (mC (.int 0)))) (mSeq (mDrop (mMet isL appendD (mVar 4) (mCons (mTup (mCons (mC (.str "z")) (mCons (mTup (mCons (mC (.int 1)) (mCons (mC (.int 1)) mNil))) (mCons (mTup (mCons (mOp subD (mCall 2 m_L_pull (mCons (mVar 0) (mCons (mC (.int 3)) mNil))) (mC (.int 1))) (mCons (mC (.int 1)) mNil))) (mCons (mTup (mCons (mOp addD (mC (.int 5)) (mCall 2 m_L_pull (mCons (mVar 0) (mCons (mC (.int 9)) mNil)))) (mCons (mC (.int 1)) mNil))) mNil))))) mNil)))
  (mAsg (mOp addN (mLst (mCons (mTup (mCons (mTup (mCons (mCall 2 m_L_small (mCons (mVar 0) (mCons (mC (.int 2)) mNil))) (mCons (mCall 2 m_L_small (mCons (mVar 0) (mCons (mC (.int 2)) mNil))) mNil))) (mCons (mTup (mCons (mTup (mCons (mC (.str "z")) (mCons (mC (.int 1)) mNil))) mNil)) mNil))) mNil)) (mVar 10)) (gN 10))) mNext)
  (mRet (mTup (mCons (mCB (one tupleD) (mCons (mVar 4) mNil)) (mCons (mOp addD (mCB (one tupleD) (mCons (mVar 10) mNil)) (mTup (mCons (mTup (mCons (mTup (mCons (mTup (mCons (mC (.int 1)) (mCons (mC (.int 1)) mNil))) (mCons (mTup (mCons (mC (.int 1)) (mCons (mC (.int 1)) mNil))) mNil))) (mCons (mTup mNil) mNil))) mNil))) mNil))))
theorem tupleD_at {S : Store} {p : Nat} {l : List D} (h : S[p]? = some (.lst l)) : tupleD (.ref p) S = .ok (.tup l) S := by
  unfold tupleD
  simp only []
  rw [seqOf_ref, lstOf_ref h]
theorem wh_tail {u pl pr k : Nat} {S : Store} (hpu : pl ≠ u) (hru : pr ≠ u) (hpr : pl ≠ pr) (h : Urn u k S) (hk : k < 2 ^ 58) {l1 l2 : Ln} (f1 : LnF l1) (f2 : LnF l2) (n1 : l1.nm = "x") (n2 : l2.nm = "y") {all : List Rl} (ha : ∀ r ∈ all, WRl r) (hal : all.length = 4) (hL : S[pl]? = some (.lst ([l1, l2].map Ln.d))) (hR : S[pr]? = some (.lst (all.map Rl.d))) (x1 x2 x3 x5 x6 x7 x8 x9 x11 x12 x13 x14 x15 x16 x17 : Option D) :
    ∃ (ls : List Ln) (rs : List Rl) (ρ' : Env) (S' : Store), whTail [some (.ref u), x1, x2, x3, some (.ref pl), x5, x6, x7, x8, x9, some (.ref pr), x11, x12, x13, x14, x15, x16, x17] S = .go (.rt (planD ls rs)) ρ' S' ∧ PlOk ls rs ∧ PlB ls rs 27 24 9 9 ∧ Urn u (k + 10) S' ∧ S.length ≤ S'.length ∧ ∀ n, n < S.length → n ≠ u → n ≠ pl → n ≠ pr → S'[n]? = S[n]? := by
  obtain ⟨r, S1, e1, r0, r1, u1, b1⟩ := s_pull (m := 3) (n := 3) h (by decide) (by unfold Sz; decide) (by decide) (by omega)
  have hL1 : S1[pl]? = some (.lst ([l1, l2].map Ln.d)) := by rw [b1.at_ _ hpu]; exact hL
  have hR1 : S1[pr]? = some (.lst (all.map Rl.d)) := by rw [b1.at_ _ hru]; exact hR
  have t1 : D.tup [.int 1, .int 1] = fr 1 := rfl
  have fin : ∀ (ls : List Ln) (rs : List Rl) (S2 : Store) (p2 : Nat) (ρ : Env), ρ[4]? = some (some (.ref pl)) → ρ[10]? = some (some (.ref p2)) → S2[pl]? = some (.lst (ls.map Ln.d)) → S2[p2]? = some (.lst (rs.map Rl.d)) → rs.length ≤ 100 →
      mRet (mTup (mCons (mCB (one tupleD) (mCons (mVar 4) mNil)) (mCons (mOp addD (mCB (one tupleD) (mCons (mVar 10) mNil)) (mTup (mCons (mTup (mCons (mTup (mCons (mTup (mCons (mC (.int 1)) (mCons (mC (.int 1)) mNil))) (mCons (mTup (mCons (mC (.int 1)) (mCons (mC (.int 1)) mNil))) mNil))) (mCons (mTup mNil) mNil))) mNil))) mNil))) ρ S2 = .go (.rt (planD ls (rs ++ [⟨1, 1, []⟩]))) ρ S2 := fun ls rs S2 p2 ρ g4 g10 a4 a10 hl => by
    have q4 := tupleD_at a4
    have q10 := tupleD_at a10
    have ad : addD (.tup (rs.map Rl.d)) (.tup [.tup [.tup [fr 1, fr 1], .tup []]]) S2 = .ok (.tup ((rs ++ [Rl.mk 1 1 []]).map Rl.d)) S2 := by
      have z : (rs.map Rl.d).length + [D.tup [.tup [fr 1, fr 1], .tup []]].length ≤ sizeLine := by
        rw [show sizeLine = 16777216 from rfl, List.length_map]; simp; omega
      have : addD (.tup (rs.map Rl.d)) (.tup [.tup [.tup [fr 1, fr 1], .tup []]]) S2 = .ok (.tup (rs.map Rl.d ++ [.tup [.tup [fr 1, fr 1], .tup []]])) S2 := if_pos z
      rw [this, List.map_append]
      rfl
    simp only [x_ret, x_tup, x_cons, x_nil, x_cb, x_op, x_c, x_var, g4, g10, R.bind_ok, one, q4, q10, List.length_cons, List.length_nil, ite_size, Nat.zero_le, if_true, Nat.reduceAdd, Nat.reduceLeDiff, t1, ad, R.to_ok, planD]
  by_cases c : r = 0
  rotate_left
  · obtain ⟨ok, okb⟩ := wheel_plan f1 f2 n1 n2 (more := []) (.inl rfl) ha hal (pre := []) (by simp) (by simp)
    refine ⟨[l1, l2], all ++ [⟨1, 1, []⟩], [some (.ref u), x1, x2, x3, some (.ref pl), x5, x6, x7, x8, x9, some (.ref pr), x11, x12, x13, x14, x15, x16, x17], S1, ?_, ok, okb, u1.mono (by omega), by rw [b1.len]; exact Nat.le_refl _, fun n hn hu _ _ => b1.at_ n hu⟩
    unfold whTail
    have c' : (r == 0) = false := by simpa using c
    rw [x_seq]
    simp only [x_ifS, x_b, x_op, x_call, x_cons, x_nil, x_c, x_var, List.getElem?_cons_zero, List.getElem?_cons_succ, R.bind_ok, List.length_cons, List.length_nil, Nat.reduceAdd, if_true, e1, x_eqI, c', x_toB, R.to_ok, Bool.false_eq_true, if_false, x_next, O.then_nx]
    exact fin [l1, l2] all S1 pr _ rfl rfl hL1 hR1 (by omega)
  · subst c
    obtain ⟨m, S2, e2, m0, m1, u2, b2⟩ := s_pull (m := 3) (n := 3) u1 (by decide) (by unfold Sz; decide) (by decide) (by omega)
    obtain ⟨n, S3, e3, n0, n1', u3, b3⟩ := s_pull (m := 9) (n := 5) u2 (by decide) (by unfold Sz; decide) (by decide) (by omega)
    have hL3 : S3[pl]? = some (.lst ([l1, l2].map Ln.d)) := by rw [b3.at_ _ hpu, b2.at_ _ hpu]; exact hL1
    have hR3 : S3[pr]? = some (.lst (all.map Rl.d)) := by rw [b3.at_ _ hru, b2.at_ _ hru]; exact hR1
    generalize hl3 : (⟨"z", 1, ((m - 1 : Int) : Rat), ((5 + n : Int) : Rat)⟩ : Ln) = l3
    have d3 : l3.d = .tup [.str "z", fr 1, fr ((m - 1 : Int) : Rat), fr ((5 + n : Int) : Rat)] := by rw [← hl3]; rfl
    have f3 : LnF l3 := by
      rw [← hl3]
      refine ⟨⟨RS.one.mono (by decide), RS.int (by unfold Sz; omega) (by decide), RS.int (by unfold Sz; omega) (by decide), by simp, show ("z" : Str) ∈ names by decide +kernel⟩, 1, m - 1, 5 + n, 1, by decide, by simp, by simp, by simp, by unfold Ab; decide, by unfold Ab; omega, by unfold Ab; omega⟩
    generalize hS4 : S3.set pl (.lst ([l1, l2, l3].map Ln.d)) = S4
    have hpl3 := (List.getElem?_eq_some_iff.mp hL3).1
    have hL4 : S4[pl]? = some (.lst ([l1, l2, l3].map Ln.d)) := by rw [← hS4, List.getElem?_set_self hpl3]
    have hR4 : S4[pr]? = some (.lst (all.map Rl.d)) := by rw [← hS4, List.getElem?_set_ne hpr]; exact hR3
    have u4 : Urn u (k + 1 + 1 + 1) S4 := hS4 ▸ u3.set hpu _
    obtain ⟨a, S5, e5, qa, u5, b5⟩ := s_smallQ u4 (by omega)
    obtain ⟨b, S6, e6, qb, u6, b6⟩ := s_smallQ u5 (by omega)
    have hL6 : S6[pl]? = some (.lst ([l1, l2, l3].map Ln.d)) := by rw [b6.at_ _ hpu, b5.at_ _ hpu]; exact hL4
    have hR6 : S6[pr]? = some (.lst (all.map Rl.d)) := by rw [b6.at_ _ hru, b5.at_ _ hru]; exact hR4
    generalize hr0 : (⟨a, b, [(("z" : Str), 1)]⟩ : Rl) = r0'
    have dr0 : r0'.d = .tup [.tup [fr a, fr b], .tup [.tup [.str "z", .int 1]]] := by rw [← hr0]; rfl
    have fr0 : RlF r0' := by rw [← hr0]; exact rl_qu _ qa qb (by decide) (by decide) (by decide) (by decide)
    obtain ⟨ok, okb⟩ := wheel_plan f1 f2 n1 n2 (more := [l3]) (.inr ⟨l3, rfl, f3, by rw [← hl3]⟩) ha hal (pre := [r0']) (by
      intro r hr
      simp at hr
      rw [hr]
      exact ⟨fr0, by simp, by rw [← hr0]⟩) (by simp)
    have lenS : S6.length = S.length := by rw [b6.len, b5.len, ← hS4, List.length_set, b3.len, b2.len, b1.len]
    have an : addN (.lst [r0'.d]) (.ref pr) S6 = .ok (.ref S6.length) (S6 ++ [.lst ((r0' :: all).map Rl.d)]) := by
      unfold addN
      rw [lstOf_ref hR6, lstOf_lst]
      simp only []
      rw [if_pos (show [r0'.d].length + (all.map Rl.d).length ≤ sizeLine by rw [show sizeLine = 16777216 from rfl]; simp; omega)]
      rfl
    refine ⟨[l1, l2, l3], [r0'] ++ (all ++ [⟨1, 1, []⟩]), [some (.ref u), x1, x2, x3, some (.ref pl), x5, x6, x7, x8, x9, some (.ref S6.length), x11, x12, x13, x14, x15, x16, x17], S6 ++ [.lst ((r0' :: all).map Rl.d)], ?_, ok, okb, (Grow.one S6 _).urn (u6.mono (by omega)), by rw [List.length_append, lenS]; exact Nat.le_add_right _ _, fun i hi hu hp1 hp2 => ?_⟩
    · have ap : appendD (.ref pl) [.tup [.str "z", fr 1, fr ((m - 1 : Int) : Rat), fr ((5 + n : Int) : Rat)]] S3 = .ok .non S4 := by
        simp only [appendD, hL3]
        rw [if_pos (by simp [sizeLine]), ← hS4, ← d3]
        rfl
      unfold whTail
      rw [x_seq]
      rw [dr0] at an
      have IF : mIfS (mB (mOp eqD (mCall 2 m_L_pull (mCons (mVar 0) (mCons (mC (.int 3)) mNil))) (mC (.int 0)))) (mSeq (mDrop (mMet isL appendD (mVar 4) (mCons (mTup (mCons (mC (.str "z")) (mCons (mTup (mCons (mC (.int 1)) (mCons (mC (.int 1)) mNil))) (mCons (mTup (mCons (mOp subD (mCall 2 m_L_pull (mCons (mVar 0) (mCons (mC (.int 3)) mNil))) (mC (.int 1))) (mCons (mC (.int 1)) mNil))) (mCons (mTup (mCons (mOp addD (mC (.int 5)) (mCall 2 m_L_pull (mCons (mVar 0) (mCons (mC (.int 9)) mNil)))) (mCons (mC (.int 1)) mNil))) mNil))))) mNil)))
          (mAsg (mOp addN (mLst (mCons (mTup (mCons (mTup (mCons (mCall 2 m_L_small (mCons (mVar 0) (mCons (mC (.int 2)) mNil))) (mCons (mCall 2 m_L_small (mCons (mVar 0) (mCons (mC (.int 2)) mNil))) mNil))) (mCons (mTup (mCons (mTup (mCons (mC (.str "z")) (mCons (mC (.int 1)) mNil))) mNil)) mNil))) mNil)) (mVar 10)) (gN 10))) mNext
          [some (.ref u), x1, x2, x3, some (.ref pl), x5, x6, x7, x8, x9, some (.ref pr), x11, x12, x13, x14, x15, x16, x17] S = .go .nx [some (.ref u), x1, x2, x3, some (.ref pl), x5, x6, x7, x8, x9, some (.ref S6.length), x11, x12, x13, x14, x15, x16, x17] (S6 ++ [.lst ((r0' :: all).map Rl.d)]) := by
        have t : (((0 : Int) == 0) = true) := rfl
        simp only [x_ifS, x_b, x_op, x_call, x_cons, x_nil, x_c, x_var, List.getElem?_cons_zero, List.getElem?_cons_succ, R.bind_ok, List.length_cons, List.length_nil, Nat.reduceAdd, if_true, e1, x_eqI, t, x_toB, R.to_ok, x_seq, x_drop, x_met, isL, lstOf, hL1, Option.isSome_some, x_tup, e2, x_sub, e3, x_add, fr_int, t1, ite_size, Nat.reduceLeDiff, ap, O.then_nx, x_asg, x_lst, e5, e6, an, x_gN, List.set]
      rw [IF, O.then_nx]
      exact fin [l1, l2, l3] (r0' :: all) (S6 ++ [.lst ((r0' :: all).map Rl.d)]) S6.length [some (.ref u), x1, x2, x3, some (.ref pl), x5, x6, x7, x8, x9, some (.ref S6.length), x11, x12, x13, x14, x15, x16, x17] rfl rfl ((Grow.one S6 _).at_ hL6) (by simp) (by simp; omega)
    · rw [List.getElem?_append_left (by omega), b6.at_ i hu, b5.at_ i hu, ← hS4, List.getElem?_set_ne (Ne.symm hp1), b3.at_ i hu, b2.at_ i hu, b1.at_ i hu]
noncomputable def whA : SM := mAsg (mCall 2 m_L_item (mCons (mVar 0) (mCons (mLst (mCons (mTup (mCons (mTup (mCons (mC (.int 1)) (mCons (mC (.int 1)) mNil))) (mCons (mTup (mCons (mC (.int 0)) (mCons (mC (.int 1)) mNil))) mNil))) (mCons (mTup (mCons (mTup (mCons (mC (.int 1)) (mCons (mC (.int 1)) mNil))) (mCons (mTup (mCons (mC (.int 1)) (mCons (mC (.int 2)) mNil))) mNil))) mNil))) mNil))) (gN 1)
noncomputable def whB : SM := mAsg (mCall 2 m_L_item (mCons (mVar 0) (mCons (mLst (mCons (mTup (mCons (mTup (mCons (mC (.int 0)) (mCons (mC (.int 1)) mNil))) (mCons (mTup (mCons (mC (.int 1)) (mCons (mC (.int 1)) mNil))) mNil))) (mCons (mTup (mCons (mTup (mCons (mOp subD (mC (.int 0)) (mC (.int 1))) (mCons (mC (.int 3)) mNil))) (mCons (mTup (mCons (mC (.int 1)) (mCons (mC (.int 1)) mNil))) mNil))) mNil))) mNil))) (gN 2)
noncomputable def whC : SM := mAsg (mTup (mCons (mCall 2 m_L_small (mCons (mVar 0) (mCons (mC (.int 2)) mNil))) (mCons (mCall 2 m_L_small (mCons (mVar 0) (mCons (mC (.int 2)) mNil))) mNil))) (gN 3)
noncomputable def whD4 : SM := mFor (mIt (mLst (mCons (mTup (mCons (mC (.str "x")) (mCons (mVar 1) mNil))) (mCons (mTup (mCons (mC (.str "y")) (mCons (mVar 2) mNil))) mNil)))) (gTupM 2 (gConsM (gN 5) (gConsM (gN 6) gNilM))) b_L_wheel_4
def whE : SM := mAsg (mLst (mCons (mTup (mCons (mC (.int 1)) (mCons (mC (.int 1)) mNil))) (mCons (mTup (mCons (mOp subD (mC (.int 0)) (mC (.int 1))) (mCons (mC (.int 1)) mNil))) (mCons (mTup (mCons (mOp subD (mC (.int 0)) (mC (.int 1))) (mCons (mOp subD (mC (.int 0)) (mC (.int 1))) mNil))) (mCons (mTup (mCons (mC (.int 1)) (mCons (mOp subD (mC (.int 0)) (mC (.int 1))) mNil))) mNil))))) (gN 8)
def whF : SM := mAsg (mLst (mCons (mTup (mCons (mOp subD (mC (.int 0)) (mC (.int 1))) (mCons (mC (.int 1)) mNil))) (mCons (mTup (mCons (mOp subD (mC (.int 0)) (mC (.int 1))) (mCons (mOp subD (mC (.int 0)) (mC (.int 1))) mNil))) (mCons (mTup (mCons (mC (.int 1)) (mCons (mOp subD (mC (.int 0)) (mC (.int 1))) mNil))) (mCons (mTup (mCons (mC (.int 1)) (mCons (mC (.int 1)) mNil))) mNil))))) (gN 9)
noncomputable def whG : SM := mIfS (mB (mOp eqD (mCall 2 m_L_pull (mCons (mVar 0) (mCons (mC (.int 2)) mNil))) (mC (.int 0)))) (mAsg (mLst (mCons (mTup (mCons (mC (.int 1)) (mCons (mOp subD (mC (.int 0)) (mC (.int 1))) mNil))) (mCons (mTup (mCons (mC (.int 1)) (mCons (mC (.int 1)) mNil))) (mCons (mTup (mCons (mOp subD (mC (.int 0)) (mC (.int 1))) (mCons (mC (.int 1)) mNil))) (mCons (mTup (mCons (mOp subD (mC (.int 0)) (mC (.int 1))) (mCons (mOp subD (mC (.int 0)) (mC (.int 1))) mNil))) mNil))))) (gN 9)) mNext
noncomputable def whH : SM := mFor (mZipQ (mVar 8) (mVar 9)) (gTupM 2 (gConsM (gN 11) (gConsM (gN 12) gNilM))) b_L_wheel_3
theorem wheel_def : m_L_wheel = mFun 18 (mSeq whA (mSeq whB (mSeq whC (mSeq (mAsg (mNew mNil) (gN 4)) (mSeq whD4 (mSeq whE (mSeq whF (mSeq whG (mSeq (mAsg (mNew mNil) (gN 10)) (mSeq whH whTail)))))))))) := rfl
theorem s_wheel {u k : Nat} {S : Store} (h : Urn u k S) (hk : k < 2 ^ 55) : ∃ (ls : List Ln) (rs : List Rl) (S' : Store), m_L_wheel [.ref u] S = .ok (planD ls rs) S' ∧ PlOk ls rs ∧ PlB ls rs 27 24 9 9 ∧ Urn u (k + 60) S' ∧ Ext u S S' := by
  have t0 : D.tup [.int 0, .int 1] = fr 0 := rfl
  have t1 : D.tup [.int 1, .int 1] = fr 1 := rfl
  obtain ⟨d1, S1, e1, h1, u1, b1⟩ := s_item (l := [.tup [fr 1, fr 0], .tup [fr 1, fr (Rat.divInt 1 2)]]) h (by simp) (by simp) (by omega)
  obtain ⟨a1, c1, rfl, hab1, ra1, rc1⟩ : ∃ a b : Rat, d1 = .tup [fr a, fr b] ∧ ((a = 1 ∧ b = 0) ∨ (a = 1 ∧ b = Rat.divInt 1 2) ∨ (a = 0 ∧ b = 1) ∨ (a = Rat.divInt (-1) 3 ∧ b = 1)) ∧ RS 3 a ∧ RS 3 b := by
    simp only [List.mem_cons, List.not_mem_nil, or_false] at h1
    rcases h1 with rfl | rfl
    · exact ⟨_, _, rfl, .inl ⟨rfl, rfl⟩, RS.one.mono (by decide), RS.zero.mono (by decide)⟩
    · exact ⟨_, _, rfl, .inr (.inl ⟨rfl, rfl⟩), RS.one.mono (by decide), qu_half⟩
  obtain ⟨d2, S2, e2, h2, u2, b2⟩ := s_item (l := [.tup [fr 0, fr 1], .tup [fr (Rat.divInt (-1) 3), fr 1]]) u1 (by simp) (by simp) (by omega)
  obtain ⟨a2, c2, rfl, hab2, ra2, rc2⟩ : ∃ a b : Rat, d2 = .tup [fr a, fr b] ∧ ((a = 1 ∧ b = 0) ∨ (a = 1 ∧ b = Rat.divInt 1 2) ∨ (a = 0 ∧ b = 1) ∨ (a = Rat.divInt (-1) 3 ∧ b = 1)) ∧ RS 3 a ∧ RS 3 b := by
    simp only [List.mem_cons, List.not_mem_nil, or_false] at h2
    rcases h2 with rfl | rfl
    · exact ⟨_, _, rfl, .inr (.inr (.inl ⟨rfl, rfl⟩)), RS.zero.mono (by decide), RS.one.mono (by decide)⟩
    · exact ⟨_, _, rfl, .inr (.inr (.inr ⟨rfl, rfl⟩)), qu_third, RS.one.mono (by decide)⟩
  obtain ⟨s1, S3, e3, q1, u3, b3⟩ := s_smallQ u2 (by omega)
  obtain ⟨s2, S4, e4, q2, u4, b4⟩ := s_smallQ u3 (by omega)
  have bb := ((b1.trans b2).trans b3).trans b4
  have rs1 : RS 5 s1 := q1.rs (by decide) (by decide) (by decide)
  have rs2 : RS 5 s2 := q2.rs (by decide) (by decide) (by decide)
  have hul : u < S4.length := by
    obtain ⟨_, _, _, q, _⟩ := u4.ex
    exact (List.getElem?_eq_some_iff.mp q).1
  have f1 := ln_wheel q1 q2 (nm := "x") (by decide +kernel) hab1
  have f2 := ln_wheel q1 q2 (nm := "y") (by decide +kernel) hab2
  generalize hL1 : (⟨"x", a1, c1, a1 * s1 + c1 * s2⟩ : Ln) = l1 at f1
  generalize hL2 : (⟨"y", a2, c2, a2 * s1 + c2 * s2⟩ : Ln) = l2 at f2
  have w0 : (S4 ++ [Ob.lst []])[S4.length]? = some (.lst (([] : List Ln).map Ln.d)) := by simp
  have wl1 := wheel_line (nm := "x") ra1 rc1 rs1 rs2 [] w0 (by simp) (some (.ref u)) (some (.tup [fr a1, fr c1])) (some (.tup [fr a2, fr c2])) none none none none none none none none none none none
  rw [List.nil_append, hL1] at wl1
  have w1 : ((S4 ++ [Ob.lst []]).set S4.length (.lst ([l1].map Ln.d)))[S4.length]? = some (.lst ([l1].map Ln.d)) := by rw [List.getElem?_set_self (by simp)]
  have wl2 := wheel_line (nm := "y") ra2 rc2 rs1 rs2 [l1] w1 (by simp) (some (.ref u)) (some (.tup [fr a1, fr c1])) (some (.tup [fr a2, fr c2])) (some (fr (a1 * s1 + c1 * s2))) none none none none none none none none none none
  rw [hL2, List.set_set] at wl2
  have cc : [l1] ++ [l2] = [l1, l2] := rfl
  rw [cc] at wl2
  generalize hS5 : (S4 ++ [Ob.lst []]).set S4.length (.lst ([l1, l2].map Ln.d)) = S5 at wl2
  have len5 : S5.length = S4.length + 1 := by rw [← hS5]; simp
  have hL5 : S5[S4.length]? = some (.lst ([l1, l2].map Ln.d)) := by rw [← hS5, List.getElem?_set_self (by simp)]
  have at5 : ∀ n, n < S4.length → S5[n]? = S4[n]? := fun n hn => by rw [← hS5, List.getElem?_set_ne (by omega), List.getElem?_append_left hn]
  have u5 : Urn u (k + 1 + 1 + 2 + 2) S5 := hS5 ▸ ((Grow.one S4 _).urn u4).set (by omega) _
  obtain ⟨g, S6, e6, g0, g1, u6, b6⟩ := s_pull (m := 2) (n := 3) u5 (by decide) (by unfold Sz; decide) (by decide) (by omega)
  have hL6 : S6[S4.length]? = some (.lst ([l1, l2].map Ln.d)) := by rw [b6.at_ _ (by omega)]; exact hL5
  obtain ⟨ws, hws, hwsl, hwE, hw9⟩ : ∃ ws : List ((Int × Int) × (Int × Int)), (∀ w ∈ ws, Wh w) ∧ ws.length = 4 ∧ (ws.map fun w => whD w.1) = [whD (1, 1), whD (-1, 1), whD (-1, -1), whD (1, -1)] ∧ ∀ (x3 x4 x5 x6 x7 : Option D), whG [some (.ref u), some (.tup [fr a1, fr c1]), some (.tup [fr a2, fr c2]), x3, x4, x5, x6, x7, some (.lst (ws.map fun w => whD w.1)), some (.lst (ways1.map fun w => whD w.2)), none, none, none, none, none, none, none, none] S5 = .go .nx [some (.ref u), some (.tup [fr a1, fr c1]), some (.tup [fr a2, fr c2]), x3, x4, x5, x6, x7, some (.lst (ws.map fun w => whD w.1)), some (.lst (ws.map fun w => whD w.2)), none, none, none, none, none, none, none, none] S6 := by
    by_cases c : g = 0
    · subst c
      refine ⟨ways2, ways_wh.2, rfl, rfl, fun x3 x4 x5 x6 x7 => ?_⟩
      have t : (((0 : Int) == 0) = true) := rfl
      unfold whG
      simp [e6, sizeLine, ways2, whD]
    · refine ⟨ways1, ways_wh.1, rfl, rfl, fun x3 x4 x5 x6 x7 => ?_⟩
      unfold whG
      simp [e6, c]
  have u7 : Urn u (k + 1 + 1 + 2 + 2 + 1) (S6 ++ [.lst []]) := (Grow.one S6 _).urn u6
  have len6 : S6.length = S4.length + 1 := by rw [b6.len, len5]
  obtain ⟨y11, y12, y13, y14, S8, all, e8, u8, b8, hR8, hall, lall⟩ := wheel_rules (p := S6.length) (by omega) (some (.tup [fr a1, fr c1])) (some (.tup [fr a2, fr c2])) (some (.tup [fr s1, fr s2])) (some (.ref S4.length)) (some (.str "y")) (some (.tup [fr a2, fr c2])) (some (fr (a2 * s1 + c2 * s2))) (some (.lst (ws.map fun w => whD w.1))) (some (.lst (ws.map fun w => whD w.2))) none none none ws [] none none none none hws u7 (by rw [hwsl]; omega) (by simp) (by rw [hwsl]; decide) (by simp)
  have hL8 : S8[S4.length]? = some (.lst ([l1, l2].map Ln.d)) := by
    rw [b8.at_ _ (by omega) (by omega), List.getElem?_append_left (by omega)]; exact hL6
  obtain ⟨ls, rs, ρ', S9, e9, ok, okb, u9, len9, at9⟩ := wh_tail (pl := S4.length) (pr := S6.length) (by omega) (by omega) (by omega) u8 (by rw [hwsl]; omega) f1 f2 (by rw [← hL1]) (by rw [← hL2]) hall (by rw [lall, hwsl]; rfl) hL8 hR8 (some (.tup [fr a1, fr c1])) (some (.tup [fr a2, fr c2])) (some (.tup [fr s1, fr s2])) (some (.str "y")) (some (.tup [fr a2, fr c2])) (some (fr (a2 * s1 + c2 * s2))) (some (.lst (ws.map fun w => whD w.1))) (some (.lst (ws.map fun w => whD w.2))) y11 y12 y13 y14 none none none
  refine ⟨ls, rs, S9, ?_, ok, okb, u9.mono (by rw [hwsl]; omega), ?_, fun n hn hu => ?_⟩
  · have wsf : ∀ S, (mZipQ (mVar 8) (mVar 9) [some (.ref u), some (.tup [fr a1, fr c1]), some (.tup [fr a2, fr c2]), some (.tup [fr s1, fr s2]), some (.ref S4.length), some (.str "y"), some (.tup [fr a2, fr c2]), some (fr (a2 * s1 + c2 * s2)), some (.lst (ws.map fun w => whD w.1)), some (.lst (ws.map fun w => whD w.2)), some (.ref S6.length), none, none, none, none, none, none, none] S) = .ok (ws.map fun w => .wt [whD w.1, whD w.2]) S := fun S => by
      have : ∀ ws : List ((Int × Int) × (Int × Int)), (zipL (ws.map fun w => whD w.1) (ws.map fun w => whD w.2)).map D.wt = ws.map fun w => .wt [whD w.1, whD w.2] := by
        intro ws
        induction ws with
        | nil => rfl
        | cons w ws ih => simp only [List.map_cons, zipL, ih]
      rw [← this ws]
      rfl
    have A : whA (start0 18 [.ref u]) S = .go .nx [some (.ref u), some (.tup [fr a1, fr c1]), none, none, none, none, none, none, none, none, none, none, none, none, none, none, none, none] S1 := by
      unfold whA
      simp [sizeLine, t0, t1, half_fr, e1]
    have B : whB [some (.ref u), some (.tup [fr a1, fr c1]), none, none, none, none, none, none, none, none, none, none, none, none, none, none, none, none] S1 = .go .nx [some (.ref u), some (.tup [fr a1, fr c1]), some (.tup [fr a2, fr c2]), none, none, none, none, none, none, none, none, none, none, none, none, none, none, none] S2 := by
      unfold whB
      simp [sizeLine, t0, t1, third_fr, e2]
    have C : whC [some (.ref u), some (.tup [fr a1, fr c1]), some (.tup [fr a2, fr c2]), none, none, none, none, none, none, none, none, none, none, none, none, none, none, none] S2 = .go .nx [some (.ref u), some (.tup [fr a1, fr c1]), some (.tup [fr a2, fr c2]), some (.tup [fr s1, fr s2]), none, none, none, none, none, none, none, none, none, none, none, none, none, none] S4 := by
      unfold whC
      simp [sizeLine, e3, e4]
    have Dd : whD4 [some (.ref u), some (.tup [fr a1, fr c1]), some (.tup [fr a2, fr c2]), some (.tup [fr s1, fr s2]), some (.ref S4.length), none, none, none, none, none, none, none, none, none, none, none, none, none] (S4 ++ [.lst []]) = .go .nx [some (.ref u), some (.tup [fr a1, fr c1]), some (.tup [fr a2, fr c2]), some (.tup [fr s1, fr s2]), some (.ref S4.length), some (.str "y"), some (.tup [fr a2, fr c2]), some (fr (a2 * s1 + c2 * s2)), none, none, none, none, none, none, none, none, none, none] S5 := by
      unfold whD4
      simp only [x_for, x_it, x_lst, x_cons, x_nil, x_tup, x_c, x_var, List.getElem?_cons_zero, List.getElem?_cons_succ, R.bind_ok, List.length_cons, List.length_nil, ite_size, Nat.reduceAdd, Nat.reduceLeDiff, x_itL, R.to_ok, mForL, x_gTup, x_gCons, x_gN, x_gNil, if_true, Option.bind_some, List.set, wl1, wl2]
    have E : ∀ x3 x4 x5 x6 x7 S, (whE [some (.ref u), some (.tup [fr a1, fr c1]), some (.tup [fr a2, fr c2]), x3, x4, x5, x6, x7, none, none, none, none, none, none, none, none, none, none] S) = .go .nx [some (.ref u), some (.tup [fr a1, fr c1]), some (.tup [fr a2, fr c2]), x3, x4, x5, x6, x7, some (.lst (ws.map fun w => whD w.1)), none, none, none, none, none, none, none, none, none] S := fun x3 x4 x5 x6 x7 S => by
      rw [hwE]
      unfold whE
      simp [sizeLine, whD]
    have F : ∀ x3 x4 x5 x6 x7 x8 S, (whF [some (.ref u), some (.tup [fr a1, fr c1]), some (.tup [fr a2, fr c2]), x3, x4, x5, x6, x7, x8, none, none, none, none, none, none, none, none, none] S) = .go .nx [some (.ref u), some (.tup [fr a1, fr c1]), some (.tup [fr a2, fr c2]), x3, x4, x5, x6, x7, x8, some (.lst (ways1.map fun w => whD w.2)), none, none, none, none, none, none, none, none] S := fun x3 x4 x5 x6 x7 x8 S => by
      unfold whF
      simp [sizeLine, ways1, whD]
    rw [wheel_def, x_fun, x_seq, A, O.then_nx, x_seq, B, O.then_nx, x_seq, C, O.then_nx, x_seq]
    simp only [x_asg, x_new, x_nil, R.bind_ok, List.length_nil, ite_size, Nat.zero_le, if_true, R.to_ok, x_gN, List.set, O.then_nx]
    rw [x_seq, Dd, O.then_nx, x_seq, E, O.then_nx, x_seq, F, O.then_nx, x_seq, hw9, O.then_nx, x_seq]
    simp only [x_asg, x_new, x_nil, R.bind_ok, List.length_nil, ite_size, Nat.zero_le, if_true, R.to_ok, x_gN, List.set, O.then_nx]
    rw [x_seq]
    have H : whH [some (.ref u), some (.tup [fr a1, fr c1]), some (.tup [fr a2, fr c2]), some (.tup [fr s1, fr s2]), some (.ref S4.length), some (.str "y"), some (.tup [fr a2, fr c2]), some (fr (a2 * s1 + c2 * s2)), some (.lst (ws.map fun w => whD w.1)), some (.lst (ws.map fun w => whD w.2)), some (.ref S6.length), none, none, none, none, none, none, none] (S6 ++ [.lst []]) = .go .nx [some (.ref u), some (.tup [fr a1, fr c1]), some (.tup [fr a2, fr c2]), some (.tup [fr s1, fr s2]), some (.ref S4.length), some (.str "y"), some (.tup [fr a2, fr c2]), some (fr (a2 * s1 + c2 * s2)), some (.lst (ws.map fun w => whD w.1)), some (.lst (ws.map fun w => whD w.2)), some (.ref S6.length), y11, y12, y13, y14, none, none, none] S8 := by
      unfold whH
      rw [x_for, wsf]
      simp only [R.to_ok]
      exact e8
    rw [H, O.then_nx, e9]
  · have := b8.len
    rw [List.length_append, len6] at this
    have := bb.len
    simp at *
    omega
  · rw [at9 n (by have := b8.len; rw [List.length_append, len6] at this; have := bb.len; omega) hu (by have := bb.len; omega) (by have := bb.len; omega), b8.at_ n hu (by have := bb.len; omega), List.getElem?_append_left (by have := bb.len; omega), b6.at_ n hu, at5 n (by have := bb.len; omega), bb.at_ n hu]
end DL

/-! Plain laws: courses are shown. -/
namespace DL
open PySem PySem.Spec PyProof.Rows L2
mutual
/-- numbers only, of less than 4250 bits -/
def numD : D → Prop
  | .int i => Sz 4250 i
  | .tup l => numDs l
  | .lst l => numDs l
  | _ => False
def numDs : List D → Prop
  | [] => True
  | d :: ds => numD d ∧ numDs ds
end
theorem pow_digits2 : 2 ^ 4250 ≤ 10 ^ 1300 := by decide +kernel
mutual
theorem num_short : ∀ (d : D) (n : Nat), numD d → plain n d = true → fewB (toPy d) = true ∧ (toPy d).leavesShort 1301 = true
  | .int i, _, h, _ => by
    simp only [numD] at h
    have h0 : i.natAbs < 10 ^ 1300 := Nat.lt_of_lt_of_le h pow_digits2
    have h1 : i.natAbs < 10 ^ 4300 := Nat.lt_of_lt_of_le h0 (Nat.pow_le_pow_right (by decide) (by decide))
    refine ⟨by simp only [toPy, fewB]; exact decide_eq_true h1, ?_⟩
    simp only [toPy, PyData.leavesShort]
    refine decide_eq_true ?_
    have e := int_text_length_le10 (a := i) (k := 1300) (by decide) h0
    show (Str.ofString (toString i)).length ≤ 1301
    rw [PySem.ofString_length]; exact e
  | .tup l, 0, _, hp => by simp [plain] at hp
  | .tup l, n + 1, h, hp => by
    simp only [numD] at h
    simp only [plain] at hp
    simpa [toPy, fewB, PyData.leavesShort] using nums_short l n h hp
  | .lst l, 0, _, hp => by simp [plain] at hp
  | .lst l, n + 1, h, hp => by
    simp only [numD] at h
    simp only [plain] at hp
    simpa [toPy, fewB, PyData.leavesShort] using nums_short l n h hp
  | .non, _, h, _ => by simp [numD] at h
  | .bl _, _, h, _ => by simp [numD] at h
  | .str _, _, h, _ => by simp [numD] at h
  | .wt .., _, _, hp => by simp [plain] at hp
  | .obj .., _, _, hp => by simp [plain] at hp
  | .exc .., _, _, hp => by simp [plain] at hp
  | .ref .., _, _, hp => by simp [plain] at hp
theorem nums_short : ∀ (ds : List D) (n : Nat), numDs ds → plains n ds = true → fewsB (toPys ds) = true ∧ PyData.leavesShortAll 1301 (toPys ds) = true
  | [], _, _, _ => ⟨rfl, rfl⟩
  | d :: ds, n, h, hp => by
    simp only [numDs] at h
    simp only [plains, Bool.and_eq_true] at hp
    have h1 := num_short d n h.1 hp.1
    have h2 := nums_short ds n h.2 hp.2
    simp [toPys, fewsB, PyData.leavesShortAll, h1, h2]
end
theorem shw_num {d : D} (hp : plain 63 d = true) (hs : numD d) (hb : (toPy d).bulk ≤ 12000) : Shw d := by
  obtain ⟨h1, h2⟩ := num_short d 63 hs hp
  refine ⟨hp, h1, ?_⟩
  have := PyData.shown_le_bulk 1301 (by decide) _ h2
  have e : sizeLine = 16777216 := rfl
  have : (1301 + 2) * (toPy d).bulk ≤ 1303 * 12000 := Nat.mul_le_mul_left _ hb
  omega
theorem numDs_map {α : Type} (f : α → D) : ∀ l : List α, (∀ a ∈ l, numD (f a)) → numDs (l.map f)
  | [], _ => trivial
  | a :: l, h => ⟨h a List.mem_cons_self, numDs_map f l fun b hb => h b (List.mem_cons_of_mem _ hb)⟩
theorem num_fr {q : Rat} (h : RS 4250 q) : numD (fr q) := by
  simp only [fr, numD, numDs]; exact ⟨h.1, h.den, trivial⟩
/-- an entry with its sizes -/
structure EnOk (n : Nat) (e : En) : Prop where
  t : RS 4250 e.t
  x : RS 4250 e.x
  y : RS 4250 e.y
  u : Uni e.m.1
  l : e.m.1.length ≤ n
  p : RS 200 e.m.2.1
  q : RS 200 e.m.2.2
theorem en_shown {e : En} (h : EnOk 6 e) : plain 62 e.d = true ∧ numD e.d ∧ (toPy e.d).bulk ≤ 24 := by
  obtain ⟨a1, _, a3⟩ := face_shown h.u 60
  obtain ⟨b1, _, b3⟩ := pt_shown h.p h.q (by decide) 59
  have := h.l
  refine ⟨?_, ?_, ?_⟩
  · simp only [En.d, plain, plains, plain_fr, a1, b1, Bool.and_true]
  · simp only [En.d, ptD, faceD, numD, numDs]
    refine ⟨num_fr h.t, ⟨num_fr h.x, num_fr h.y, trivial⟩, numDs_map _ _ fun v hv => ?_, ⟨num_fr (h.p.mono (by decide)), num_fr (h.q.mono (by decide)), trivial⟩, trivial⟩
    simp only [numD]
    exact Nat.lt_of_le_of_lt (h.u v hv) (Nat.one_lt_two_pow (by decide))
  · simp only [En.d, toPy, toPys, PyData.bulk, PyData.bulkAll, bulk_fr, b3]
    omega
theorem course_ok {ls : List Ln} {rs : List Rl} (hp : PlOk ls rs) {K : Nat} {G : Nat → Rat → Rat → Rat → Prop} (hG : Good ls rs K G) : ∀ (n k : Nat) (t x y : Rat), G k t x y → k + n ≤ K → (courseQ ls rs n t x y).length ≤ n ∧ ∀ e ∈ courseQ ls rs n t x y, EnOk 6 e
  | 0, k, t, x, y, g, hk => ⟨Nat.le_refl _, nofun⟩
  | n + 1, k, t, x, y, g, hk => by
    obtain ⟨rt, rx, ry⟩ := hG.sz k t x y g
    obtain ⟨f1, f2⟩ := moveQ_face (ls := ls) (rs := rs) (h := sidesF ls x y) (sides_uni ls x y)
    obtain ⟨r1, r2⟩ := moveQ_rs hp (sidesF ls x y)
    have ok : EnOk 6 ⟨t, x, y, mvQ ls rs x y⟩ := ⟨rt, rx, ry, f1, by
      have := hp.ll
      show (mvQ ls rs x y).1.length ≤ 6
      rw [f2, sidesF_len]; exact this, r1, r2⟩
    rw [courseQ]
    cases q : stepQ ls rs x y with
    | none =>
      refine ⟨by simp, fun e he => ?_⟩
      simp at he
      subst he; exact ok
    | some s =>
      obtain ⟨_, g'⟩ := hG.go k t x y s (by omega) g q
      obtain ⟨h1, h2⟩ := course_ok hp hG n (k + 1) _ _ _ g' (by omega)
      refine ⟨by simp only [List.length_cons]; omega, fun e he => ?_⟩
      rcases List.mem_cons.mp he with rfl | he
      · exact ok
      · exact h2 e he
theorem shw_course {ls : List Ln} {rs : List Rl} (hp : PlOk ls rs) {K : Nat} {G : Nat → Rat → Rat → Rat → Prop} (hG : Good ls rs K G) {n : Nat} {t x y : Rat} (g : G 0 t x y) (hn : n ≤ K) (hn2 : n ≤ 300) : Shw (.lst ((courseQ ls rs n t x y).map En.d)) := by
  obtain ⟨h1, h2⟩ := course_ok hp hG n 0 t x y g (by omega)
  have p1 := plains_map En.d 62 (courseQ ls rs n t x y) fun e he => (en_shown (h2 e he)).1
  have p2 := numDs_map En.d (courseQ ls rs n t x y) fun e he => (en_shown (h2 e he)).2.1
  have p3 := bulk_map En.d 24 (courseQ ls rs n t x y) fun e he => (en_shown (h2 e he)).2.2
  refine shw_num ?_ ?_ ?_
  · simp only [plain, p1]
  · simp only [numD]; exact p2
  · simp only [toPy, PyData.bulk]
    omega
theorem twin_ref {p : Nat} {S : Store} {l : List D} (hS : S[p]? = some (.lst l)) (h : Shw (.lst l)) : m_L_twin [.ref p, .lst l] S = .ok (.bl true) S := by
  have e1 : reprD (.ref p) S = .ok (.str (toPy (.lst l)).shown) S := by
    unfold reprD
    rw [derD_ref hS]
    simp [h.p, h.s, h.l]
  have e2 := repr_ok S h
  unfold m_L_twin
  simp [e1, e2, eq_str]
end DL

/-! k47's plain law. -/
namespace DL
open PySem PySem.Spec PyProof.Rows L2
theorem len200 : ∀ n : Nat, n ≤ 300 → n + 1 ≤ sizeLine := fun n h => by rw [show sizeLine = 16777216 from rfl]; omega
section
variable {ls : List Ln} {rs : List Rl} (hp : PlOk ls rs) {K : Nat} {G : Nat → Rat → Rat → Rat → Prop} (hG : Good ls rs K G)
include hp hG
theorem count_turn {c : Nat} (hc : c + 1 ≤ K) (hcc : c ≤ 250) {x y : Rat} (g : G 0 0 x y) (S : Store) (d0 d1 d2 d4 d5 d9 x10 : Option D) : ∃ S' : Store,
    b_law_1 [d0, d1, d2, some (planD ls rs), d4, d5, some (.tup [fr x, fr y]), some (.int (c : Nat)), some (.lst ((courseQ ls rs (c + 1) 0 x y).map En.d)), d9, x10] S = .go .nx [d0, d1, d2, some (planD ls rs), d4, d5, some (.tup [fr x, fr y]), some (.int (c : Nat)), some (.lst ((courseQ ls rs (c + 1) 0 x y).map En.d)), d9, some (.ref S.length)] S' ∧ Ext 0 S S' := by
  obtain ⟨S1, e1, h1, l1, a1⟩ := s_course hp hG hc (by omega) g S
  have e2 := twin_ref h1 (shw_course hp hG g hc (by omega))
  have ll := (course_ok hp hG (c + 1) 0 0 x y g (by omega)).1
  have ap : appendD (.ref S.length) [.str ""] S1 = .ok .non (S1.set S.length (.lst ((courseQ ls rs (c + 1) 0 x y).map En.d ++ [.str ""]))) := by
    simp only [appendD, h1]
    rw [if_pos (by rw [List.length_map]; exact len200 _ (by omega))]
  refine ⟨S1.set S.length (.lst ((courseQ ls rs (c + 1) 0 x y).map En.d ++ [.str ""])), ?_, ?_⟩
  · unfold b_law_1
    simp only [x_seq, x_asg, x_call, x_cons, x_nil, x_var, x_c, List.getElem?_cons_zero, List.getElem?_cons_succ, R.bind_ok, List.length_cons, List.length_nil, Nat.reduceAdd, if_true, e1, R.to_ok, x_gN, List.set, O.then_nx, x_ifS, x_not, x_b, e2, x_toB, Bool.not_true, Bool.false_eq_true, if_false, x_next, x_drop, x_met, isL, lstOf, h1, Option.isSome_some, ap]
  · exact ⟨by rw [List.length_set]; omega, fun i hi _ => by rw [List.getElem?_set_ne (by omega)]; exact a1 i hi⟩
end
theorem point_turn {ls : List Ln} {rs : List Rl} (hp : PlOk ls rs) {k : Nat} {S : Store} (h : Urn 1 k S) (hk : k < 2 ^ 57) (d0 d2 d4 d5 x6 x7 x8 x9 x10 : Option D) : ∃ (y6 y7 y8 y9 y10 : Option D) (S' : Store),
    b_law_2 [d0, some (.ref 1), d2, some (planD ls rs), d4, d5, x6, x7, x8, x9, x10] S = .go .nx [d0, some (.ref 1), d2, some (planD ls rs), d4, d5, y6, y7, y8, y9, y10] S' ∧ Urn 1 (k + 100) S' := by
  obtain ⟨x, y, S1, e1, rx, ry, u1, b1⟩ := s_some_point hp h (by omega)
  obtain ⟨d, S2, e2, hd, u2, b2⟩ := s_item (l := [.int 1, .int 4, .int 31]) u1 (by simp) (by simp) (by omega)
  obtain ⟨m, rfl, m0, m1⟩ : ∃ m : Int, d = .int m ∧ 0 < m ∧ m ≤ 31 := by
    simp only [List.mem_cons, List.not_mem_nil, or_false] at hd
    rcases hd with rfl | rfl | rfl <;> exact ⟨_, rfl, by decide, by decide⟩
  obtain ⟨r, S3, e3, r0, r1, u3, b3⟩ := s_pull (m := m) (n := 6) u2 m0 (by unfold Sz; omega) (by decide) (by omega)
  obtain ⟨c, rfl⟩ := Int.eq_ofNat_of_zero_le r0
  have g : (0 : Nat) ≤ 40 ∧ PtB (2 ^ 140 * (2 ^ 72) ^ 0) (2 ^ 74) 0 x y := ⟨by decide, by simpa using pt_b rx ry _⟩
  have hG := good_small hp
  obtain ⟨S4, e4, l4, a4⟩ := s_entries hp hG (c := c) (by omega) (by omega) g S3
  have u4 : Urn 1 (k + 20 + 1 + 1) S4 := Ext.urn (p := 0) ⟨by omega, fun i hi _ => a4 i hi⟩ (by decide) u3
  obtain ⟨ρ', S5, e5, y9, y10, rfl, u5⟩ := for_inv (gm := gN 9) (fb := b_law_1)
    (fun ds ρ S => ∃ (y9 y10 : Option D), ρ = [d0, some (.ref 1), d2, some (planD ls rs), d4, d5, some (.tup [fr x, fr y]), some (.int (c : Nat)), some (.lst ((courseQ ls rs (c + 1) 0 x y).map En.d)), y9, y10] ∧ Urn 1 (k + 20 + 1 + 1) S)
    (fun d ds ρ S ⟨y9, y10, hρ, hu⟩ => by
      subst hρ
      obtain ⟨S', e, gw⟩ := count_turn hp hG (c := c) (by omega) (by omega) g S d0 (some (.ref 1)) d2 d4 d5 (some d) y10
      exact ⟨_, _, _, S', rfl, e, _, _, rfl, gw.urn (by decide) hu⟩)
    (rangeL 0 2) _ S4 ⟨x9, x10, rfl, u4⟩
  refine ⟨some (.tup [fr x, fr y]), some (.int (c : Nat)), some (.lst ((courseQ ls rs (c + 1) 0 x y).map En.d)), y9, y10, S5, ?_, u5.mono (by omega)⟩
  unfold b_law_2
  simp only [x_seq, x_asg, x_call, x_cons, x_nil, x_var, x_c, x_lst, List.getElem?_cons_zero, List.getElem?_cons_succ, R.bind_ok, List.length_cons, List.length_nil, Nat.reduceAdd, Nat.reduceLeDiff, ite_size, if_true, e1, e2, e3, e4, R.to_ok, x_gN, List.set, O.then_nx, x_for, x_range1, show (-(2 ^ 62) ≤ (2 : Int) ∧ (2 : Int) < 2 ^ 62) from by decide, show (2 : Int).toNat = 2 from rfl]
  simp only [and_self, if_true, R.to_ok]
  rw [e5]
theorem plan_turn {k : Nat} {S : Store} (h : Urn 1 k S) (hk : k < 2 ^ 56) (d0 d2 x3 x4 x5 x6 x7 x8 x9 x10 : Option D) : ∃ (y3 y4 y5 y6 y7 y8 y9 y10 : Option D) (S' : Store),
    b_law_3 [d0, some (.ref 1), d2, x3, x4, x5, x6, x7, x8, x9, x10] S = .go .nx [d0, some (.ref 1), d2, y3, y4, y5, y6, y7, y8, y9, y10] S' ∧ Urn 1 (k + 2000) S' := by
  obtain ⟨ls, rs, S1, e1, hp, u1, _⟩ := s_some_plan h (by omega)
  have hr := fun S => repr_ok S (shw_plan hp)
  obtain ⟨ρ', S2, e2, y5, y6, y7, y8, y9, y10, k2, rfl, u2, hk2⟩ := for_inv (gm := gN 5) (fb := b_law_2)
    (fun ds ρ S => ∃ (y5 y6 y7 y8 y9 y10 : Option D) (k' : Nat), ρ = [d0, some (.ref 1), d2, some (planD ls rs), some (.str (toPy (planD ls rs)).shown), y5, y6, y7, y8, y9, y10] ∧ Urn 1 k' S ∧ k' + 100 * ds.length ≤ k + 1200)
    (fun d ds ρ S ⟨y5, y6, y7, y8, y9, y10, k', hρ, hu, hk'⟩ => by
      subst hρ
      simp only [List.length_cons] at hk'
      obtain ⟨z6, z7, z8, z9, z10, S', e, u'⟩ := point_turn hp hu (by omega) d0 d2 (some (.str (toPy (planD ls rs)).shown)) (some d) y6 y7 y8 y9 y10
      exact ⟨_, _, _, S', rfl, e, _, z6, z7, z8, z9, z10, _, rfl, u', by omega⟩)
    (rangeL 0 3) _ S1 ⟨x5, x6, x7, x8, x9, x10, _, rfl, u1, by simp [rangeL]⟩
  refine ⟨some (planD ls rs), some (.str (toPy (planD ls rs)).shown), y5, y6, y7, y8, y9, y10, S2, ?_, u2.mono (by simp at hk2; omega)⟩
  unfold b_law_3
  simp only [x_seq, x_asg, x_call, x_cons, x_nil, x_var, x_c, List.getElem?_cons_zero, List.getElem?_cons_succ, R.bind_ok, R.to_ok, x_gN, List.set, O.then_nx, List.length_cons, List.length_nil, if_true, e1, x_cb, one, hr, x_for, x_range1, show (-(2 ^ 62) ≤ (3 : Int) ∧ (3 : Int) < 2 ^ 62) from by decide, show (3 : Int).toNat = 3 from rfl]
  simp only [and_self, if_true, R.to_ok]
  rw [e2]
  simp [hr, neD]
theorem law_holds : LawD m_law := by
  intro ns hl _
  obtain ⟨S, e, u, _⟩ := s_urn ns hl
  obtain ⟨ρ', S2, e2, y2, y3, y4, y5, y6, y7, y8, y9, y10, k2, rfl, u2, hk2⟩ := for_inv (gm := gN 2) (fb := b_law_3)
    (fun ds ρ S => ∃ (y2 y3 y4 y5 y6 y7 y8 y9 y10 : Option D) (k' : Nat), ρ = [some (.lst (ns.map .int)), some (.ref 1), y2, y3, y4, y5, y6, y7, y8, y9, y10] ∧ Urn 1 k' S ∧ k' + 2000 * ds.length ≤ 12000)
    (fun d ds ρ S ⟨y2, y3, y4, y5, y6, y7, y8, y9, y10, k', hρ, hu, hk'⟩ => by
      subst hρ
      simp only [List.length_cons] at hk'
      obtain ⟨z3, z4, z5, z6, z7, z8, z9, z10, S', e, u'⟩ := plan_turn hu (by omega) (some (.lst (ns.map .int))) (some d) y3 y4 y5 y6 y7 y8 y9 y10
      exact ⟨_, _, _, S', rfl, e, _, z3, z4, z5, z6, z7, z8, z9, z10, _, rfl, u', by omega⟩)
    (rangeL 0 6) _ S ⟨none, none, none, none, none, none, none, none, none, _, rfl, u, by simp [rangeL]⟩
  have hk2' : k2 ≤ 12000 := by simpa using hk2
  obtain ⟨la, ra, S3, e3, pa, ba, u3, _⟩ := s_wheel u2 (by omega)
  obtain ⟨lb, rb, S4, e4, pb, bb, u4, _⟩ := s_strip u3 (by omega)
  obtain ⟨d, S5, e5, hd, u5, _⟩ := s_item (l := [planD la ra, planD lb rb]) u4 (by simp) (by simp) (by omega)
  obtain ⟨ls, rs, rfl, hp, hb⟩ : ∃ (ls : List Ln) (rs : List Rl), d = planD ls rs ∧ PlOk ls rs ∧ PlB ls rs 27 24 9 9 := by
    simp only [List.mem_cons, List.not_mem_nil, or_false] at hd
    rcases hd with rfl | rfl
    · exact ⟨_, _, rfl, pa, ba⟩
    · exact ⟨_, _, rfl, pb, bb⟩
  obtain ⟨x, y, S6, e6, rx, ry, u6, _⟩ := s_some_point hp u5 (by omega)
  obtain ⟨r, S7, e7, r0, r1, u7, _⟩ := s_pull (m := 170) (n := 9) u6 (by decide) (by unfold Sz; decide) (by decide) (by omega)
  obtain ⟨c, hc⟩ := Int.eq_ofNat_of_zero_le (show 0 ≤ 31 + r by omega)
  have hG := good_long hb
  have g : (0 : Nat) ≤ 201 ∧ PtB (2 ^ 140 * (2 ^ 20) ^ 0) (2 ^ 20) 0 x y := ⟨by decide, by simpa using pt_b rx ry _⟩
  obtain ⟨S8, e8, h8, l8, a8⟩ := s_course hp hG (c := c) (by omega) (by omega) g S7
  obtain ⟨S9, e9, l9, a9⟩ := s_entries hp hG (c := c) (by omega) (by omega) g S8
  have h9 : S9[S7.length]? = some (.lst ((courseQ ls rs (c + 1) 0 x y).map En.d)) := by rw [a9 _ l8]; exact h8
  have e10 := twin_ref h9 (shw_course hp hG g (by omega) (by omega))
  refine ⟨S9, ?_⟩
  unfold m_law
  simp only [x_fun, start_def, List.map, List.length, Nat.reduceSub, List.replicate, List.cons_append, List.nil_append, x_seq, x_asg, x_call, x_cons, x_nil, x_var, x_c, x_lst, x_par, x_op, x_ret, List.getElem?_cons_zero, List.getElem?_cons_succ, R.bind_ok, R.to_ok, x_gN, List.set, O.then_nx, List.length_cons, List.length_nil, Nat.reduceAdd, Nat.reduceLeDiff, ite_size, if_true, e, x_for, x_range1, show (-(2 ^ 62) ≤ (6 : Int) ∧ (6 : Int) < 2 ^ 62) from by decide, show (6 : Int).toNat = 6 from rfl]
  simp only [and_self, if_true, R.to_ok]
  rw [e2]
  simp only [x_seq, x_asg, x_call, x_cons, x_nil, x_var, x_c, x_lst, x_par, x_op, x_ret, x_add, List.getElem?_cons_zero, List.getElem?_cons_succ, R.bind_ok, R.to_ok, x_gN, List.set, O.then_nx, List.length_cons, List.length_nil, Nat.reduceAdd, Nat.reduceLeDiff, ite_size, if_true, e3, e4, e5, e6, e7, hc, e8, e9, e10]
end DL

namespace DL
open PySem PySem.Spec PyProof.Rows L2
def top (i : Nat) : Stmt := PySem.Challenge.pw_slopeland_k47_courses.main.body.getD i (.Pass ⟨0, 0, 0, 0⟩)
structure Top (K : PySem.W.Frag) (mg : Str → Option Value) : Prop where
  b_abs : mg "abs" = none
  b_all : mg "all" = none
  b_enumerate : mg "enumerate" = none
  b_int : mg "int" = none
  b_len : mg "len" = none
  b_list : mg "list" = none
  b_range : mg "range" = none
  b_repr : mg "repr" = none
  b_sorted : mg "sorted" = none
  b_tuple : mg "tuple" = none
  b_zip : mg "zip" = none
  x_ZeroDivisor : ExcF K mg "ZeroDivisor"
  g_ONE : GlobD ⟨K, mg⟩ "ONE" k_ONE
  g_STILL : GlobD ⟨K, mg⟩ "STILL" k_STILL
  g_ZERO : GlobD ⟨K, mg⟩ "ZERO" k_ZERO
  triv : True
section
variable {P : Program} {w : World} {K : PySem.W.Frag} {mg : Str → Option Value} {base : Heap}
abbrev zs_L_twin : Stmt := top 37
abbrev n_L_twin : List Str := ["_law_found", "_law_due"]
theorem sc_L_twin : FnScope n_L_twin ["_law_found", "_law_due"] (defScope zs_L_twin) := ⟨rfl, rfl, rfl, by decide +kernel, rfl, by decide +kernel, by decide +kernel⟩
theorem ok_L_twin {f : Addr} {fd : FuncData} (F : Fun K "_law_twin" "_law_twin" zs_L_twin f fd) (hm : mg "_law_twin" = some (.ref f)) (T : Top K mg) (ND : base.NoDigits) : Cal P w K mg base 2 "_law_twin" 2 m_L_twin := by
  have sc := sc_L_twin
  refine cal_mk hm F (fun _ _ _ _ _ _ us hl => match us, hl with | [_, _], _ => rfl) (fn_ofD (k := 1) F sc fun cdv A outer s H E W hr hg tk => ?_)
  have hu : (A.deeper (envOfC "_law_twin" (defScope zs_L_twin) s.heap.objs.size f cdv)).units + 65 < cLine := by have := hr.un; omega
  exact (ds_one (ds_ret (d_cmp (od_eq (Nat.lt_of_succ_lt hu)) (d_callB (cd_repr ND hg (Nat.lt_of_succ_lt hu)) T.b_repr (da_cons (d_var 0) da_nil)) (d_callB (cd_repr ND hg (Nat.lt_of_succ_lt hu)) T.b_repr (da_cons (d_var 1) da_nil)))))
abbrev zs_L_low : Stmt := top 38
abbrev n_L_low : List Str := ["_law_top", "_law_bottom", "_law_one", "_law_other"]
theorem sc_L_low : FnScope n_L_low ["_law_top", "_law_bottom"] (defScope zs_L_low) := ⟨rfl, rfl, rfl, by decide +kernel, rfl, by decide +kernel, by decide +kernel⟩
theorem ok_L_low {f : Addr} {fd : FuncData} (F : Fun K "_law_low" "_law_low" zs_L_low f fd) (hm : mg "_law_low" = some (.ref f)) (T : Top K mg) (ND : base.NoDigits) : Cal P w K mg base 2 "_law_low" 2 m_L_low := by
  have sc := sc_L_low
  refine cal_mk hm F (fun _ _ _ _ _ _ us hl => match us, hl with | [_, _], _ => rfl) (fn_ofD (k := 1) F sc fun cdv A outer s H E W hr hg tk => ?_)
  have hu : (A.deeper (envOfC "_law_low" (defScope zs_L_low) s.heap.objs.size f cdv)).units + 65 < cLine := by have := hr.un; omega
  exact (ds_cons (ds_par 2 3 rfl sc.nd (d_callB (cd_abs) T.b_abs (da_cons (d_var 0) da_nil)) (d_callB (cd_abs) T.b_abs (da_cons (d_var 1) da_nil)))
  (ds_cons (ds_while (passes_of rfl) (db_cmp (od_ne (Nat.lt_of_succ_lt hu)) (d_var 3) d_int) (ds_one (ds_par 2 3 rfl sc.nd (d_var 3) (d_op od_mod (d_var 2) (d_var 3)))))
  (ds_cons (ds_set 2 sc.nd (d_if (db_cmp (od_gt) (d_var 1) d_int) (d_var 2) (d_op od_sub d_int (d_var 2))))
  (ds_one (ds_ret (d_tup (da_cons (d_op od_fdiv (d_var 0) (d_var 2)) (da_cons (d_op od_fdiv (d_var 1) (d_var 2)) da_nil))))))))
abbrev zs_L_sum : Stmt := top 39
abbrev n_L_sum : List Str := ["_law_one", "_law_other"]
theorem sc_L_sum : FnScope n_L_sum ["_law_one", "_law_other"] (defScope zs_L_sum) := ⟨rfl, rfl, rfl, by decide +kernel, rfl, by decide +kernel, by decide +kernel⟩
theorem ok_L_sum {f : Addr} {fd : FuncData} (F : Fun K "_law_sum" "_law_sum" zs_L_sum f fd) (hm : mg "_law_sum" = some (.ref f)) (T : Top K mg) (ND : base.NoDigits) (c_L_low : Cal P w K mg base 2 "_law_low" 2 m_L_low) : Cal P w K mg base 3 "_law_sum" 2 m_L_sum := by
  have sc := sc_L_sum
  refine cal_mk hm F (fun _ _ _ _ _ _ us hl => match us, hl with | [_, _], _ => rfl) (fn_ofD (k := 2) F sc fun cdv A outer s H E W hr hg tk => ?_)
  have hu : (A.deeper (envOfC "_law_sum" (defScope zs_L_sum) s.heap.objs.size f cdv)).units + 65 < cLine := by have := hr.un; omega
  exact (ds_one (ds_ret (d_call c_L_low (hr.mono (by decide)) hg tk (da_cons (d_op od_add (d_op od_mul (d_ix (d_var 0) d_int) (d_ix (d_var 1) d_int)) (d_op od_mul (d_ix (d_var 1) d_int) (d_ix (d_var 0) d_int))) (da_cons (d_op od_mul (d_ix (d_var 0) d_int) (d_ix (d_var 1) d_int)) da_nil)))))
abbrev zs_L_product : Stmt := top 40
abbrev n_L_product : List Str := ["_law_one", "_law_other"]
theorem sc_L_product : FnScope n_L_product ["_law_one", "_law_other"] (defScope zs_L_product) := ⟨rfl, rfl, rfl, by decide +kernel, rfl, by decide +kernel, by decide +kernel⟩
theorem ok_L_product {f : Addr} {fd : FuncData} (F : Fun K "_law_product" "_law_product" zs_L_product f fd) (hm : mg "_law_product" = some (.ref f)) (T : Top K mg) (ND : base.NoDigits) (c_L_low : Cal P w K mg base 2 "_law_low" 2 m_L_low) : Cal P w K mg base 3 "_law_product" 2 m_L_product := by
  have sc := sc_L_product
  refine cal_mk hm F (fun _ _ _ _ _ _ us hl => match us, hl with | [_, _], _ => rfl) (fn_ofD (k := 2) F sc fun cdv A outer s H E W hr hg tk => ?_)
  have hu : (A.deeper (envOfC "_law_product" (defScope zs_L_product) s.heap.objs.size f cdv)).units + 65 < cLine := by have := hr.un; omega
  exact (ds_one (ds_ret (d_call c_L_low (hr.mono (by decide)) hg tk (da_cons (d_op od_mul (d_ix (d_var 0) d_int) (d_ix (d_var 1) d_int)) (da_cons (d_op od_mul (d_ix (d_var 0) d_int) (d_ix (d_var 1) d_int)) da_nil)))))
abbrev zs_L_minus : Stmt := top 41
abbrev n_L_minus : List Str := ["_law_one", "_law_other"]
theorem sc_L_minus : FnScope n_L_minus ["_law_one", "_law_other"] (defScope zs_L_minus) := ⟨rfl, rfl, rfl, by decide +kernel, rfl, by decide +kernel, by decide +kernel⟩
theorem ok_L_minus {f : Addr} {fd : FuncData} (F : Fun K "_law_minus" "_law_minus" zs_L_minus f fd) (hm : mg "_law_minus" = some (.ref f)) (T : Top K mg) (ND : base.NoDigits) (c_L_low : Cal P w K mg base 2 "_law_low" 2 m_L_low) : Cal P w K mg base 3 "_law_minus" 2 m_L_minus := by
  have sc := sc_L_minus
  refine cal_mk hm F (fun _ _ _ _ _ _ us hl => match us, hl with | [_, _], _ => rfl) (fn_ofD (k := 2) F sc fun cdv A outer s H E W hr hg tk => ?_)
  have hu : (A.deeper (envOfC "_law_minus" (defScope zs_L_minus) s.heap.objs.size f cdv)).units + 65 < cLine := by have := hr.un; omega
  exact (ds_one (ds_ret (d_call c_L_low (hr.mono (by decide)) hg tk (da_cons (d_op od_sub (d_op od_mul (d_ix (d_var 0) d_int) (d_ix (d_var 1) d_int)) (d_op od_mul (d_ix (d_var 1) d_int) (d_ix (d_var 0) d_int))) (da_cons (d_op od_mul (d_ix (d_var 0) d_int) (d_ix (d_var 1) d_int)) da_nil)))))
abbrev zs_L_value : Stmt := top 50
abbrev n_L_value : List Str := ["_law_line", "_law_point"]
theorem sc_L_value : FnScope n_L_value ["_law_line", "_law_point"] (defScope zs_L_value) := ⟨rfl, rfl, rfl, by decide +kernel, rfl, by decide +kernel, by decide +kernel⟩
theorem ok_L_value {f : Addr} {fd : FuncData} (F : Fun K "_law_value" "_law_value" zs_L_value f fd) (hm : mg "_law_value" = some (.ref f)) (T : Top K mg) (ND : base.NoDigits) (c_L_sum : Cal P w K mg base 3 "_law_sum" 2 m_L_sum) (c_L_product : Cal P w K mg base 3 "_law_product" 2 m_L_product) : Cal P w K mg base 4 "_law_value" 2 m_L_value := by
  have sc := sc_L_value
  refine cal_mk hm F (fun _ _ _ _ _ _ us hl => match us, hl with | [_, _], _ => rfl) (fn_ofD (k := 3) F sc fun cdv A outer s H E W hr hg tk => ?_)
  have hu : (A.deeper (envOfC "_law_value" (defScope zs_L_value) s.heap.objs.size f cdv)).units + 65 < cLine := by have := hr.un; omega
  exact (ds_one (ds_ret (d_call c_L_sum (hr.mono (by decide)) hg tk (da_cons (d_call c_L_product (hr.mono (by decide)) hg tk (da_cons (d_ix (d_var 0) d_int) (da_cons (d_ix (d_var 1) d_int) da_nil))) (da_cons (d_call c_L_product (hr.mono (by decide)) hg tk (da_cons (d_ix (d_var 0) d_int) (da_cons (d_ix (d_var 1) d_int) da_nil))) da_nil)))))
abbrev zs_L_next : Stmt := top 56
abbrev n_L_next : List Str := ["_law_plan", "_law_point", "_law_face", "_law_drift_here", "_law_found", "_law_line", "_law_side", "_law_speed", "_law_gap", "_law_time"]
theorem sc_L_next : FnScope n_L_next ["_law_plan", "_law_point", "_law_face", "_law_drift_here"] (defScope zs_L_next) := ⟨rfl, rfl, rfl, by decide +kernel, rfl, by decide +kernel, by decide +kernel⟩
theorem ok_L_next {f : Addr} {fd : FuncData} (F : Fun K "_law_next" "_law_next" zs_L_next f fd) (hm : mg "_law_next" = some (.ref f)) (T : Top K mg) (ND : base.NoDigits) (c_L_low : Cal P w K mg base 2 "_law_low" 2 m_L_low) (c_L_minus : Cal P w K mg base 3 "_law_minus" 2 m_L_minus) (c_L_value : Cal P w K mg base 4 "_law_value" 2 m_L_value) : Cal P w K mg base 5 "_law_next" 4 m_L_next := by
  have sc := sc_L_next
  refine cal_mk hm F (fun _ _ _ _ _ _ us hl => match us, hl with | [_, _, _, _], _ => rfl) (fn_ofD (k := 4) F sc fun cdv A outer s H E W hr hg tk => ?_)
  have hu : (A.deeper (envOfC "_law_next" (defScope zs_L_next) s.heap.objs.size f cdv)).units + 65 < cLine := by have := hr.un; omega
  exact (ds_cons (ds_set 4 sc.nd d_non)
  (ds_cons (ds_for (passes_of rfl) rfl (di_zip T.b_zip (d_ix (d_var 0) d_int) (d_var 2)) (dg_tup rfl (dgs_cons (dg_name 5 sc.nd) (dgs_cons (dg_name 6 sc.nd) dgs_nil))) (ds_cons (ds_set 7 sc.nd (d_call c_L_value (hr.mono (by decide)) hg tk (da_cons (d_var 5) (da_cons (d_var 3) da_nil))))
  (ds_cons (ds_set 8 sc.nd (d_call c_L_minus (hr.mono (by decide)) hg tk (da_cons (d_ix (d_var 5) d_int) (da_cons (d_call c_L_value (hr.mono (by decide)) hg tk (da_cons (d_var 5) (da_cons (d_var 1) da_nil))) da_nil))))
  (ds_one (ds_if (db_bool (dw_and (db_cmp (od_ne (Nat.lt_of_succ_lt hu)) (d_var 6) d_int) (dw_and1 (db_cmp (od_gt) (d_op od_mul (d_ix (d_var 8) d_int) (d_ix (d_var 7) d_int)) d_int)))) (ds_cons (ds_set 9 sc.nd (d_call c_L_low (hr.mono (by decide)) hg tk (da_cons (d_op od_mul (d_ix (d_var 8) d_int) (d_ix (d_var 7) d_int)) (da_cons (d_op od_mul (d_ix (d_var 8) d_int) (d_ix (d_var 7) d_int)) da_nil))))
  (ds_one (ds_set 4 sc.nd (d_if (db_bool (dw_or (db_cmp (od_isN) (d_var 4) d_non) (dw_or1 (db_cmp (od_lt) (d_op od_mul (d_ix (d_var 9) d_int) (d_ix (d_var 4) d_int)) (d_op od_mul (d_ix (d_var 4) d_int) (d_ix (d_var 9) d_int)))))) (d_var 9) (d_var 4))))) ds_nil)))))
  (ds_one (ds_ret (d_var 4)))))
abbrev zs_L_all_faces : Stmt := top 54
abbrev n_L_all_faces : List Str := ["_law_face", "_law_places", "_law_found", "_law_place", "_law_side", "_law_longer", "_law_one", "_law_other"]
theorem sc_L_all_faces : FnScope n_L_all_faces ["_law_face", "_law_places"] (defScope zs_L_all_faces) := ⟨rfl, rfl, rfl, by decide +kernel, rfl, by decide +kernel, by decide +kernel⟩
theorem ok_L_all_faces {f : Addr} {fd : FuncData} (F : Fun K "_law_all_faces" "_law_all_faces" zs_L_all_faces f fd) (hm : mg "_law_all_faces" = some (.ref f)) (T : Top K mg) (ND : base.NoDigits) : Cal P w K mg base 2 "_law_all_faces" 2 m_L_all_faces := by
  have sc := sc_L_all_faces
  refine cal_mk hm F (fun _ _ _ _ _ _ us hl => match us, hl with | [_, _], _ => rfl) (fn_ofD (k := 1) F sc fun cdv A outer s H E W hr hg tk => ?_)
  have hu : (A.deeper (envOfC "_law_all_faces" (defScope zs_L_all_faces) s.heap.objs.size f cdv)).units + 65 < cLine := by have := hr.un; omega
  exact (ds_cons (ds_set 2 sc.nd (d_lst (da_cons (d_tup da_nil) da_nil)))
  (ds_cons (ds_for (passes_of rfl) rfl (di_enumQ T.b_enumerate (d_var 0)) (dg_tup rfl (dgs_cons (dg_name 3 sc.nd) (dgs_cons (dg_name 4 sc.nd) dgs_nil))) (ds_cons (ds_set 5 sc.nd (d_lst da_nil))
  (ds_cons (ds_for (passes_of rfl) rfl (di_seq (d_var 2)) (dg_name 6 sc.nd) (ds_one (ds_set 5 sc.nd (d_op od_add (d_var 5) (d_lc (own := [("_law_other", 7)]) finL_fz rfl sc.nd (di_seq (d_if (db_cmp (od_in hu) (d_var 3) (d_var 1)) (d_tup (da_cons d_int (da_cons d_int (da_cons (d_op od_sub d_int d_int) da_nil)))) (d_tup (da_cons (d_var 4) da_nil)))) (blkOk_by (N := n_L_all_faces) (sc := defScope zs_L_all_faces) (by decide +kernel)) (fun _ _ _ _ _ => (dgw_name 7 (by decide) sc.nd)) (fun _ _ _ _ _ => dt_nil) (fun _ _ _ _ _ => (d_op od_add (d_var 6) (d_tup (da_cons (d_var 7) da_nil)))))))))
  (ds_one (ds_set 2 sc.nd (d_var 5))))))
  (ds_one (ds_ret (d_var 2)))))
abbrev zs_L_patch_drift : Stmt := top 52
abbrev n_L_patch_drift : List Str := ["_law_plan", "_law_face", "_law_names", "_law_drift_here", "_law_conditions", "_law_line", "_law_name", "_law_side"]
theorem sc_L_patch_drift : FnScope n_L_patch_drift ["_law_plan", "_law_face"] (defScope zs_L_patch_drift) := ⟨rfl, rfl, rfl, by decide +kernel, rfl, by decide +kernel, by decide +kernel⟩
theorem ok_L_patch_drift {f : Addr} {fd : FuncData} (F : Fun K "_law_patch_drift" "_law_patch_drift" zs_L_patch_drift f fd) (hm : mg "_law_patch_drift" = some (.ref f)) (T : Top K mg) (ND : base.NoDigits) : Cal P w K mg base 2 "_law_patch_drift" 2 m_L_patch_drift := by
  have sc := sc_L_patch_drift
  refine cal_mk hm F (fun _ _ _ _ _ _ us hl => match us, hl with | [_, _], _ => rfl) (fn_ofD (k := 1) F sc fun cdv A outer s H E W hr hg tk => ?_)
  have hu : (A.deeper (envOfC "_law_patch_drift" (defScope zs_L_patch_drift) s.heap.objs.size f cdv)).units + 65 < cLine := by have := hr.un; omega
  exact (ds_cons (ds_set 2 sc.nd (d_lc (own := [("_law_line", 5)]) finL_fz rfl sc.nd (di_seq (d_ix (d_var 0) d_int)) (blkOk_by (N := n_L_patch_drift) (sc := defScope zs_L_patch_drift) (by decide +kernel)) (fun _ _ _ _ _ => (dgw_name 5 (by decide) sc.nd)) (fun _ _ _ _ _ => dt_nil) (fun _ _ _ _ _ => (d_ix (d_var 5) d_int))))
  (ds_cons (ds_for (passes_of rfl) rfl (di_seq (d_ix (d_var 0) d_int)) (dg_tup rfl (dgs_cons (dg_name 3 sc.nd) (dgs_cons (dg_name 4 sc.nd) dgs_nil))) (ds_one (ds_if (db_cmp (od_eq (Nat.lt_of_succ_lt hu)) (d_lc (own := [("_law_name", 6), ("_law_side", 7)]) finL_fz rfl sc.nd (di_seq (d_var 4)) (blkOk_by (N := n_L_patch_drift) (sc := defScope zs_L_patch_drift) (by decide +kernel)) (fun _ _ _ _ _ => (dgw_tup rfl (dgsw_cons (dgw_name 6 (by decide) sc.nd) (dgsw_cons (dgw_name 7 (by decide) sc.nd) dgsw_nil)))) (fun _ _ _ _ _ => (dt_one (db_cmp (od_ne (Nat.lt_of_succ_lt hu)) (d_ix (d_var 1) (d_metA (ma_index hu) (d_var 2) (da_cons (d_var 6) da_nil))) (d_var 7)))) (fun _ _ _ _ _ => d_int)) (d_lst da_nil)) (ds_one (ds_ret (d_var 3))) ds_nil)))
  (ds_one (ds_ret d_non))))
abbrev zs_L_drift : Stmt := top 53
abbrev n_L_drift : List Str := ["_law_plan", "_law_face", "_law_place", "_law_line", "_law_above", "_law_below", "_law_p", "_law_q", "_law_gap", "_law_first", "_law_second", "_law_one", "_law_two"]
theorem sc_L_drift : FnScope n_L_drift ["_law_plan", "_law_face"] (defScope zs_L_drift) := ⟨rfl, rfl, rfl, by decide +kernel, rfl, by decide +kernel, by decide +kernel⟩
theorem ok_L_drift {f : Addr} {fd : FuncData} (F : Fun K "_law_drift" "_law_drift" zs_L_drift f fd) (hm : mg "_law_drift" = some (.ref f)) (T : Top K mg) (ND : base.NoDigits) (c_L_sum : Cal P w K mg base 3 "_law_sum" 2 m_L_sum) (c_L_product : Cal P w K mg base 3 "_law_product" 2 m_L_product) (c_L_low : Cal P w K mg base 2 "_law_low" 2 m_L_low) (c_L_minus : Cal P w K mg base 3 "_law_minus" 2 m_L_minus) (c_L_value : Cal P w K mg base 4 "_law_value" 2 m_L_value) (c_L_patch_drift : Cal P w K mg base 2 "_law_patch_drift" 2 m_L_patch_drift) : Cal P w K mg base 5 "_law_drift" 2 m_L_drift := by
  have sc := sc_L_drift
  refine cal_mk hm F (fun _ _ _ _ _ _ us hl => match us, hl with | [_, _], _ => rfl) (fn_ofD (k := 4) F sc fun cdv A outer s H E W hr hg tk => ?_)
  have hu : (A.deeper (envOfC "_law_drift" (defScope zs_L_drift) s.heap.objs.size f cdv)).units + 65 < cLine := by have := hr.un; omega
  exact (ds_cons (ds_if (db_cmp (od_eq (Nat.lt_of_succ_lt hu)) (d_metA (ma_count hu) (d_var 1) (da_cons d_int da_nil)) d_int) (ds_one (ds_ret (d_call c_L_patch_drift (hr.mono (by decide)) hg tk (da_cons (d_var 0) (da_cons (d_var 1) da_nil))))) ds_nil)
  (ds_cons (ds_if (db_cmp (od_gt) (d_metA (ma_count hu) (d_var 1) (da_cons d_int da_nil)) d_int) (ds_one (ds_ret d_non)) ds_nil)
  (ds_cons (ds_set 2 sc.nd (d_metA (ma_index hu) (d_var 1) (da_cons d_int da_nil)))
  (ds_cons (ds_set 3 sc.nd (d_ix (d_ix (d_var 0) d_int) (d_var 2)))
  (ds_cons (ds_set 4 sc.nd (d_call c_L_patch_drift (hr.mono (by decide)) hg tk (da_cons (d_var 0) (da_cons (d_op od_add (d_op od_add (d_sl (d_var 1) do_none (do_some (d_var 2))) (d_tup (da_cons d_int da_nil))) (d_sl (d_var 1) (do_some (d_op od_add (d_var 2) d_int)) do_none)) da_nil))))
  (ds_cons (ds_set 5 sc.nd (d_call c_L_patch_drift (hr.mono (by decide)) hg tk (da_cons (d_var 0) (da_cons (d_op od_add (d_op od_add (d_sl (d_var 1) do_none (do_some (d_var 2))) (d_tup (da_cons (d_op od_sub d_int d_int) da_nil))) (d_sl (d_var 1) (do_some (d_op od_add (d_var 2) d_int)) do_none)) da_nil))))
  (ds_cons (ds_par 6 7 rfl sc.nd (d_call c_L_value (hr.mono (by decide)) hg tk (da_cons (d_var 3) (da_cons (d_var 4) da_nil))) (d_call c_L_value (hr.mono (by decide)) hg tk (da_cons (d_var 3) (da_cons (d_var 5) da_nil))))
  (ds_cons (ds_if (db_bool (dw_or (db_cmp (od_gt) (d_ix (d_var 6) d_int) d_int) (dw_or1 (db_cmp (od_lt) (d_ix (d_var 7) d_int) d_int)))) (ds_one (ds_ret d_non)) ds_nil)
  (ds_cons (ds_if (db_cmp (od_eq (Nat.lt_of_succ_lt hu)) (d_var 6) (d_var 7)) (ds_one (ds_ret (d_var 4))) ds_nil)
  (ds_cons (ds_set 8 sc.nd (d_call c_L_minus (hr.mono (by decide)) hg tk (da_cons (d_var 7) (da_cons (d_var 6) da_nil))))
  (ds_cons (ds_set 9 sc.nd (d_call c_L_low (hr.mono (by decide)) hg tk (da_cons (d_op od_mul (d_ix (d_var 7) d_int) (d_ix (d_var 8) d_int)) (da_cons (d_op od_mul (d_ix (d_var 7) d_int) (d_ix (d_var 8) d_int)) da_nil))))
  (ds_cons (ds_set 10 sc.nd (d_call c_L_low (hr.mono (by decide)) hg tk (da_cons (d_op od_sub d_int (d_op od_mul (d_ix (d_var 6) d_int) (d_ix (d_var 8) d_int))) (da_cons (d_op od_mul (d_ix (d_var 6) d_int) (d_ix (d_var 8) d_int)) da_nil))))
  (ds_one (ds_ret (d_callT (cd_tuple) T.b_tuple (da_cons (d_lc (own := [("_law_one", 11), ("_law_two", 12)]) finL_fz rfl sc.nd (di_zip T.b_zip (d_var 4) (d_var 5)) (blkOk_by (N := n_L_drift) (sc := defScope zs_L_drift) (by decide +kernel)) (fun _ _ _ _ _ => (dgw_tup rfl (dgsw_cons (dgw_name 11 (by decide) sc.nd) (dgsw_cons (dgw_name 12 (by decide) sc.nd) dgsw_nil)))) (fun _ _ _ _ _ => dt_nil) (fun _ _ _ _ _ => (d_call c_L_sum (hr.mono (by decide)) hg takes0 (da_cons (d_call c_L_product (hr.mono (by decide)) hg takes0 (da_cons (d_var 9) (da_cons (d_var 11) da_nil))) (da_cons (d_call c_L_product (hr.mono (by decide)) hg takes0 (da_cons (d_var 10) (da_cons (d_var 12) da_nil))) da_nil))))) da_nil))))))))))))))))
abbrev zs_L_signum : Stmt := top 42
abbrev n_L_signum : List Str := ["_law_one"]
theorem sc_L_signum : FnScope n_L_signum ["_law_one"] (defScope zs_L_signum) := ⟨rfl, rfl, rfl, by decide +kernel, rfl, by decide +kernel, by decide +kernel⟩
theorem ok_L_signum {f : Addr} {fd : FuncData} (F : Fun K "_law_signum" "_law_signum" zs_L_signum f fd) (hm : mg "_law_signum" = some (.ref f)) (T : Top K mg) (ND : base.NoDigits) : Cal P w K mg base 2 "_law_signum" 1 m_L_signum := by
  have sc := sc_L_signum
  refine cal_mk hm F (fun _ _ _ _ _ _ us hl => match us, hl with | [_], _ => rfl) (fn_ofD (k := 1) F sc fun cdv A outer s H E W hr hg tk => ?_)
  have hu : (A.deeper (envOfC "_law_signum" (defScope zs_L_signum) s.heap.objs.size f cdv)).units + 65 < cLine := by have := hr.un; omega
  exact (ds_one (ds_ret (d_op od_sub (d_callT (cd_int) T.b_int (da_cons (d_cmp (od_gt) (d_ix (d_var 0) d_int) d_int) da_nil)) (d_callT (cd_int) T.b_int (da_cons (d_cmp (od_lt) (d_ix (d_var 0) d_int) d_int) da_nil)))))
abbrev zs_L_move : Stmt := top 55
abbrev n_L_move : List Str := ["_law_plan", "_law_here", "_law_places", "_law_many", "_law_face", "_law_drift_here", "_law_place", "_law_side"]
theorem sc_L_move : FnScope n_L_move ["_law_plan", "_law_here"] (defScope zs_L_move) := ⟨rfl, rfl, rfl, by decide +kernel, rfl, by decide +kernel, by decide +kernel⟩
theorem ok_L_move {f : Addr} {fd : FuncData} (F : Fun K "_law_move" "_law_move" zs_L_move f fd) (hm : mg "_law_move" = some (.ref f)) (T : Top K mg) (ND : base.NoDigits) (c_L_all_faces : Cal P w K mg base 2 "_law_all_faces" 2 m_L_all_faces) (c_L_drift : Cal P w K mg base 5 "_law_drift" 2 m_L_drift) (c_L_signum : Cal P w K mg base 2 "_law_signum" 1 m_L_signum) (c_L_value : Cal P w K mg base 4 "_law_value" 2 m_L_value) : Cal P w K mg base 6 "_law_move" 2 m_L_move := by
  have sc := sc_L_move
  refine cal_mk hm F (fun _ _ _ _ _ _ us hl => match us, hl with | [_, _], _ => rfl) (fn_ofD (k := 5) F sc fun cdv A outer s H E W hr hg tk => ?_)
  have hu : (A.deeper (envOfC "_law_move" (defScope zs_L_move) s.heap.objs.size f cdv)).units + 65 < cLine := by have := hr.un; omega
  exact (ds_cons (ds_setLc (own := [("_law_place", 6), ("_law_side", 7)]) finL_fz 2 rfl sc.nd (di_enumQ T.b_enumerate (d_var 1)) (blkOk_by (N := n_L_move) (sc := defScope zs_L_move) (by decide +kernel)) (fun _ _ _ _ _ => (dgw_tup rfl (dgsw_cons (dgw_name 6 (by decide) sc.nd) (dgsw_cons (dgw_name 7 (by decide) sc.nd) dgsw_nil)))) (fun _ _ _ _ _ => (dt_one (db_cmp (od_eq (Nat.lt_of_succ_lt hu)) (d_var 7) d_int))) (fun _ _ _ _ _ => (d_var 6)) (sw_true rfl rfl rfl (by decide +kernel)))
  (ds_cons (ds_for (passes_of rfl) rfl (di_seq (d_tup (da_cons d_int (da_cons d_int da_nil)))) (dg_name 3 sc.nd) (ds_one (ds_for (passes_of rfl) rfl (di_seq (d_call c_L_all_faces (hr.mono (by decide)) hg tk (da_cons (d_var 1) (da_cons (d_var 2) da_nil)))) (dg_name 4 sc.nd) (ds_one (ds_if (db_bool (dw_and (db_cmp (od_eq (Nat.lt_of_succ_lt hu)) (d_metA (ma_count hu) (d_var 4) (da_cons d_int da_nil)) (d_var 3)) (dw_and1 (db_cmp (od_notN) (d_call c_L_drift (hr.mono (by decide)) hg tk (da_cons (d_var 0) (da_cons (d_var 4) da_nil))) d_non)))) (ds_cons (ds_set 5 sc.nd (d_call c_L_drift (hr.mono (by decide)) hg tk (da_cons (d_var 0) (da_cons (d_var 4) da_nil))))
  (ds_one (ds_if (db_cmp (od_eq (Nat.lt_of_succ_lt hu)) (d_lc (own := [("_law_place", 6)]) finL_fz rfl sc.nd (di_seq (d_var 2)) (blkOk_by (N := n_L_move) (sc := defScope zs_L_move) (by decide +kernel)) (fun _ _ _ _ _ => (dgw_name 6 (by decide) sc.nd)) (fun _ _ _ _ _ => (dt_one (db_cmp (od_ne (Nat.lt_of_succ_lt hu)) (d_call c_L_signum (hr.mono (by decide)) hg takes0 (da_cons (d_call c_L_value (hr.mono (by decide)) hg takes0 (da_cons (d_ix (d_ix (d_var 0) d_int) (d_var 6)) (da_cons (d_var 5) da_nil))) da_nil)) (d_ix (d_var 4) (d_var 6))))) (fun _ _ _ _ _ => d_int)) (d_lst da_nil)) (ds_one (ds_ret (d_tup (da_cons (d_var 4) (da_cons (d_var 5) da_nil))))) ds_nil))) ds_nil)))))
  (ds_one (ds_ret (d_tup (da_cons (d_var 1) (da_cons (d_tup (da_cons (d_tup (da_cons d_int (da_cons d_int da_nil))) (da_cons (d_tup (da_cons d_int (da_cons d_int da_nil))) da_nil))) da_nil)))))))
abbrev zs_L_sides : Stmt := top 51
abbrev n_L_sides : List Str := ["_law_plan", "_law_point", "_law_line"]
theorem sc_L_sides : FnScope n_L_sides ["_law_plan", "_law_point"] (defScope zs_L_sides) := ⟨rfl, rfl, rfl, by decide +kernel, rfl, by decide +kernel, by decide +kernel⟩
theorem ok_L_sides {f : Addr} {fd : FuncData} (F : Fun K "_law_sides" "_law_sides" zs_L_sides f fd) (hm : mg "_law_sides" = some (.ref f)) (T : Top K mg) (ND : base.NoDigits) (c_L_signum : Cal P w K mg base 2 "_law_signum" 1 m_L_signum) (c_L_minus : Cal P w K mg base 3 "_law_minus" 2 m_L_minus) (c_L_value : Cal P w K mg base 4 "_law_value" 2 m_L_value) : Cal P w K mg base 5 "_law_sides" 2 m_L_sides := by
  have sc := sc_L_sides
  refine cal_mk hm F (fun _ _ _ _ _ _ us hl => match us, hl with | [_, _], _ => rfl) (fn_ofD (k := 4) F sc fun cdv A outer s H E W hr hg tk => ?_)
  have hu : (A.deeper (envOfC "_law_sides" (defScope zs_L_sides) s.heap.objs.size f cdv)).units + 65 < cLine := by have := hr.un; omega
  exact (ds_one (ds_ret (d_callT (cd_tuple) T.b_tuple (da_cons (d_lc (own := [("_law_line", 2)]) finL_fz rfl sc.nd (di_seq (d_ix (d_var 0) d_int)) (blkOk_by (N := n_L_sides) (sc := defScope zs_L_sides) (by decide +kernel)) (fun _ _ _ _ _ => (dgw_name 2 (by decide) sc.nd)) (fun _ _ _ _ _ => dt_nil) (fun _ _ _ _ _ => (d_call c_L_signum (hr.mono (by decide)) hg takes0 (da_cons (d_call c_L_minus (hr.mono (by decide)) hg takes0 (da_cons (d_call c_L_value (hr.mono (by decide)) hg takes0 (da_cons (d_var 2) (da_cons (d_var 1) da_nil))) (da_cons (d_ix (d_var 2) d_int) da_nil))) da_nil)))) da_nil))))
abbrev zs_L_entries : Stmt := top 57
abbrev n_L_entries : List Str := ["_law_plan", "_law_start", "_law_count", "_law_found", "_law_time", "_law_point", "_law_face", "_law_drift_here", "_law_needed", "_law_part", "_law_rate"]
theorem sc_L_entries : FnScope n_L_entries ["_law_plan", "_law_start", "_law_count"] (defScope zs_L_entries) := ⟨rfl, rfl, rfl, by decide +kernel, rfl, by decide +kernel, by decide +kernel⟩
theorem ok_L_entries {f : Addr} {fd : FuncData} (F : Fun K "_law_entries" "_law_entries" zs_L_entries f fd) (hm : mg "_law_entries" = some (.ref f)) (T : Top K mg) (ND : base.NoDigits) (c_L_sum : Cal P w K mg base 3 "_law_sum" 2 m_L_sum) (c_L_product : Cal P w K mg base 3 "_law_product" 2 m_L_product) (c_L_next : Cal P w K mg base 5 "_law_next" 4 m_L_next) (c_L_move : Cal P w K mg base 6 "_law_move" 2 m_L_move) (c_L_sides : Cal P w K mg base 5 "_law_sides" 2 m_L_sides) : Cal P w K mg base 7 "_law_entries" 3 m_L_entries := by
  have sc := sc_L_entries
  refine cal_mk hm F (fun _ _ _ _ _ _ us hl => match us, hl with | [_, _, _], _ => rfl) (fn_ofD (k := 6) F sc fun cdv A outer s H E W hr hg tk => ?_)
  have hu : (A.deeper (envOfC "_law_entries" (defScope zs_L_entries) s.heap.objs.size f cdv)).units + 65 < cLine := by have := hr.un; omega
  exact (ds_cons (ds_set 3 sc.nd (d_new da_nil))
  (ds_cons (ds_par 4 5 rfl sc.nd (d_tup (da_cons d_int (da_cons d_int da_nil))) (d_var 1))
  (ds_cons (ds_while (passes_of rfl) (db_cmp (od_le) (d_callB (cd_len) T.b_len (da_cons (d_var 3) da_nil)) (d_var 2)) (ds_cons (ds_asg (dg_tup rfl (dgs_cons (dg_name 6 sc.nd) (dgs_cons (dg_name 7 sc.nd) dgs_nil))) (d_call c_L_move (hr.mono (by decide)) hg tk (da_cons (d_var 0) (da_cons (d_call c_L_sides (hr.mono (by decide)) hg tk (da_cons (d_var 0) (da_cons (d_var 5) da_nil))) da_nil))))
  (ds_cons (ds_expr (d_met md_append PySem.F.plainAttrs_list PySem.F.slot_list_append PySem.F.type_list_append (d_var 3) (da_cons (d_tup (da_cons (d_var 4) (da_cons (d_var 5) (da_cons (d_var 6) (da_cons (d_var 7) da_nil))))) da_nil)))
  (ds_cons (ds_set 8 sc.nd (d_call c_L_next (hr.mono (by decide)) hg tk (da_cons (d_var 0) (da_cons (d_var 5) (da_cons (d_var 6) (da_cons (d_var 7) da_nil))))))
  (ds_cons (ds_if (db_cmp (od_isN) (d_var 8) d_non) (ds_one (ds_ret (d_frz (d_var 3)))) ds_nil)
  (ds_cons (ds_set 4 sc.nd (d_call c_L_sum (hr.mono (by decide)) hg tk (da_cons (d_var 4) (da_cons (d_var 8) da_nil))))
  (ds_one (ds_set 5 sc.nd (d_callT (cd_tuple) T.b_tuple (da_cons (d_lc (own := [("_law_part", 9), ("_law_rate", 10)]) finL_fz rfl sc.nd (di_zip T.b_zip (d_var 5) (d_var 7)) (blkOk_by (N := n_L_entries) (sc := defScope zs_L_entries) (by decide +kernel)) (fun _ _ _ _ _ => (dgw_tup rfl (dgsw_cons (dgw_name 9 (by decide) sc.nd) (dgsw_cons (dgw_name 10 (by decide) sc.nd) dgsw_nil)))) (fun _ _ _ _ _ => dt_nil) (fun _ _ _ _ _ => (d_call c_L_sum (hr.mono (by decide)) hg takes0 (da_cons (d_var 9) (da_cons (d_call c_L_product (hr.mono (by decide)) hg takes0 (da_cons (d_var 10) (da_cons (d_var 8) da_nil))) da_nil))))) da_nil))))))))))
  (ds_one (ds_ret (d_frz (d_var 3)))))))
abbrev zs_greatest_divisor : Stmt := top 6
abbrev n_greatest_divisor : List Str := ["first", "second"]
theorem sc_greatest_divisor : FnScope n_greatest_divisor ["first", "second"] (defScope zs_greatest_divisor) := ⟨rfl, rfl, rfl, by decide +kernel, rfl, by decide +kernel, by decide +kernel⟩
theorem ok_greatest_divisor {f : Addr} {fd : FuncData} (F : Fun K "greatest_divisor" "greatest_divisor" zs_greatest_divisor f fd) (hm : mg "greatest_divisor" = some (.ref f)) (T : Top K mg) (ND : base.NoDigits) : Cal P w K mg base 2 "greatest_divisor" 2 m_greatest_divisor := by
  have sc := sc_greatest_divisor
  refine cal_mk hm F (fun _ _ _ _ _ _ us hl => match us, hl with | [_, _], _ => rfl) (fn_ofD (k := 1) F sc fun cdv A outer s H E W hr hg tk => ?_)
  have hu : (A.deeper (envOfC "greatest_divisor" (defScope zs_greatest_divisor) s.heap.objs.size f cdv)).units + 65 < cLine := by have := hr.un; omega
  exact (ds_cons (ds_while (passes_of rfl) (db_cmp (od_ne (Nat.lt_of_succ_lt hu)) (d_var 1) d_int) (ds_one (ds_par 0 1 rfl sc.nd (d_var 1) (d_op od_mod (d_var 0) (d_var 1)))))
  (ds_one (ds_ret (d_callB (cd_abs) T.b_abs (da_cons (d_var 0) da_nil)))))
abbrev zs_fraction : Stmt := top 7
abbrev n_fraction : List Str := ["top", "bottom", "divisor"]
theorem sc_fraction : FnScope n_fraction ["top", "bottom"] (defScope zs_fraction) := ⟨rfl, rfl, rfl, by decide +kernel, rfl, by decide +kernel, by decide +kernel⟩
theorem ok_fraction {f : Addr} {fd : FuncData} (F : Fun K "fraction" "fraction" zs_fraction f fd) (hm : mg "fraction" = some (.ref f)) (T : Top K mg) (ND : base.NoDigits) (c_greatest_divisor : Cal P w K mg base 2 "greatest_divisor" 2 m_greatest_divisor) : Cal P w K mg base 3 "fraction" 2 m_fraction := by
  have sc := sc_fraction
  refine cal_mk hm F (fun _ _ _ _ _ _ us hl => match us, hl with | [_, _], _ => rfl) (fn_ofD (k := 2) F sc fun cdv A outer s H E W hr hg tk => ?_)
  have hu : (A.deeper (envOfC "fraction" (defScope zs_fraction) s.heap.objs.size f cdv)).units + 65 < cLine := by have := hr.un; omega
  exact (ds_cons (ds_if (db_cmp (od_eq (Nat.lt_of_succ_lt hu)) (d_var 1) d_int) (ds_one (ds_raise rfl tk T.x_ZeroDivisor)) ds_nil)
  (ds_cons (ds_set 2 sc.nd (d_call c_greatest_divisor (hr.mono (by decide)) hg tk (da_cons (d_var 0) (da_cons (d_var 1) da_nil))))
  (ds_cons (ds_set 2 sc.nd (d_if (db_cmp (od_lt) (d_var 1) d_int) (d_un ud_neg (d_var 2)) (d_var 2)))
  (ds_one (ds_ret (d_tup (da_cons (d_op od_fdiv (d_var 0) (d_var 2)) (da_cons (d_op od_fdiv (d_var 1) (d_var 2)) da_nil))))))))
abbrev zs_plus : Stmt := top 8
abbrev n_plus : List Str := ["one", "other"]
theorem sc_plus : FnScope n_plus ["one", "other"] (defScope zs_plus) := ⟨rfl, rfl, rfl, by decide +kernel, rfl, by decide +kernel, by decide +kernel⟩
theorem ok_plus {f : Addr} {fd : FuncData} (F : Fun K "plus" "plus" zs_plus f fd) (hm : mg "plus" = some (.ref f)) (T : Top K mg) (ND : base.NoDigits) (c_fraction : Cal P w K mg base 3 "fraction" 2 m_fraction) : Cal P w K mg base 4 "plus" 2 m_plus := by
  have sc := sc_plus
  refine cal_mk hm F (fun _ _ _ _ _ _ us hl => match us, hl with | [_, _], _ => rfl) (fn_ofD (k := 3) F sc fun cdv A outer s H E W hr hg tk => ?_)
  have hu : (A.deeper (envOfC "plus" (defScope zs_plus) s.heap.objs.size f cdv)).units + 65 < cLine := by have := hr.un; omega
  exact (ds_one (ds_ret (d_call c_fraction (hr.mono (by decide)) hg tk (da_cons (d_op od_add (d_op od_mul (d_ix (d_var 0) d_int) (d_ix (d_var 1) d_int)) (d_op od_mul (d_ix (d_var 1) d_int) (d_ix (d_var 0) d_int))) (da_cons (d_op od_mul (d_ix (d_var 0) d_int) (d_ix (d_var 1) d_int)) da_nil)))))
abbrev zs_times : Stmt := top 10
abbrev n_times : List Str := ["one", "other"]
theorem sc_times : FnScope n_times ["one", "other"] (defScope zs_times) := ⟨rfl, rfl, rfl, by decide +kernel, rfl, by decide +kernel, by decide +kernel⟩
theorem ok_times {f : Addr} {fd : FuncData} (F : Fun K "times" "times" zs_times f fd) (hm : mg "times" = some (.ref f)) (T : Top K mg) (ND : base.NoDigits) (c_fraction : Cal P w K mg base 3 "fraction" 2 m_fraction) : Cal P w K mg base 4 "times" 2 m_times := by
  have sc := sc_times
  refine cal_mk hm F (fun _ _ _ _ _ _ us hl => match us, hl with | [_, _], _ => rfl) (fn_ofD (k := 3) F sc fun cdv A outer s H E W hr hg tk => ?_)
  have hu : (A.deeper (envOfC "times" (defScope zs_times) s.heap.objs.size f cdv)).units + 65 < cLine := by have := hr.un; omega
  exact (ds_one (ds_ret (d_call c_fraction (hr.mono (by decide)) hg tk (da_cons (d_op od_mul (d_ix (d_var 0) d_int) (d_ix (d_var 1) d_int)) (da_cons (d_op od_mul (d_ix (d_var 0) d_int) (d_ix (d_var 1) d_int)) da_nil)))))
abbrev zs_moved : Stmt := top 16
abbrev n_moved : List Str := ["point", "drift", "time"]
theorem sc_moved : FnScope n_moved ["point", "drift", "time"] (defScope zs_moved) := ⟨rfl, rfl, rfl, by decide +kernel, rfl, by decide +kernel, by decide +kernel⟩
theorem ok_moved {f : Addr} {fd : FuncData} (F : Fun K "moved" "moved" zs_moved f fd) (hm : mg "moved" = some (.ref f)) (T : Top K mg) (ND : base.NoDigits) (c_plus : Cal P w K mg base 4 "plus" 2 m_plus) (c_times : Cal P w K mg base 4 "times" 2 m_times) : Cal P w K mg base 5 "moved" 3 m_moved := by
  have sc := sc_moved
  refine cal_mk hm F (fun _ _ _ _ _ _ us hl => match us, hl with | [_, _, _], _ => rfl) (fn_ofD (k := 4) F sc fun cdv A outer s H E W hr hg tk => ?_)
  have hu : (A.deeper (envOfC "moved" (defScope zs_moved) s.heap.objs.size f cdv)).units + 65 < cLine := by have := hr.un; omega
  exact (ds_one (ds_ret (d_tup (da_cons (d_call c_plus (hr.mono (by decide)) hg tk (da_cons (d_ix (d_var 0) d_int) (da_cons (d_call c_times (hr.mono (by decide)) hg tk (da_cons (d_ix (d_var 1) d_int) (da_cons (d_var 2) da_nil))) da_nil))) (da_cons (d_call c_plus (hr.mono (by decide)) hg tk (da_cons (d_ix (d_var 0) d_int) (da_cons (d_call c_times (hr.mono (by decide)) hg tk (da_cons (d_ix (d_var 1) d_int) (da_cons (d_var 2) da_nil))) da_nil))) da_nil)))))
abbrev zs_sign : Stmt := top 13
abbrev n_sign : List Str := ["one"]
theorem sc_sign : FnScope n_sign ["one"] (defScope zs_sign) := ⟨rfl, rfl, rfl, by decide +kernel, rfl, by decide +kernel, by decide +kernel⟩
theorem ok_sign {f : Addr} {fd : FuncData} (F : Fun K "sign" "sign" zs_sign f fd) (hm : mg "sign" = some (.ref f)) (T : Top K mg) (ND : base.NoDigits) : Cal P w K mg base 2 "sign" 1 m_sign := by
  have sc := sc_sign
  refine cal_mk hm F (fun _ _ _ _ _ _ us hl => match us, hl with | [_], _ => rfl) (fn_ofD (k := 1) F sc fun cdv A outer s H E W hr hg tk => ?_)
  have hu : (A.deeper (envOfC "sign" (defScope zs_sign) s.heap.objs.size f cdv)).units + 65 < cLine := by have := hr.un; omega
  exact (ds_one (ds_ret (d_op od_sub (d_cmp (od_gt) (d_ix (d_var 0) d_int) d_int) (d_cmp (od_lt) (d_ix (d_var 0) d_int) d_int))))
abbrev zs_is_less : Stmt := top 14
abbrev n_is_less : List Str := ["one", "other"]
theorem sc_is_less : FnScope n_is_less ["one", "other"] (defScope zs_is_less) := ⟨rfl, rfl, rfl, by decide +kernel, rfl, by decide +kernel, by decide +kernel⟩
theorem ok_is_less {f : Addr} {fd : FuncData} (F : Fun K "is_less" "is_less" zs_is_less f fd) (hm : mg "is_less" = some (.ref f)) (T : Top K mg) (ND : base.NoDigits) : Cal P w K mg base 2 "is_less" 2 m_is_less := by
  have sc := sc_is_less
  refine cal_mk hm F (fun _ _ _ _ _ _ us hl => match us, hl with | [_, _], _ => rfl) (fn_ofD (k := 1) F sc fun cdv A outer s H E W hr hg tk => ?_)
  have hu : (A.deeper (envOfC "is_less" (defScope zs_is_less) s.heap.objs.size f cdv)).units + 65 < cLine := by have := hr.un; omega
  exact (ds_one (ds_ret (d_cmp (od_lt) (d_op od_mul (d_ix (d_var 0) d_int) (d_ix (d_var 1) d_int)) (d_op od_mul (d_ix (d_var 1) d_int) (d_ix (d_var 0) d_int)))))
abbrev zs_over : Stmt := top 11
abbrev n_over : List Str := ["one", "other"]
theorem sc_over : FnScope n_over ["one", "other"] (defScope zs_over) := ⟨rfl, rfl, rfl, by decide +kernel, rfl, by decide +kernel, by decide +kernel⟩
theorem ok_over {f : Addr} {fd : FuncData} (F : Fun K "over" "over" zs_over f fd) (hm : mg "over" = some (.ref f)) (T : Top K mg) (ND : base.NoDigits) (c_fraction : Cal P w K mg base 3 "fraction" 2 m_fraction) : Cal P w K mg base 4 "over" 2 m_over := by
  have sc := sc_over
  refine cal_mk hm F (fun _ _ _ _ _ _ us hl => match us, hl with | [_, _], _ => rfl) (fn_ofD (k := 3) F sc fun cdv A outer s H E W hr hg tk => ?_)
  have hu : (A.deeper (envOfC "over" (defScope zs_over) s.heap.objs.size f cdv)).units + 65 < cLine := by have := hr.un; omega
  exact (ds_one (ds_ret (d_call c_fraction (hr.mono (by decide)) hg tk (da_cons (d_op od_mul (d_ix (d_var 0) d_int) (d_ix (d_var 1) d_int)) (da_cons (d_op od_mul (d_ix (d_var 0) d_int) (d_ix (d_var 1) d_int)) da_nil)))))
abbrev zs_opposite : Stmt := top 12
abbrev n_opposite : List Str := ["one"]
theorem sc_opposite : FnScope n_opposite ["one"] (defScope zs_opposite) := ⟨rfl, rfl, rfl, by decide +kernel, rfl, by decide +kernel, by decide +kernel⟩
theorem ok_opposite {f : Addr} {fd : FuncData} (F : Fun K "opposite" "opposite" zs_opposite f fd) (hm : mg "opposite" = some (.ref f)) (T : Top K mg) (ND : base.NoDigits) : Cal P w K mg base 2 "opposite" 1 m_opposite := by
  have sc := sc_opposite
  refine cal_mk hm F (fun _ _ _ _ _ _ us hl => match us, hl with | [_], _ => rfl) (fn_ofD (k := 1) F sc fun cdv A outer s H E W hr hg tk => ?_)
  have hu : (A.deeper (envOfC "opposite" (defScope zs_opposite) s.heap.objs.size f cdv)).units + 65 < cLine := by have := hr.un; omega
  exact (ds_one (ds_ret (d_tup (da_cons (d_un ud_neg (d_ix (d_var 0) d_int)) (da_cons (d_ix (d_var 0) d_int) da_nil)))))
abbrev zs_minus : Stmt := top 9
abbrev n_minus : List Str := ["one", "other"]
theorem sc_minus : FnScope n_minus ["one", "other"] (defScope zs_minus) := ⟨rfl, rfl, rfl, by decide +kernel, rfl, by decide +kernel, by decide +kernel⟩
theorem ok_minus {f : Addr} {fd : FuncData} (F : Fun K "minus" "minus" zs_minus f fd) (hm : mg "minus" = some (.ref f)) (T : Top K mg) (ND : base.NoDigits) (c_fraction : Cal P w K mg base 3 "fraction" 2 m_fraction) : Cal P w K mg base 4 "minus" 2 m_minus := by
  have sc := sc_minus
  refine cal_mk hm F (fun _ _ _ _ _ _ us hl => match us, hl with | [_, _], _ => rfl) (fn_ofD (k := 3) F sc fun cdv A outer s H E W hr hg tk => ?_)
  have hu : (A.deeper (envOfC "minus" (defScope zs_minus) s.heap.objs.size f cdv)).units + 65 < cLine := by have := hr.un; omega
  exact (ds_one (ds_ret (d_call c_fraction (hr.mono (by decide)) hg tk (da_cons (d_op od_sub (d_op od_mul (d_ix (d_var 0) d_int) (d_ix (d_var 1) d_int)) (d_op od_mul (d_ix (d_var 1) d_int) (d_ix (d_var 0) d_int))) (da_cons (d_op od_mul (d_ix (d_var 0) d_int) (d_ix (d_var 1) d_int)) da_nil)))))
abbrev zs_dot : Stmt := top 15
abbrev n_dot : List Str := ["one", "other"]
theorem sc_dot : FnScope n_dot ["one", "other"] (defScope zs_dot) := ⟨rfl, rfl, rfl, by decide +kernel, rfl, by decide +kernel, by decide +kernel⟩
theorem ok_dot {f : Addr} {fd : FuncData} (F : Fun K "dot" "dot" zs_dot f fd) (hm : mg "dot" = some (.ref f)) (T : Top K mg) (ND : base.NoDigits) (c_plus : Cal P w K mg base 4 "plus" 2 m_plus) (c_times : Cal P w K mg base 4 "times" 2 m_times) : Cal P w K mg base 5 "dot" 2 m_dot := by
  have sc := sc_dot
  refine cal_mk hm F (fun _ _ _ _ _ _ us hl => match us, hl with | [_, _], _ => rfl) (fn_ofD (k := 4) F sc fun cdv A outer s H E W hr hg tk => ?_)
  have hu : (A.deeper (envOfC "dot" (defScope zs_dot) s.heap.objs.size f cdv)).units + 65 < cLine := by have := hr.un; omega
  exact (ds_one (ds_ret (d_call c_plus (hr.mono (by decide)) hg tk (da_cons (d_call c_times (hr.mono (by decide)) hg tk (da_cons (d_ix (d_var 0) d_int) (da_cons (d_ix (d_var 1) d_int) da_nil))) (da_cons (d_call c_times (hr.mono (by decide)) hg tk (da_cons (d_ix (d_var 0) d_int) (da_cons (d_ix (d_var 1) d_int) da_nil))) da_nil)))))
abbrev zs_value_at : Stmt := top 19
abbrev n_value_at : List Str := ["line", "point"]
theorem sc_value_at : FnScope n_value_at ["line", "point"] (defScope zs_value_at) := ⟨rfl, rfl, rfl, by decide +kernel, rfl, by decide +kernel, by decide +kernel⟩
theorem ok_value_at {f : Addr} {fd : FuncData} (F : Fun K "value_at" "value_at" zs_value_at f fd) (hm : mg "value_at" = some (.ref f)) (T : Top K mg) (ND : base.NoDigits) (c_minus : Cal P w K mg base 4 "minus" 2 m_minus) (c_dot : Cal P w K mg base 5 "dot" 2 m_dot) : Cal P w K mg base 6 "value_at" 2 m_value_at := by
  have sc := sc_value_at
  refine cal_mk hm F (fun _ _ _ _ _ _ us hl => match us, hl with | [_, _], _ => rfl) (fn_ofD (k := 5) F sc fun cdv A outer s H E W hr hg tk => ?_)
  have hu : (A.deeper (envOfC "value_at" (defScope zs_value_at) s.heap.objs.size f cdv)).units + 65 < cLine := by have := hr.un; omega
  exact (ds_one (ds_ret (d_call c_minus (hr.mono (by decide)) hg tk (da_cons (d_call c_dot (hr.mono (by decide)) hg tk (da_cons (d_sl (d_var 0) (do_some d_int) (do_some d_int)) (da_cons (d_var 1) da_nil))) (da_cons (d_ix (d_var 0) d_int) da_nil)))))
abbrev zs_time_to_cross : Stmt := top 30
abbrev n_time_to_cross : List Str := ["plan", "point", "face", "drift", "best", "line", "side", "speed", "value", "time"]
theorem sc_time_to_cross : FnScope n_time_to_cross ["plan", "point", "face", "drift"] (defScope zs_time_to_cross) := ⟨rfl, rfl, rfl, by decide +kernel, rfl, by decide +kernel, by decide +kernel⟩
theorem ok_time_to_cross {f : Addr} {fd : FuncData} (F : Fun K "time_to_cross" "time_to_cross" zs_time_to_cross f fd) (hm : mg "time_to_cross" = some (.ref f)) (T : Top K mg) (ND : base.NoDigits) (c_sign : Cal P w K mg base 2 "sign" 1 m_sign) (c_is_less : Cal P w K mg base 2 "is_less" 2 m_is_less) (c_over : Cal P w K mg base 4 "over" 2 m_over) (c_opposite : Cal P w K mg base 2 "opposite" 1 m_opposite) (c_value_at : Cal P w K mg base 6 "value_at" 2 m_value_at) (c_dot : Cal P w K mg base 5 "dot" 2 m_dot) : Cal P w K mg base 7 "time_to_cross" 4 m_time_to_cross := by
  have sc := sc_time_to_cross
  refine cal_mk hm F (fun _ _ _ _ _ _ us hl => match us, hl with | [_, _, _, _], _ => rfl) (fn_ofD (k := 6) F sc fun cdv A outer s H E W hr hg tk => ?_)
  have hu : (A.deeper (envOfC "time_to_cross" (defScope zs_time_to_cross) s.heap.objs.size f cdv)).units + 65 < cLine := by have := hr.un; omega
  exact (ds_cons (ds_set 4 sc.nd d_non)
  (ds_cons (ds_for (passes_of rfl) rfl (di_zip T.b_zip (d_ix (d_var 0) d_int) (d_var 2)) (dg_tup rfl (dgs_cons (dg_name 5 sc.nd) (dgs_cons (dg_name 6 sc.nd) dgs_nil))) (ds_cons (ds_set 7 sc.nd (d_call c_dot (hr.mono (by decide)) hg tk (da_cons (d_sl (d_var 5) (do_some d_int) (do_some d_int)) (da_cons (d_var 3) da_nil))))
  (ds_cons (ds_set 8 sc.nd (d_call c_value_at (hr.mono (by decide)) hg tk (da_cons (d_var 5) (da_cons (d_var 1) da_nil))))
  (ds_one (ds_if (db_bool (dw_and (db_cmp (od_lt) (d_op od_mul (d_call c_sign (hr.mono (by decide)) hg tk (da_cons (d_var 8) da_nil)) (d_call c_sign (hr.mono (by decide)) hg tk (da_cons (d_var 7) da_nil))) d_int) (dw_and1 (db_cmp (od_ne (Nat.lt_of_succ_lt hu)) (d_var 6) d_int)))) (ds_cons (ds_set 9 sc.nd (d_call c_over (hr.mono (by decide)) hg tk (da_cons (d_call c_opposite (hr.mono (by decide)) hg tk (da_cons (d_var 8) da_nil)) (da_cons (d_var 7) da_nil))))
  (ds_one (ds_set 4 sc.nd (d_if (db_bool (dw_or (db_cmp (od_isN) (d_var 4) d_non) (dw_or1 (db_val (d_call c_is_less (hr.mono (by decide)) hg tk (da_cons (d_var 9) (da_cons (d_var 4) da_nil))))))) (d_var 9) (d_var 4))))) ds_nil)))))
  (ds_one (ds_ret (d_var 4)))))
abbrev zs_with_side : Stmt := top 22
abbrev n_with_side : List Str := ["face", "place", "side"]
theorem sc_with_side : FnScope n_with_side ["face", "place", "side"] (defScope zs_with_side) := ⟨rfl, rfl, rfl, by decide +kernel, rfl, by decide +kernel, by decide +kernel⟩
theorem ok_with_side {f : Addr} {fd : FuncData} (F : Fun K "with_side" "with_side" zs_with_side f fd) (hm : mg "with_side" = some (.ref f)) (T : Top K mg) (ND : base.NoDigits) : Cal P w K mg base 2 "with_side" 3 m_with_side := by
  have sc := sc_with_side
  refine cal_mk hm F (fun _ _ _ _ _ _ us hl => match us, hl with | [_, _, _], _ => rfl) (fn_ofD (k := 1) F sc fun cdv A outer s H E W hr hg tk => ?_)
  have hu : (A.deeper (envOfC "with_side" (defScope zs_with_side) s.heap.objs.size f cdv)).units + 65 < cLine := by have := hr.un; omega
  exact (ds_one (ds_ret (d_op od_add (d_op od_add (d_sl (d_var 0) do_none (do_some (d_var 1))) (d_tup (da_cons (d_var 2) da_nil))) (d_sl (d_var 0) (do_some (d_op od_add (d_var 1) d_int)) do_none))))
abbrev zs_choices : Stmt := top 25
abbrev n_choices : List Str := ["face", "places", "found", "place", "one", "side"]
theorem sc_choices : FnScope n_choices ["face", "places"] (defScope zs_choices) := ⟨rfl, rfl, rfl, by decide +kernel, rfl, by decide +kernel, by decide +kernel⟩
theorem ok_choices {f : Addr} {fd : FuncData} (F : Fun K "choices" "choices" zs_choices f fd) (hm : mg "choices" = some (.ref f)) (T : Top K mg) (ND : base.NoDigits) (c_with_side : Cal P w K mg base 2 "with_side" 3 m_with_side) : Cal P w K mg base 3 "choices" 2 m_choices := by
  have sc := sc_choices
  refine cal_mk hm F (fun _ _ _ _ _ _ us hl => match us, hl with | [_, _], _ => rfl) (fn_ofD (k := 2) F sc fun cdv A outer s H E W hr hg tk => ?_)
  have hu : (A.deeper (envOfC "choices" (defScope zs_choices) s.heap.objs.size f cdv)).units + 65 < cLine := by have := hr.un; omega
  exact (ds_cons (ds_set 2 sc.nd (d_lst (da_cons (d_var 0) da_nil)))
  (ds_cons (ds_for (passes_of rfl) rfl (di_seq (d_var 1)) (dg_name 3 sc.nd) (ds_one (ds_setLc2 (own := [("one", 4), ("side", 5)]) (vs1 := [5]) finL_fz 2 rfl sc.nd (di_seq (d_var 2)) (blkOk_by (N := n_choices) (sc := defScope zs_choices) (by decide +kernel)) (by decide) (fun _ _ _ _ _ => (dgw_name 4 (by decide) sc.nd)) (fun _ _ _ _ _ => dt_nil) (fun _ _ _ _ _ => (di_seq (d_tup (da_cons d_int (da_cons (d_un ud_neg d_int) da_nil))))) (fun _ _ _ _ _ => (dgw_name 5 (by decide) sc.nd)) (fun _ _ _ _ _ => dt_nil) (fun _ _ _ _ _ => (d_call c_with_side (hr.mono (by decide)) hg takes0 (da_cons (d_var 4) (da_cons (d_var 3) (da_cons (d_var 5) da_nil))))) (sw_true rfl rfl rfl (by decide +kernel)))))
  (ds_one (ds_ret (d_var 2)))))
abbrev zs_patch_drift : Stmt := top 21
abbrev n_patch_drift : List Str := ["plan", "face", "known", "line", "side", "drift", "conditions", "name"]
theorem sc_patch_drift : FnScope n_patch_drift ["plan", "face"] (defScope zs_patch_drift) := ⟨rfl, rfl, rfl, by decide +kernel, rfl, by decide +kernel, by decide +kernel⟩
theorem ok_patch_drift {f : Addr} {fd : FuncData} (F : Fun K "patch_drift" "patch_drift" zs_patch_drift f fd) (hm : mg "patch_drift" = some (.ref f)) (T : Top K mg) (ND : base.NoDigits) : Cal P w K mg base 2 "patch_drift" 2 m_patch_drift := by
  have sc := sc_patch_drift
  refine cal_mk hm F (fun _ _ _ _ _ _ us hl => match us, hl with | [_, _], _ => rfl) (fn_ofD (k := 1) F sc fun cdv A outer s H E W hr hg tk => ?_)
  have hu : (A.deeper (envOfC "patch_drift" (defScope zs_patch_drift) s.heap.objs.size f cdv)).units + 65 < cLine := by have := hr.un; omega
  exact (ds_cons (ds_set 2 sc.nd (d_dc (own := [("line", 3), ("side", 4)]) rfl sc.nd (di_zip T.b_zip (d_ix (d_var 0) d_int) (d_var 1)) (blkOk_by (N := n_patch_drift) (sc := defScope zs_patch_drift) (by decide +kernel)) (fun _ _ _ _ _ => (dgw_tup rfl (dgsw_cons (dgw_name 3 (by decide) sc.nd) (dgsw_cons (dgw_name 4 (by decide) sc.nd) dgsw_nil)))) (fun _ _ _ _ _ => dt_nil) (fun _ _ _ _ _ => (d_ix (d_var 3) d_int)) (fun _ _ _ _ _ => (d_var 4))))
  (ds_one (ds_ret (d_ix (d_lc (own := [("drift", 5), ("conditions", 6)]) finL_fz rfl sc.nd (di_seq (d_ix (d_var 0) d_int)) (blkOk_by (N := n_patch_drift) (sc := defScope zs_patch_drift) (by decide +kernel)) (fun _ _ _ _ _ => (dgw_tup rfl (dgsw_cons (dgw_name 5 (by decide) sc.nd) (dgsw_cons (dgw_name 6 (by decide) sc.nd) dgsw_nil)))) (fun _ _ _ _ _ => (dt_one (db_val (d_callB (cd_all rfl) T.b_all (da_cons (d_lc (own := [("name", 7), ("side", 4)]) finL_fz rfl sc.nd (di_seq (d_var 6)) (by dsimp only [Cx.blk, compEnvC, cxOf]; exact blkOk_by rfl) (fun _ _ _ _ _ => (dgw_tup rfl (dgsw_cons (dgw_name 7 (by decide) sc.nd) (dgsw_cons (dgw_name 4 (by decide) sc.nd) dgsw_nil)))) (fun _ _ _ _ _ => dt_nil) (fun _ _ _ _ _ => (d_cmp (od_eq (Nat.lt_of_succ_lt hu)) (d_dget hu (d_var 2) (d_var 7)) (d_var 4)))) da_nil))))) (fun _ _ _ _ _ => (d_var 5))) d_int))))
abbrev zs_edge_drift : Stmt := top 23
abbrev n_edge_drift : List Str := ["plan", "face", "place", "normal", "above", "below", "first", "second", "share", "rest", "one", "other"]
theorem sc_edge_drift : FnScope n_edge_drift ["plan", "face", "place"] (defScope zs_edge_drift) := ⟨rfl, rfl, rfl, by decide +kernel, rfl, by decide +kernel, by decide +kernel⟩
theorem ok_edge_drift {f : Addr} {fd : FuncData} (F : Fun K "edge_drift" "edge_drift" zs_edge_drift f fd) (hm : mg "edge_drift" = some (.ref f)) (T : Top K mg) (ND : base.NoDigits) (c_plus : Cal P w K mg base 4 "plus" 2 m_plus) (c_times : Cal P w K mg base 4 "times" 2 m_times) (c_minus : Cal P w K mg base 4 "minus" 2 m_minus) (c_over : Cal P w K mg base 4 "over" 2 m_over) (c_sign : Cal P w K mg base 2 "sign" 1 m_sign) (c_dot : Cal P w K mg base 5 "dot" 2 m_dot) (c_patch_drift : Cal P w K mg base 2 "patch_drift" 2 m_patch_drift) (c_with_side : Cal P w K mg base 2 "with_side" 3 m_with_side) : Cal P w K mg base 6 "edge_drift" 3 m_edge_drift := by
  have sc := sc_edge_drift
  have g_ONE := T.g_ONE
  refine cal_mk hm F (fun _ _ _ _ _ _ us hl => match us, hl with | [_, _, _], _ => rfl) (fn_ofD (k := 5) F sc fun cdv A outer s H E W hr hg tk => ?_)
  have hu : (A.deeper (envOfC "edge_drift" (defScope zs_edge_drift) s.heap.objs.size f cdv)).units + 65 < cLine := by have := hr.un; omega
  exact (ds_cons (ds_set 3 sc.nd (d_sl (d_ix (d_ix (d_var 0) d_int) (d_var 2)) (do_some d_int) (do_some d_int)))
  (ds_cons (ds_par 4 5 rfl sc.nd (d_call c_patch_drift (hr.mono (by decide)) hg tk (da_cons (d_var 0) (da_cons (d_call c_with_side (hr.mono (by decide)) hg tk (da_cons (d_var 1) (da_cons (d_var 2) (da_cons d_int da_nil)))) da_nil))) (d_call c_patch_drift (hr.mono (by decide)) hg tk (da_cons (d_var 0) (da_cons (d_call c_with_side (hr.mono (by decide)) hg tk (da_cons (d_var 1) (da_cons (d_var 2) (da_cons (d_un ud_neg d_int) da_nil)))) da_nil))))
  (ds_cons (ds_par 6 7 rfl sc.nd (d_call c_dot (hr.mono (by decide)) hg tk (da_cons (d_var 3) (da_cons (d_var 4) da_nil))) (d_call c_dot (hr.mono (by decide)) hg tk (da_cons (d_var 3) (da_cons (d_var 5) da_nil))))
  (ds_cons (ds_if (db_bool (dw_or (db_cmp (od_gt) (d_call c_sign (hr.mono (by decide)) hg tk (da_cons (d_var 6) da_nil)) d_int) (dw_or1 (db_cmp (od_lt) (d_call c_sign (hr.mono (by decide)) hg tk (da_cons (d_var 7) da_nil)) d_int)))) (ds_one (ds_ret d_non)) ds_nil)
  (ds_cons (ds_if (db_cmp (od_eq (Nat.lt_of_succ_lt hu)) (d_var 6) (d_var 7)) (ds_one (ds_ret (d_var 4))) ds_nil)
  (ds_cons (ds_set 8 sc.nd (d_call c_over (hr.mono (by decide)) hg tk (da_cons (d_var 7) (da_cons (d_call c_minus (hr.mono (by decide)) hg tk (da_cons (d_var 7) (da_cons (d_var 6) da_nil))) da_nil))))
  (ds_cons (ds_set 9 sc.nd (d_call c_minus (hr.mono (by decide)) hg tk (da_cons (d_glob g_ONE) (da_cons (d_var 8) da_nil))))
  (ds_one (ds_ret (d_callT (cd_tuple) T.b_tuple (da_cons (d_lc (own := [("one", 10), ("other", 11)]) finL_fz rfl sc.nd (di_zip T.b_zip (d_var 4) (d_var 5)) (blkOk_by (N := n_edge_drift) (sc := defScope zs_edge_drift) (by decide +kernel)) (fun _ _ _ _ _ => (dgw_tup rfl (dgsw_cons (dgw_name 10 (by decide) sc.nd) (dgsw_cons (dgw_name 11 (by decide) sc.nd) dgsw_nil)))) (fun _ _ _ _ _ => dt_nil) (fun _ _ _ _ _ => (d_call c_plus (hr.mono (by decide)) hg takes0 (da_cons (d_call c_times (hr.mono (by decide)) hg takes0 (da_cons (d_var 8) (da_cons (d_var 10) da_nil))) (da_cons (d_call c_times (hr.mono (by decide)) hg takes0 (da_cons (d_var 9) (da_cons (d_var 11) da_nil))) da_nil))))) da_nil)))))))))))
abbrev zs_drift_of : Stmt := top 24
abbrev n_drift_of : List Str := ["plan", "face"]
theorem sc_drift_of : FnScope n_drift_of ["plan", "face"] (defScope zs_drift_of) := ⟨rfl, rfl, rfl, by decide +kernel, rfl, by decide +kernel, by decide +kernel⟩
theorem ok_drift_of {f : Addr} {fd : FuncData} (F : Fun K "drift_of" "drift_of" zs_drift_of f fd) (hm : mg "drift_of" = some (.ref f)) (T : Top K mg) (ND : base.NoDigits) (c_edge_drift : Cal P w K mg base 6 "edge_drift" 3 m_edge_drift) (c_patch_drift : Cal P w K mg base 2 "patch_drift" 2 m_patch_drift) : Cal P w K mg base 7 "drift_of" 2 m_drift_of := by
  have sc := sc_drift_of
  refine cal_mk hm F (fun _ _ _ _ _ _ us hl => match us, hl with | [_, _], _ => rfl) (fn_ofD (k := 6) F sc fun cdv A outer s H E W hr hg tk => ?_)
  have hu : (A.deeper (envOfC "drift_of" (defScope zs_drift_of) s.heap.objs.size f cdv)).units + 65 < cLine := by have := hr.un; omega
  exact (ds_cons (ds_if (db_cmp (od_eq (Nat.lt_of_succ_lt hu)) (d_metA (ma_count hu) (d_var 1) (da_cons d_int da_nil)) d_int) (ds_one (ds_ret (d_call c_patch_drift (hr.mono (by decide)) hg tk (da_cons (d_var 0) (da_cons (d_var 1) da_nil))))) ds_nil)
  (ds_one (ds_ret (d_if (db_cmp (od_eq (Nat.lt_of_succ_lt hu)) (d_metA (ma_count hu) (d_var 1) (da_cons d_int da_nil)) d_int) (d_call c_edge_drift (hr.mono (by decide)) hg tk (da_cons (d_var 0) (da_cons (d_var 1) (da_cons (d_metA (ma_index hu) (d_var 1) (da_cons d_int da_nil)) da_nil)))) d_non))))
abbrev zs_fits : Stmt := top 26
abbrev n_fits : List Str := ["plan", "face", "places", "drift", "place"]
theorem sc_fits : FnScope n_fits ["plan", "face", "places"] (defScope zs_fits) := ⟨rfl, rfl, rfl, by decide +kernel, rfl, by decide +kernel, by decide +kernel⟩
theorem ok_fits {f : Addr} {fd : FuncData} (F : Fun K "fits" "fits" zs_fits f fd) (hm : mg "fits" = some (.ref f)) (T : Top K mg) (ND : base.NoDigits) (c_sign : Cal P w K mg base 2 "sign" 1 m_sign) (c_dot : Cal P w K mg base 5 "dot" 2 m_dot) (c_drift_of : Cal P w K mg base 7 "drift_of" 2 m_drift_of) : Cal P w K mg base 8 "fits" 3 m_fits := by
  have sc := sc_fits
  refine cal_mk hm F (fun _ _ _ _ _ _ us hl => match us, hl with | [_, _, _], _ => rfl) (fn_ofD (k := 7) F sc fun cdv A outer s H E W hr hg tk => ?_)
  have hu : (A.deeper (envOfC "fits" (defScope zs_fits) s.heap.objs.size f cdv)).units + 65 < cLine := by have := hr.un; omega
  exact (ds_cons (ds_set 3 sc.nd (d_call c_drift_of (hr.mono (by decide)) hg tk (da_cons (d_var 0) (da_cons (d_var 1) da_nil))))
  (ds_one (ds_ret (d_and (d_cmp (od_notN) (d_var 3) d_non) (d_one (d_callB (cd_all rfl) T.b_all (da_cons (d_lc (own := [("place", 4)]) finL_fz rfl sc.nd (di_seq (d_var 2)) (blkOk_by (N := n_fits) (sc := defScope zs_fits) (by decide +kernel)) (fun _ _ _ _ _ => (dgw_name 4 (by decide) sc.nd)) (fun _ _ _ _ _ => dt_nil) (fun _ _ _ _ _ => (d_cmp (od_eq (Nat.lt_of_succ_lt hu)) (d_call c_sign (hr.mono (by decide)) hg takes0 (da_cons (d_call c_dot (hr.mono (by decide)) hg takes0 (da_cons (d_sl (d_ix (d_ix (d_var 0) d_int) (d_var 4)) (do_some d_int) (do_some d_int)) (da_cons (d_var 3) da_nil))) da_nil)) (d_ix (d_var 1) (d_var 4))))) da_nil)))))))
abbrev zs_move_from : Stmt := top 28
abbrev n_move_from : List Str := ["plan", "here", "places", "edges", "place", "face", "side", "other"]
theorem sc_move_from : FnScope n_move_from ["plan", "here"] (defScope zs_move_from) := ⟨rfl, rfl, rfl, by decide +kernel, rfl, by decide +kernel, by decide +kernel⟩
theorem ok_move_from {f : Addr} {fd : FuncData} (F : Fun K "move_from" "move_from" zs_move_from f fd) (hm : mg "move_from" = some (.ref f)) (T : Top K mg) (ND : base.NoDigits) (c_choices : Cal P w K mg base 3 "choices" 2 m_choices) (c_fits : Cal P w K mg base 8 "fits" 3 m_fits) (c_drift_of : Cal P w K mg base 7 "drift_of" 2 m_drift_of) : Cal P w K mg base 9 "move_from" 2 m_move_from := by
  have sc := sc_move_from
  have g_STILL := T.g_STILL
  refine cal_mk hm F (fun _ _ _ _ _ _ us hl => match us, hl with | [_, _], _ => rfl) (fn_ofD (k := 8) F sc fun cdv A outer s H E W hr hg tk => ?_)
  have hu : (A.deeper (envOfC "move_from" (defScope zs_move_from) s.heap.objs.size f cdv)).units + 65 < cLine := by have := hr.un; omega
  exact (ds_cons (ds_setLc (own := [("place", 4), ("side", 6)]) finL_fz 2 rfl sc.nd (di_enumQ T.b_enumerate (d_var 1)) (blkOk_by (N := n_move_from) (sc := defScope zs_move_from) (by decide +kernel)) (fun _ _ _ _ _ => (dgw_tup rfl (dgsw_cons (dgw_name 4 (by decide) sc.nd) (dgsw_cons (dgw_name 6 (by decide) sc.nd) dgsw_nil)))) (fun _ _ _ _ _ => (dt_one (db_cmp (od_eq (Nat.lt_of_succ_lt hu)) (d_var 6) d_int))) (fun _ _ _ _ _ => (d_var 4)) (sw_true rfl rfl rfl (by decide +kernel)))
  (ds_cons (ds_set 3 sc.nd (d_new da_nil))
  (ds_cons (ds_for (passes_of rfl) rfl (di_seq (d_var 2)) (dg_name 4 sc.nd) (ds_one (ds_expr (d_met md_extend PySem.F.plainAttrs_list PySem.F.slot_list_extend PySem.F.type_list_extend (d_var 3) (da_cons (d_call c_choices (hr.mono (by decide)) hg tk (da_cons (d_var 1) (da_cons (d_lc (own := [("other", 7)]) finL_fz rfl sc.nd (di_seq (d_var 2)) (blkOk_by (N := n_move_from) (sc := defScope zs_move_from) (by decide +kernel)) (fun _ _ _ _ _ => (dgw_name 7 (by decide) sc.nd)) (fun _ _ _ _ _ => (dt_one (db_cmp (od_ne (Nat.lt_of_succ_lt hu)) (d_var 7) (d_var 4)))) (fun _ _ _ _ _ => (d_var 7))) da_nil))) da_nil)))))
  (ds_cons (ds_for (passes_of rfl) rfl (di_seq (d_op od_add (d_call c_choices (hr.mono (by decide)) hg tk (da_cons (d_var 1) (da_cons (d_var 2) da_nil))) (d_rev (d_callB (cd_sorted) T.b_sorted (da_cons (d_var 3) da_nil))))) (dg_name 5 sc.nd) (ds_one (ds_if (db_val (d_call c_fits (hr.mono (by decide)) hg tk (da_cons (d_var 0) (da_cons (d_var 5) (da_cons (d_var 2) da_nil))))) (ds_one (ds_ret (d_tup (da_cons (d_var 5) (da_cons (d_call c_drift_of (hr.mono (by decide)) hg tk (da_cons (d_var 0) (da_cons (d_var 5) da_nil))) da_nil))))) ds_nil)))
  (ds_one (ds_ret (d_tup (da_cons (d_var 1) (da_cons (d_glob g_STILL) da_nil)))))))))
abbrev zs_sides : Stmt := top 20
abbrev n_sides : List Str := ["plan", "point", "line"]
theorem sc_sides : FnScope n_sides ["plan", "point"] (defScope zs_sides) := ⟨rfl, rfl, rfl, by decide +kernel, rfl, by decide +kernel, by decide +kernel⟩
theorem ok_sides {f : Addr} {fd : FuncData} (F : Fun K "sides" "sides" zs_sides f fd) (hm : mg "sides" = some (.ref f)) (T : Top K mg) (ND : base.NoDigits) (c_sign : Cal P w K mg base 2 "sign" 1 m_sign) (c_value_at : Cal P w K mg base 6 "value_at" 2 m_value_at) : Cal P w K mg base 7 "sides" 2 m_sides := by
  have sc := sc_sides
  refine cal_mk hm F (fun _ _ _ _ _ _ us hl => match us, hl with | [_, _], _ => rfl) (fn_ofD (k := 6) F sc fun cdv A outer s H E W hr hg tk => ?_)
  have hu : (A.deeper (envOfC "sides" (defScope zs_sides) s.heap.objs.size f cdv)).units + 65 < cLine := by have := hr.un; omega
  exact (ds_one (ds_ret (d_callT (cd_tuple) T.b_tuple (da_cons (d_lc (own := [("line", 2)]) finL_fz rfl sc.nd (di_seq (d_ix (d_var 0) d_int)) (blkOk_by (N := n_sides) (sc := defScope zs_sides) (by decide +kernel)) (fun _ _ _ _ _ => (dgw_name 2 (by decide) sc.nd)) (fun _ _ _ _ _ => dt_nil) (fun _ _ _ _ _ => (d_call c_sign (hr.mono (by decide)) hg takes0 (da_cons (d_call c_value_at (hr.mono (by decide)) hg takes0 (da_cons (d_var 2) (da_cons (d_var 1) da_nil))) da_nil)))) da_nil))))
abbrev zs_move : Stmt := top 27
abbrev n_move : List Str := ["plan", "point"]
theorem sc_move : FnScope n_move ["plan", "point"] (defScope zs_move) := ⟨rfl, rfl, rfl, by decide +kernel, rfl, by decide +kernel, by decide +kernel⟩
theorem ok_move {f : Addr} {fd : FuncData} (F : Fun K "move" "move" zs_move f fd) (hm : mg "move" = some (.ref f)) (T : Top K mg) (ND : base.NoDigits) (c_move_from : Cal P w K mg base 9 "move_from" 2 m_move_from) (c_sides : Cal P w K mg base 7 "sides" 2 m_sides) : Cal P w K mg base 10 "move" 2 m_move := by
  have sc := sc_move
  refine cal_mk hm F (fun _ _ _ _ _ _ us hl => match us, hl with | [_, _], _ => rfl) (fn_ofD (k := 9) F sc fun cdv A outer s H E W hr hg tk => ?_)
  have hu : (A.deeper (envOfC "move" (defScope zs_move) s.heap.objs.size f cdv)).units + 65 < cLine := by have := hr.un; omega
  exact (ds_one (ds_ret (d_call c_move_from (hr.mono (by decide)) hg tk (da_cons (d_var 0) (da_cons (d_call c_sides (hr.mono (by decide)) hg tk (da_cons (d_var 0) (da_cons (d_var 1) da_nil))) da_nil)))))
abbrev zs_course : Stmt := top 31
abbrev n_course : List Str := ["plan", "start", "count", "found", "time", "point", "face", "drift", "needed"]
theorem sc_course : FnScope n_course ["plan", "start", "count"] (defScope zs_course) := ⟨rfl, rfl, rfl, by decide +kernel, rfl, by decide +kernel, by decide +kernel⟩
theorem ok_course {f : Addr} {fd : FuncData} (F : Fun K "course" "course" zs_course f fd) (hm : mg "course" = some (.ref f)) (T : Top K mg) (ND : base.NoDigits) (c_plus : Cal P w K mg base 4 "plus" 2 m_plus) (c_moved : Cal P w K mg base 5 "moved" 3 m_moved) (c_time_to_cross : Cal P w K mg base 7 "time_to_cross" 4 m_time_to_cross) (c_move : Cal P w K mg base 10 "move" 2 m_move) : Cal P w K mg base 11 "course" 3 m_course := by
  have sc := sc_course
  have g_STILL := T.g_STILL
  have g_ZERO := T.g_ZERO
  refine cal_mk hm F (fun _ _ _ _ _ _ us hl => match us, hl with | [_, _, _], _ => rfl) (fn_ofD (k := 10) F sc fun cdv A outer s H E W hr hg tk => ?_)
  have hu : (A.deeper (envOfC "course" (defScope zs_course) s.heap.objs.size f cdv)).units + 65 < cLine := by have := hr.un; omega
  exact (ds_cons (ds_set 3 sc.nd (d_new da_nil))
  (ds_cons (ds_par 4 5 rfl sc.nd (d_glob g_ZERO) (d_var 1))
  (ds_cons (ds_while (passes_of rfl) (db_cmp (od_le) (d_callB (cd_len) T.b_len (da_cons (d_var 3) da_nil)) (d_var 2)) (ds_cons (ds_asg (dg_tup rfl (dgs_cons (dg_name 6 sc.nd) (dgs_cons (dg_name 7 sc.nd) dgs_nil))) (d_call c_move (hr.mono (by decide)) hg tk (da_cons (d_var 0) (da_cons (d_var 5) da_nil))))
  (ds_cons (ds_expr (d_met md_append PySem.F.plainAttrs_list PySem.F.slot_list_append PySem.F.type_list_append (d_var 3) (da_cons (d_tup (da_cons (d_var 4) (da_cons (d_var 5) (da_cons (d_var 6) (da_cons (d_var 7) da_nil))))) da_nil)))
  (ds_cons (ds_set 8 sc.nd (d_if (db_cmp (od_ne (Nat.lt_of_succ_lt hu)) (d_var 7) (d_glob g_STILL)) (d_call c_time_to_cross (hr.mono (by decide)) hg tk (da_cons (d_var 0) (da_cons (d_var 5) (da_cons (d_var 6) (da_cons (d_var 7) da_nil))))) d_non))
  (ds_cons (ds_if (db_cmp (od_isN) (d_var 8) d_non) (ds_one (ds_ret (d_var 3))) ds_nil)
  (ds_one (ds_par 4 5 rfl sc.nd (d_call c_plus (hr.mono (by decide)) hg tk (da_cons (d_var 4) (da_cons (d_var 8) da_nil))) (d_call c_moved (hr.mono (by decide)) hg tk (da_cons (d_var 5) (da_cons (d_var 7) (da_cons (d_var 8) da_nil)))))))))))
  (ds_one (ds_ret (d_var 3))))))
abbrev zs_L_blown : Stmt := top 33
abbrev n_L_blown : List Str := ["_law_value_here", "_law_at", "_law_modulus", "_law_found", "_law_turn"]
theorem sc_L_blown : FnScope n_L_blown ["_law_value_here", "_law_at"] (defScope zs_L_blown) := ⟨rfl, rfl, rfl, by decide +kernel, rfl, by decide +kernel, by decide +kernel⟩
theorem ok_L_blown {f : Addr} {fd : FuncData} (F : Fun K "_law_blown" "_law_blown" zs_L_blown f fd) (hm : mg "_law_blown" = some (.ref f)) (T : Top K mg) (ND : base.NoDigits) : Cal P w K mg base 2 "_law_blown" 2 m_L_blown := by
  have sc := sc_L_blown
  refine cal_mk hm F (fun _ _ _ _ _ _ us hl => match us, hl with | [_, _], _ => rfl) (fn_ofD (k := 1) F sc fun cdv A outer s H E W hr hg tk => ?_)
  have hu : (A.deeper (envOfC "_law_blown" (defScope zs_L_blown) s.heap.objs.size f cdv)).units + 65 < cLine := by have := hr.un; omega
  exact (ds_cons (ds_set 2 sc.nd d_int)
  (ds_cons (ds_set 3 sc.nd (d_op od_mod (d_op od_add (d_op od_add (d_op od_mul (d_var 0) d_int) (d_op od_mul d_int (d_var 1))) d_int) (d_var 2)))
  (ds_cons (ds_for (passes_of rfl) rfl (di_range1 T.b_range d_int) (dg_name 4 sc.nd) (ds_one (ds_set 3 sc.nd (d_op od_mod (d_op od_add (d_op od_add (d_op od_add (d_op od_mul (d_var 3) (d_var 3)) (d_op od_mul d_int (d_var 3))) (d_op od_mul d_int (d_var 4))) (d_var 1)) (d_var 2)))))
  (ds_one (ds_ret (d_op od_add (d_op od_mul (d_var 3) (d_var 2)) (d_op od_mod (d_op od_add (d_op od_mul (d_var 3) d_int) (d_var 1)) (d_var 2))))))))
abbrev zs_L_pull : Stmt := top 35
abbrev n_L_pull : List Str := ["_law_urn_here", "_law_many", "_law_numbers", "_law_at", "_law_value_here", "_law_found"]
theorem sc_L_pull : FnScope n_L_pull ["_law_urn_here", "_law_many"] (defScope zs_L_pull) := ⟨rfl, rfl, rfl, by decide +kernel, rfl, by decide +kernel, by decide +kernel⟩
theorem ok_L_pull {f : Addr} {fd : FuncData} (F : Fun K "_law_pull" "_law_pull" zs_L_pull f fd) (hm : mg "_law_pull" = some (.ref f)) (T : Top K mg) (ND : base.NoDigits) (c_L_blown : Cal P w K mg base 2 "_law_blown" 2 m_L_blown) : Cal P w K mg base 3 "_law_pull" 2 m_L_pull := by
  have sc := sc_L_pull
  refine cal_mk hm F (fun _ _ _ _ _ _ us hl => match us, hl with | [_, _], _ => rfl) (fn_ofD (k := 2) F sc fun cdv A outer s H E W hr hg tk => ?_)
  have hu : (A.deeper (envOfC "_law_pull" (defScope zs_L_pull) s.heap.objs.size f cdv)).units + 65 < cLine := by have := hr.un; omega
  exact (ds_cons (ds_if (db_cmp (od_lt) (d_ix (d_var 0) d_int) (d_var 1)) (ds_cons (ds_par 2 3 rfl sc.nd (d_ix (d_var 0) d_int) (d_ix (d_var 0) d_int))
  (ds_cons (ds_set 4 sc.nd (d_if (db_cmp (od_ne (Nat.lt_of_succ_lt hu)) (d_var 2) (d_lst da_nil)) (d_ix (d_var 2) (d_op od_mod (d_var 3) (d_callB (cd_len) T.b_len (da_cons (d_var 2) da_nil)))) d_int))
  (ds_cons (ds_if (db_bool (dw_or (db_cmp (od_lt) (d_var 4) (d_op od_pow d_int d_int)) (dw_or1 (db_cmp (od_ge) (d_var 3) (d_callB (cd_len) T.b_len (da_cons (d_var 2) da_nil)))))) (ds_one (ds_set 4 sc.nd (d_call c_L_blown (hr.mono (by decide)) hg tk (da_cons (d_op od_add (d_op od_mod (d_var 4) (d_op od_pow d_int d_int)) (d_op od_fdiv (d_var 3) (d_op od_add (d_callB (cd_len) T.b_len (da_cons (d_var 2) da_nil)) d_int))) (da_cons (d_var 3) da_nil))))) ds_nil)
  (ds_cons (ds_asg (dg_sub (W := W) (d_var 0) d_int) (d_op od_add (d_var 3) d_int))
  (ds_one (ds_asg (dg_sub (W := W) (d_var 0) d_int) (d_var 4))))))) ds_nil)
  (ds_cons (ds_set 5 sc.nd (d_op od_mod (d_ix (d_var 0) d_int) (d_var 1)))
  (ds_cons (ds_asg (dg_sub (W := W) (d_var 0) d_int) (d_op od_fdiv (d_ix (d_var 0) d_int) (d_var 1)))
  (ds_one (ds_ret (d_var 5))))))
abbrev zs_L_item : Stmt := top 36
abbrev n_L_item : List Str := ["_law_urn_here", "_law_items"]
theorem sc_L_item : FnScope n_L_item ["_law_urn_here", "_law_items"] (defScope zs_L_item) := ⟨rfl, rfl, rfl, by decide +kernel, rfl, by decide +kernel, by decide +kernel⟩
theorem ok_L_item {f : Addr} {fd : FuncData} (F : Fun K "_law_item" "_law_item" zs_L_item f fd) (hm : mg "_law_item" = some (.ref f)) (T : Top K mg) (ND : base.NoDigits) (c_L_pull : Cal P w K mg base 3 "_law_pull" 2 m_L_pull) : Cal P w K mg base 4 "_law_item" 2 m_L_item := by
  have sc := sc_L_item
  refine cal_mk hm F (fun _ _ _ _ _ _ us hl => match us, hl with | [_, _], _ => rfl) (fn_ofD (k := 3) F sc fun cdv A outer s H E W hr hg tk => ?_)
  have hu : (A.deeper (envOfC "_law_item" (defScope zs_L_item) s.heap.objs.size f cdv)).units + 65 < cLine := by have := hr.un; omega
  exact (ds_one (ds_ret (d_ix (d_var 1) (d_call c_L_pull (hr.mono (by decide)) hg tk (da_cons (d_var 0) (da_cons (d_callB (cd_len) T.b_len (da_cons (d_var 1) da_nil)) da_nil))))))
abbrev zs_L_small : Stmt := top 43
abbrev n_L_small : List Str := ["_law_urn_here", "_law_size"]
theorem sc_L_small : FnScope n_L_small ["_law_urn_here", "_law_size"] (defScope zs_L_small) := ⟨rfl, rfl, rfl, by decide +kernel, rfl, by decide +kernel, by decide +kernel⟩
theorem ok_L_small {f : Addr} {fd : FuncData} (F : Fun K "_law_small" "_law_small" zs_L_small f fd) (hm : mg "_law_small" = some (.ref f)) (T : Top K mg) (ND : base.NoDigits) (c_L_low : Cal P w K mg base 2 "_law_low" 2 m_L_low) (c_L_item : Cal P w K mg base 4 "_law_item" 2 m_L_item) (c_L_pull : Cal P w K mg base 3 "_law_pull" 2 m_L_pull) : Cal P w K mg base 5 "_law_small" 2 m_L_small := by
  have sc := sc_L_small
  refine cal_mk hm F (fun _ _ _ _ _ _ us hl => match us, hl with | [_, _], _ => rfl) (fn_ofD (k := 4) F sc fun cdv A outer s H E W hr hg tk => ?_)
  have hu : (A.deeper (envOfC "_law_small" (defScope zs_L_small) s.heap.objs.size f cdv)).units + 65 < cLine := by have := hr.un; omega
  exact (ds_one (ds_ret (d_call c_L_low (hr.mono (by decide)) hg tk (da_cons (d_op od_sub (d_call c_L_pull (hr.mono (by decide)) hg tk (da_cons (d_var 0) (da_cons (d_op od_add (d_op od_mul d_int (d_var 1)) d_int) da_nil))) (d_var 1)) (da_cons (d_call c_L_item (hr.mono (by decide)) hg tk (da_cons (d_var 0) (da_cons (d_lst (da_cons d_int (da_cons d_int (da_cons d_int (da_cons d_int (da_cons d_int da_nil)))))) da_nil))) da_nil)))))
abbrev zs_L_some_point : Stmt := top 47
abbrev n_L_some_point : List Str := ["_law_urn_here", "_law_plan", "_law_lines", "_law_way", "_law_name", "_law_a", "_law_b", "_law_c", "_law_other", "_law_turn", "_law_x", "_law_y", "_law_value_here", "_law_rest"]
theorem sc_L_some_point : FnScope n_L_some_point ["_law_urn_here", "_law_plan"] (defScope zs_L_some_point) := ⟨rfl, rfl, rfl, by decide +kernel, rfl, by decide +kernel, by decide +kernel⟩
theorem ok_L_some_point {f : Addr} {fd : FuncData} (F : Fun K "_law_some_point" "_law_some_point" zs_L_some_point f fd) (hm : mg "_law_some_point" = some (.ref f)) (T : Top K mg) (ND : base.NoDigits) (c_L_low : Cal P w K mg base 2 "_law_low" 2 m_L_low) (c_L_minus : Cal P w K mg base 3 "_law_minus" 2 m_L_minus) (c_L_product : Cal P w K mg base 3 "_law_product" 2 m_L_product) (c_L_small : Cal P w K mg base 5 "_law_small" 2 m_L_small) (c_L_item : Cal P w K mg base 4 "_law_item" 2 m_L_item) (c_L_pull : Cal P w K mg base 3 "_law_pull" 2 m_L_pull) : Cal P w K mg base 6 "_law_some_point" 2 m_L_some_point := by
  have sc := sc_L_some_point
  refine cal_mk hm F (fun _ _ _ _ _ _ us hl => match us, hl with | [_, _], _ => rfl) (fn_ofD (k := 5) F sc fun cdv A outer s H E W hr hg tk => ?_)
  have hu : (A.deeper (envOfC "_law_some_point" (defScope zs_L_some_point) s.heap.objs.size f cdv)).units + 65 < cLine := by have := hr.un; omega
  exact (ds_cons (ds_set 2 sc.nd (d_callT (cd_list) T.b_list (da_cons (d_ix (d_var 1) d_int) da_nil)))
  (ds_cons (ds_set 3 sc.nd (d_call c_L_pull (hr.mono (by decide)) hg tk (da_cons (d_var 0) (da_cons d_int da_nil))))
  (ds_cons (ds_if (db_bool (dw_or (db_cmp (od_eq (Nat.lt_of_succ_lt hu)) (d_var 3) d_int) (dw_or1 (db_cmp (od_eq (Nat.lt_of_succ_lt hu)) (d_var 2) (d_lst da_nil))))) (ds_one (ds_ret (d_tup (da_cons (d_call c_L_small (hr.mono (by decide)) hg tk (da_cons (d_var 0) (da_cons d_int da_nil))) (da_cons (d_call c_L_small (hr.mono (by decide)) hg tk (da_cons (d_var 0) (da_cons d_int da_nil))) da_nil))))) ds_nil)
  (ds_cons (ds_asg (dg_tup rfl (dgs_cons (dg_name 4 sc.nd) (dgs_cons (dg_name 5 sc.nd) (dgs_cons (dg_name 6 sc.nd) (dgs_cons (dg_name 7 sc.nd) dgs_nil))))) (d_call c_L_item (hr.mono (by decide)) hg tk (da_cons (d_var 0) (da_cons (d_var 2) da_nil))))
  (ds_cons (ds_set 8 sc.nd (d_call c_L_item (hr.mono (by decide)) hg tk (da_cons (d_var 0) (da_cons (d_var 2) da_nil))))
  (ds_cons (ds_set 9 sc.nd (d_call c_L_minus (hr.mono (by decide)) hg tk (da_cons (d_call c_L_product (hr.mono (by decide)) hg tk (da_cons (d_var 5) (da_cons (d_ix (d_var 8) d_int) da_nil))) (da_cons (d_call c_L_product (hr.mono (by decide)) hg tk (da_cons (d_var 6) (da_cons (d_ix (d_var 8) d_int) da_nil))) da_nil))))
  (ds_cons (ds_if (db_bool (dw_and (db_cmp (od_gt) (d_var 3) d_int) (dw_and1 (db_cmp (od_ne (Nat.lt_of_succ_lt hu)) (d_ix (d_var 9) d_int) d_int)))) (ds_cons (ds_set 10 sc.nd (d_call c_L_minus (hr.mono (by decide)) hg tk (da_cons (d_call c_L_product (hr.mono (by decide)) hg tk (da_cons (d_var 7) (da_cons (d_ix (d_var 8) d_int) da_nil))) (da_cons (d_call c_L_product (hr.mono (by decide)) hg tk (da_cons (d_var 6) (da_cons (d_ix (d_var 8) d_int) da_nil))) da_nil))))
  (ds_cons (ds_set 11 sc.nd (d_call c_L_minus (hr.mono (by decide)) hg tk (da_cons (d_call c_L_product (hr.mono (by decide)) hg tk (da_cons (d_var 5) (da_cons (d_ix (d_var 8) d_int) da_nil))) (da_cons (d_call c_L_product (hr.mono (by decide)) hg tk (da_cons (d_var 7) (da_cons (d_ix (d_var 8) d_int) da_nil))) da_nil))))
  (ds_one (ds_ret (d_tup (da_cons (d_call c_L_low (hr.mono (by decide)) hg tk (da_cons (d_op od_mul (d_ix (d_var 10) d_int) (d_ix (d_var 9) d_int)) (da_cons (d_op od_mul (d_ix (d_var 10) d_int) (d_ix (d_var 9) d_int)) da_nil))) (da_cons (d_call c_L_low (hr.mono (by decide)) hg tk (da_cons (d_op od_mul (d_ix (d_var 11) d_int) (d_ix (d_var 9) d_int)) (da_cons (d_op od_mul (d_ix (d_var 11) d_int) (d_ix (d_var 9) d_int)) da_nil))) da_nil))))))) ds_nil)
  (ds_cons (ds_set 12 sc.nd (d_call c_L_small (hr.mono (by decide)) hg tk (da_cons (d_var 0) (da_cons d_int da_nil))))
  (ds_cons (ds_if (db_cmp (od_eq (Nat.lt_of_succ_lt hu)) (d_ix (d_var 6) d_int) d_int) (ds_one (ds_ret (d_tup (da_cons (d_call c_L_low (hr.mono (by decide)) hg tk (da_cons (d_op od_mul (d_ix (d_var 7) d_int) (d_ix (d_var 5) d_int)) (da_cons (d_op od_mul (d_ix (d_var 7) d_int) (d_ix (d_var 5) d_int)) da_nil))) (da_cons (d_var 12) da_nil))))) ds_nil)
  (ds_cons (ds_set 13 sc.nd (d_call c_L_minus (hr.mono (by decide)) hg tk (da_cons (d_var 7) (da_cons (d_call c_L_product (hr.mono (by decide)) hg tk (da_cons (d_var 5) (da_cons (d_var 12) da_nil))) da_nil))))
  (ds_one (ds_ret (d_tup (da_cons (d_var 12) (da_cons (d_call c_L_low (hr.mono (by decide)) hg tk (da_cons (d_op od_mul (d_ix (d_var 13) d_int) (d_ix (d_var 6) d_int)) (da_cons (d_op od_mul (d_ix (d_var 13) d_int) (d_ix (d_var 6) d_int)) da_nil))) da_nil)))))))))))))))
abbrev zs_L_strip : Stmt := top 49
abbrev n_L_strip : List Str := ["_law_urn_here", "_law_high", "_law_shift", "_law_p", "_law_q", "_law_back", "_law_down", "_law_lines", "_law_rules", "_law_k", "_law_one"]
theorem sc_L_strip : FnScope n_L_strip ["_law_urn_here"] (defScope zs_L_strip) := ⟨rfl, rfl, rfl, by decide +kernel, rfl, by decide +kernel, by decide +kernel⟩
theorem ok_L_strip {f : Addr} {fd : FuncData} (F : Fun K "_law_strip" "_law_strip" zs_L_strip f fd) (hm : mg "_law_strip" = some (.ref f)) (T : Top K mg) (ND : base.NoDigits) (c_L_low : Cal P w K mg base 2 "_law_low" 2 m_L_low) (c_L_pull : Cal P w K mg base 3 "_law_pull" 2 m_L_pull) (c_L_small : Cal P w K mg base 5 "_law_small" 2 m_L_small) : Cal P w K mg base 6 "_law_strip" 1 m_L_strip := by
  have sc := sc_L_strip
  refine cal_mk hm F (fun _ _ _ _ _ _ us hl => match us, hl with | [_], _ => rfl) (fn_ofD (k := 5) F sc fun cdv A outer s H E W hr hg tk => ?_)
  have hu : (A.deeper (envOfC "_law_strip" (defScope zs_L_strip) s.heap.objs.size f cdv)).units + 65 < cLine := by have := hr.un; omega
  exact (ds_cons (ds_par 1 2 rfl sc.nd (d_call c_L_low (hr.mono (by decide)) hg tk (da_cons (d_op od_add d_int (d_call c_L_pull (hr.mono (by decide)) hg tk (da_cons (d_var 0) (da_cons d_int da_nil)))) (da_cons (d_op od_add d_int (d_call c_L_pull (hr.mono (by decide)) hg tk (da_cons (d_var 0) (da_cons d_int da_nil)))) da_nil))) (d_call c_L_small (hr.mono (by decide)) hg tk (da_cons (d_var 0) (da_cons d_int da_nil))))
  (ds_cons (ds_setLc (own := [("_law_k", 9)]) finL_fz 3 rfl sc.nd (di_range1 T.b_range d_int) (blkOk_by (N := n_L_strip) (sc := defScope zs_L_strip) (by decide +kernel)) (fun _ _ _ _ _ => (dgw_name 9 (by decide) sc.nd)) (fun _ _ _ _ _ => dt_nil) (fun _ _ _ _ _ => (d_call c_L_low (hr.mono (by decide)) hg takes0 (da_cons (d_op od_add d_int (d_call c_L_pull (hr.mono (by decide)) hg takes0 (da_cons (d_var 0) (da_cons d_int da_nil)))) (da_cons (d_op od_add d_int (d_call c_L_pull (hr.mono (by decide)) hg takes0 (da_cons (d_var 0) (da_cons d_int da_nil)))) da_nil)))) (sw_true rfl rfl rfl (by decide +kernel)))
  (ds_cons (ds_setLc (own := [("_law_k", 9)]) finL_fz 4 rfl sc.nd (di_range1 T.b_range d_int) (blkOk_by (N := n_L_strip) (sc := defScope zs_L_strip) (by decide +kernel)) (fun _ _ _ _ _ => (dgw_name 9 (by decide) sc.nd)) (fun _ _ _ _ _ => dt_nil) (fun _ _ _ _ _ => (d_call c_L_low (hr.mono (by decide)) hg takes0 (da_cons (d_op od_add d_int (d_call c_L_pull (hr.mono (by decide)) hg takes0 (da_cons (d_var 0) (da_cons d_int da_nil)))) (da_cons (d_op od_add d_int (d_call c_L_pull (hr.mono (by decide)) hg takes0 (da_cons (d_var 0) (da_cons d_int da_nil)))) da_nil)))) (sw_true rfl rfl rfl (by decide +kernel)))
  (ds_cons (ds_par 5 6 rfl sc.nd (d_lc (own := [("_law_one", 10)]) finL_fz rfl sc.nd (di_seq (d_var 3)) (blkOk_by (N := n_L_strip) (sc := defScope zs_L_strip) (by decide +kernel)) (fun _ _ _ _ _ => (dgw_name 10 (by decide) sc.nd)) (fun _ _ _ _ _ => dt_nil) (fun _ _ _ _ _ => (d_tup (da_cons (d_op od_sub d_int (d_ix (d_var 10) d_int)) (da_cons (d_ix (d_var 10) d_int) da_nil))))) (d_lc (own := [("_law_one", 10)]) finL_fz rfl sc.nd (di_seq (d_var 4)) (blkOk_by (N := n_L_strip) (sc := defScope zs_L_strip) (by decide +kernel)) (fun _ _ _ _ _ => (dgw_name 10 (by decide) sc.nd)) (fun _ _ _ _ _ => dt_nil) (fun _ _ _ _ _ => (d_tup (da_cons (d_op od_sub d_int (d_ix (d_var 10) d_int)) (da_cons (d_ix (d_var 10) d_int) da_nil))))))
  (ds_cons (ds_set 7 sc.nd (d_tup (da_cons (d_tup (da_cons d_str (da_cons (d_tup (da_cons d_int (da_cons d_int da_nil))) (da_cons (d_tup (da_cons d_int (da_cons d_int da_nil))) (da_cons (d_tup (da_cons d_int (da_cons d_int da_nil))) da_nil))))) (da_cons (d_tup (da_cons d_str (da_cons (d_tup (da_cons d_int (da_cons d_int da_nil))) (da_cons (d_tup (da_cons d_int (da_cons d_int da_nil))) (da_cons (d_tup (da_cons d_int (da_cons d_int da_nil))) da_nil))))) (da_cons (d_tup (da_cons d_str (da_cons (d_tup (da_cons d_int (da_cons d_int da_nil))) (da_cons (d_tup (da_cons d_int (da_cons d_int da_nil))) (da_cons (d_var 1) da_nil))))) da_nil)))))
  (ds_cons (ds_set 8 sc.nd (d_lst (da_cons (d_tup (da_cons (d_tup (da_cons (d_ix (d_var 5) d_int) (da_cons (d_ix (d_var 4) d_int) da_nil))) (da_cons (d_tup (da_cons (d_tup (da_cons d_str (da_cons d_int da_nil))) (da_cons (d_tup (da_cons d_str (da_cons d_int da_nil))) da_nil))) da_nil))) (da_cons (d_tup (da_cons (d_tup (da_cons (d_var 2) (da_cons (d_ix (d_var 4) d_int) da_nil))) (da_cons (d_tup (da_cons (d_tup (da_cons d_str (da_cons d_int da_nil))) (da_cons (d_tup (da_cons d_str (da_cons d_int da_nil))) da_nil))) da_nil))) da_nil))))
  (ds_cons (ds_set 8 sc.nd (d_op od_add (d_var 8) (d_lst (da_cons (d_tup (da_cons (d_tup (da_cons (d_ix (d_var 3) d_int) (da_cons (d_ix (d_var 4) d_int) da_nil))) (da_cons (d_tup (da_cons (d_tup (da_cons d_str (da_cons d_int da_nil))) da_nil)) da_nil))) (da_cons (d_tup (da_cons (d_tup (da_cons (d_ix (d_var 5) d_int) (da_cons (d_ix (d_var 6) d_int) da_nil))) (da_cons (d_tup (da_cons (d_tup (da_cons d_str (da_cons d_int da_nil))) da_nil)) da_nil))) da_nil)))))
  (ds_one (ds_ret (d_tup (da_cons (d_var 7) (da_cons (d_op od_add (d_callT (cd_tuple) T.b_tuple (da_cons (d_var 8) da_nil)) (d_tup (da_cons (d_tup (da_cons (d_tup (da_cons (d_tup (da_cons d_int (da_cons d_int da_nil))) (da_cons (d_ix (d_var 6) d_int) da_nil))) (da_cons (d_tup (da_cons (d_tup (da_cons d_str (da_cons d_int da_nil))) da_nil)) da_nil))) (da_cons (d_tup (da_cons (d_tup (da_cons (d_ix (d_var 3) d_int) (da_cons (d_ix (d_var 6) d_int) da_nil))) (da_cons (d_tup da_nil) da_nil))) da_nil)))) da_nil))))))))))))
abbrev zs_L_wheel : Stmt := top 48
abbrev n_L_wheel : List Str := ["_law_urn_here", "_law_first", "_law_second", "_law_spot", "_law_lines", "_law_name", "_law_pair", "_law_c", "_law_corners", "_law_ways", "_law_rules", "_law_side", "_law_way", "_law_size", "_law_drift_here", "_law_k", "_law_part", "_law_one"]
theorem sc_L_wheel : FnScope n_L_wheel ["_law_urn_here"] (defScope zs_L_wheel) := ⟨rfl, rfl, rfl, by decide +kernel, rfl, by decide +kernel, by decide +kernel⟩
theorem ok_L_wheel {f : Addr} {fd : FuncData} (F : Fun K "_law_wheel" "_law_wheel" zs_L_wheel f fd) (hm : mg "_law_wheel" = some (.ref f)) (T : Top K mg) (ND : base.NoDigits) (c_L_pull : Cal P w K mg base 3 "_law_pull" 2 m_L_pull) (c_L_small : Cal P w K mg base 5 "_law_small" 2 m_L_small) (c_L_low : Cal P w K mg base 2 "_law_low" 2 m_L_low) (c_L_item : Cal P w K mg base 4 "_law_item" 2 m_L_item) (c_L_sum : Cal P w K mg base 3 "_law_sum" 2 m_L_sum) (c_L_product : Cal P w K mg base 3 "_law_product" 2 m_L_product) : Cal P w K mg base 6 "_law_wheel" 1 m_L_wheel := by
  have sc := sc_L_wheel
  refine cal_mk hm F (fun _ _ _ _ _ _ us hl => match us, hl with | [_], _ => rfl) (fn_ofD (k := 5) F sc fun cdv A outer s H E W hr hg tk => ?_)
  have hu : (A.deeper (envOfC "_law_wheel" (defScope zs_L_wheel) s.heap.objs.size f cdv)).units + 65 < cLine := by have := hr.un; omega
  exact (ds_cons (ds_set 1 sc.nd (d_call c_L_item (hr.mono (by decide)) hg tk (da_cons (d_var 0) (da_cons (d_lst (da_cons (d_tup (da_cons (d_tup (da_cons d_int (da_cons d_int da_nil))) (da_cons (d_tup (da_cons d_int (da_cons d_int da_nil))) da_nil))) (da_cons (d_tup (da_cons (d_tup (da_cons d_int (da_cons d_int da_nil))) (da_cons (d_tup (da_cons d_int (da_cons d_int da_nil))) da_nil))) da_nil))) da_nil))))
  (ds_cons (ds_set 2 sc.nd (d_call c_L_item (hr.mono (by decide)) hg tk (da_cons (d_var 0) (da_cons (d_lst (da_cons (d_tup (da_cons (d_tup (da_cons d_int (da_cons d_int da_nil))) (da_cons (d_tup (da_cons d_int (da_cons d_int da_nil))) da_nil))) (da_cons (d_tup (da_cons (d_tup (da_cons (d_op od_sub d_int d_int) (da_cons d_int da_nil))) (da_cons (d_tup (da_cons d_int (da_cons d_int da_nil))) da_nil))) da_nil))) da_nil))))
  (ds_cons (ds_set 3 sc.nd (d_tup (da_cons (d_call c_L_small (hr.mono (by decide)) hg tk (da_cons (d_var 0) (da_cons d_int da_nil))) (da_cons (d_call c_L_small (hr.mono (by decide)) hg tk (da_cons (d_var 0) (da_cons d_int da_nil))) da_nil))))
  (ds_cons (ds_set 4 sc.nd (d_new da_nil))
  (ds_cons (ds_for (passes_of rfl) rfl (di_seq (d_lst (da_cons (d_tup (da_cons d_str (da_cons (d_var 1) da_nil))) (da_cons (d_tup (da_cons d_str (da_cons (d_var 2) da_nil))) da_nil)))) (dg_tup rfl (dgs_cons (dg_name 5 sc.nd) (dgs_cons (dg_name 6 sc.nd) dgs_nil))) (ds_cons (ds_set 7 sc.nd (d_call c_L_sum (hr.mono (by decide)) hg tk (da_cons (d_call c_L_product (hr.mono (by decide)) hg tk (da_cons (d_ix (d_var 6) d_int) (da_cons (d_ix (d_var 3) d_int) da_nil))) (da_cons (d_call c_L_product (hr.mono (by decide)) hg tk (da_cons (d_ix (d_var 6) d_int) (da_cons (d_ix (d_var 3) d_int) da_nil))) da_nil))))
  (ds_one (ds_expr (d_met md_append PySem.F.plainAttrs_list PySem.F.slot_list_append PySem.F.type_list_append (d_var 4) (da_cons (d_tup (da_cons (d_var 5) (da_cons (d_ix (d_var 6) d_int) (da_cons (d_ix (d_var 6) d_int) (da_cons (d_var 7) da_nil))))) da_nil))))))
  (ds_cons (ds_set 8 sc.nd (d_lst (da_cons (d_tup (da_cons d_int (da_cons d_int da_nil))) (da_cons (d_tup (da_cons (d_op od_sub d_int d_int) (da_cons d_int da_nil))) (da_cons (d_tup (da_cons (d_op od_sub d_int d_int) (da_cons (d_op od_sub d_int d_int) da_nil))) (da_cons (d_tup (da_cons d_int (da_cons (d_op od_sub d_int d_int) da_nil))) da_nil))))))
  (ds_cons (ds_set 9 sc.nd (d_lst (da_cons (d_tup (da_cons (d_op od_sub d_int d_int) (da_cons d_int da_nil))) (da_cons (d_tup (da_cons (d_op od_sub d_int d_int) (da_cons (d_op od_sub d_int d_int) da_nil))) (da_cons (d_tup (da_cons d_int (da_cons (d_op od_sub d_int d_int) da_nil))) (da_cons (d_tup (da_cons d_int (da_cons d_int da_nil))) da_nil))))))
  (ds_cons (ds_if (db_cmp (od_eq (Nat.lt_of_succ_lt hu)) (d_call c_L_pull (hr.mono (by decide)) hg tk (da_cons (d_var 0) (da_cons d_int da_nil))) d_int) (ds_one (ds_set 9 sc.nd (d_lst (da_cons (d_tup (da_cons d_int (da_cons (d_op od_sub d_int d_int) da_nil))) (da_cons (d_tup (da_cons d_int (da_cons d_int da_nil))) (da_cons (d_tup (da_cons (d_op od_sub d_int d_int) (da_cons d_int da_nil))) (da_cons (d_tup (da_cons (d_op od_sub d_int d_int) (da_cons (d_op od_sub d_int d_int) da_nil))) da_nil))))))) ds_nil)
  (ds_cons (ds_set 10 sc.nd (d_new da_nil))
  (ds_cons (ds_for (passes_of rfl) rfl (di_zipQ T.b_zip (d_var 8) (d_var 9)) (dg_tup rfl (dgs_cons (dg_name 11 sc.nd) (dgs_cons (dg_name 12 sc.nd) dgs_nil))) (ds_cons (ds_setLc (own := [("_law_k", 15)]) finL_fz 13 rfl sc.nd (di_range1 T.b_range d_int) (blkOk_by (N := n_L_wheel) (sc := defScope zs_L_wheel) (by decide +kernel)) (fun _ _ _ _ _ => (dgw_name 15 (by decide) sc.nd)) (fun _ _ _ _ _ => dt_nil) (fun _ _ _ _ _ => (d_call c_L_low (hr.mono (by decide)) hg takes0 (da_cons (d_op od_add d_int (d_call c_L_pull (hr.mono (by decide)) hg takes0 (da_cons (d_var 0) (da_cons (d_call c_L_item (hr.mono (by decide)) hg takes0 (da_cons (d_var 0) (da_cons (d_lst (da_cons d_int (da_cons d_int (da_cons d_int da_nil)))) da_nil))) da_nil)))) (da_cons (d_op od_add d_int (d_call c_L_pull (hr.mono (by decide)) hg takes0 (da_cons (d_var 0) (da_cons d_int da_nil)))) da_nil)))) (sw_true rfl rfl rfl (by decide +kernel)))
  (ds_cons (ds_set 14 sc.nd (d_callT (cd_tuple) T.b_tuple (da_cons (d_lc (own := [("_law_part", 16), ("_law_one", 17)]) finL_fz rfl sc.nd (di_zipQ T.b_zip (d_var 12) (d_var 13)) (blkOk_by (N := n_L_wheel) (sc := defScope zs_L_wheel) (by decide +kernel)) (fun _ _ _ _ _ => (dgw_tup rfl (dgsw_cons (dgw_name 16 (by decide) sc.nd) (dgsw_cons (dgw_name 17 (by decide) sc.nd) dgsw_nil)))) (fun _ _ _ _ _ => dt_nil) (fun _ _ _ _ _ => (d_tup (da_cons (d_op od_mul (d_var 16) (d_ix (d_var 17) d_int)) (da_cons (d_ix (d_var 17) d_int) da_nil))))) da_nil)))
  (ds_one (ds_expr (d_met md_append PySem.F.plainAttrs_list PySem.F.slot_list_append PySem.F.type_list_append (d_var 10) (da_cons (d_tup (da_cons (d_var 14) (da_cons (d_tup (da_cons (d_tup (da_cons d_str (da_cons (d_ix (d_var 11) d_int) da_nil))) (da_cons (d_tup (da_cons d_str (da_cons (d_ix (d_var 11) d_int) da_nil))) da_nil))) da_nil))) da_nil)))))))
  (ds_cons (ds_if (db_cmp (od_eq (Nat.lt_of_succ_lt hu)) (d_call c_L_pull (hr.mono (by decide)) hg tk (da_cons (d_var 0) (da_cons d_int da_nil))) d_int) (ds_cons (ds_expr (d_met md_append PySem.F.plainAttrs_list PySem.F.slot_list_append PySem.F.type_list_append (d_var 4) (da_cons (d_tup (da_cons d_str (da_cons (d_tup (da_cons d_int (da_cons d_int da_nil))) (da_cons (d_tup (da_cons (d_op od_sub (d_call c_L_pull (hr.mono (by decide)) hg tk (da_cons (d_var 0) (da_cons d_int da_nil))) d_int) (da_cons d_int da_nil))) (da_cons (d_tup (da_cons (d_op od_add d_int (d_call c_L_pull (hr.mono (by decide)) hg tk (da_cons (d_var 0) (da_cons d_int da_nil)))) (da_cons d_int da_nil))) da_nil))))) da_nil)))
  (ds_one (ds_set 10 sc.nd (d_op od_addN (d_lst (da_cons (d_tup (da_cons (d_tup (da_cons (d_call c_L_small (hr.mono (by decide)) hg tk (da_cons (d_var 0) (da_cons d_int da_nil))) (da_cons (d_call c_L_small (hr.mono (by decide)) hg tk (da_cons (d_var 0) (da_cons d_int da_nil))) da_nil))) (da_cons (d_tup (da_cons (d_tup (da_cons d_str (da_cons d_int da_nil))) da_nil)) da_nil))) da_nil)) (d_var 10))))) ds_nil)
  (ds_one (ds_ret (d_tup (da_cons (d_callT (cd_tuple) T.b_tuple (da_cons (d_var 4) da_nil)) (da_cons (d_op od_add (d_callT (cd_tuple) T.b_tuple (da_cons (d_var 10) da_nil)) (d_tup (da_cons (d_tup (da_cons (d_tup (da_cons (d_tup (da_cons d_int (da_cons d_int da_nil))) (da_cons (d_tup (da_cons d_int (da_cons d_int da_nil))) da_nil))) (da_cons (d_tup da_nil) da_nil))) da_nil))) da_nil))))))))))))))))
abbrev zs_L_same_place : Stmt := top 45
abbrev n_L_same_place : List Str := ["_law_one", "_law_other", "_law_i", "_law_j", "_law_first"]
theorem sc_L_same_place : FnScope n_L_same_place ["_law_one", "_law_other"] (defScope zs_L_same_place) := ⟨rfl, rfl, rfl, by decide +kernel, rfl, by decide +kernel, by decide +kernel⟩
theorem ok_L_same_place {f : Addr} {fd : FuncData} (F : Fun K "_law_same_place" "_law_same_place" zs_L_same_place f fd) (hm : mg "_law_same_place" = some (.ref f)) (T : Top K mg) (ND : base.NoDigits) (c_L_product : Cal P w K mg base 3 "_law_product" 2 m_L_product) : Cal P w K mg base 4 "_law_same_place" 2 m_L_same_place := by
  have sc := sc_L_same_place
  refine cal_mk hm F (fun _ _ _ _ _ _ us hl => match us, hl with | [_, _], _ => rfl) (fn_ofD (k := 3) F sc fun cdv A outer s H E W hr hg tk => ?_)
  have hu : (A.deeper (envOfC "_law_same_place" (defScope zs_L_same_place) s.heap.objs.size f cdv)).units + 65 < cLine := by have := hr.un; omega
  exact (ds_cons (ds_for (passes_of rfl) rfl (di_seq (d_lst (da_cons (d_tup (da_cons d_int (da_cons d_int da_nil))) (da_cons (d_tup (da_cons d_int (da_cons d_int da_nil))) (da_cons (d_tup (da_cons d_int (da_cons d_int da_nil))) da_nil))))) (dg_tup rfl (dgs_cons (dg_name 2 sc.nd) (dgs_cons (dg_name 3 sc.nd) dgs_nil))) (ds_cons (ds_set 4 sc.nd (d_call c_L_product (hr.mono (by decide)) hg tk (da_cons (d_ix (d_var 0) (d_var 2)) (da_cons (d_ix (d_var 1) (d_var 3)) da_nil))))
  (ds_one (ds_if (db_cmp (od_ne (Nat.lt_of_succ_lt hu)) (d_var 4) (d_call c_L_product (hr.mono (by decide)) hg tk (da_cons (d_ix (d_var 0) (d_var 3)) (da_cons (d_ix (d_var 1) (d_var 2)) da_nil)))) (ds_one (ds_ret d_bl)) ds_nil))))
  (ds_one (ds_ret d_bl)))
abbrev zs_L_some_lines : Stmt := top 44
abbrev n_L_some_lines : List Str := ["_law_urn_here", "_law_most", "_law_found", "_law_names", "_law_name", "_law_ways", "_law_a", "_law_b", "_law_c", "_law_size", "_law_fresh", "_law_one", "_law_line"]
theorem sc_L_some_lines : FnScope n_L_some_lines ["_law_urn_here", "_law_most"] (defScope zs_L_some_lines) := ⟨rfl, rfl, rfl, by decide +kernel, rfl, by decide +kernel, by decide +kernel⟩
theorem ok_L_some_lines {f : Addr} {fd : FuncData} (F : Fun K "_law_some_lines" "_law_some_lines" zs_L_some_lines f fd) (hm : mg "_law_some_lines" = some (.ref f)) (T : Top K mg) (ND : base.NoDigits) (c_L_item : Cal P w K mg base 4 "_law_item" 2 m_L_item) (c_L_pull : Cal P w K mg base 3 "_law_pull" 2 m_L_pull) (c_L_same_place : Cal P w K mg base 4 "_law_same_place" 2 m_L_same_place) (c_L_product : Cal P w K mg base 3 "_law_product" 2 m_L_product) (c_L_small : Cal P w K mg base 5 "_law_small" 2 m_L_small) : Cal P w K mg base 6 "_law_some_lines" 2 m_L_some_lines := by
  have sc := sc_L_some_lines
  refine cal_mk hm F (fun _ _ _ _ _ _ us hl => match us, hl with | [_, _], _ => rfl) (fn_ofD (k := 5) F sc fun cdv A outer s H E W hr hg tk => ?_)
  have hu : (A.deeper (envOfC "_law_some_lines" (defScope zs_L_some_lines) s.heap.objs.size f cdv)).units + 65 < cLine := by have := hr.un; omega
  exact (ds_cons (ds_set 2 sc.nd (d_new da_nil))
  (ds_cons (ds_set 3 sc.nd (d_lst (da_cons (d_lst (da_cons d_str (da_cons d_str (da_cons d_str (da_cons d_str (da_cons d_str (da_cons d_str da_nil))))))) (da_cons (d_lst (da_cons d_str (da_cons d_str (da_cons d_str (da_cons d_str (da_cons d_str (da_cons d_str da_nil))))))) da_nil))))
  (ds_cons (ds_for (passes_of rfl) rfl (di_seq (d_sl (d_call c_L_item (hr.mono (by decide)) hg tk (da_cons (d_var 0) (da_cons (d_var 3) da_nil))) do_none (do_some (d_call c_L_pull (hr.mono (by decide)) hg tk (da_cons (d_var 0) (da_cons (d_op od_add (d_var 1) d_int) da_nil)))))) (dg_name 4 sc.nd) (ds_cons (ds_set 5 sc.nd (d_lst (da_cons (d_tup (da_cons (d_tup (da_cons d_int (da_cons d_int da_nil))) (da_cons (d_tup (da_cons d_int (da_cons d_int da_nil))) (da_cons (d_tup (da_cons d_int (da_cons d_int da_nil))) da_nil)))) (da_cons (d_tup (da_cons (d_tup (da_cons d_int (da_cons d_int da_nil))) (da_cons (d_tup (da_cons d_int (da_cons d_int da_nil))) (da_cons (d_tup (da_cons d_int (da_cons d_int da_nil))) da_nil)))) da_nil))))
  (ds_cons (ds_set 5 sc.nd (d_op od_add (d_var 5) (d_lst (da_cons (d_tup (da_cons (d_tup (da_cons d_int (da_cons d_int da_nil))) (da_cons (d_tup (da_cons d_int (da_cons d_int da_nil))) (da_cons (d_tup (da_cons d_int (da_cons d_int da_nil))) da_nil)))) (da_cons (d_tup (da_cons (d_tup (da_cons d_int (da_cons d_int da_nil))) (da_cons (d_tup (da_cons (d_op od_sub d_int d_int) (da_cons d_int da_nil))) (da_cons (d_tup (da_cons d_int (da_cons d_int da_nil))) da_nil)))) da_nil)))))
  (ds_cons (ds_asg (dg_tup rfl (dgs_cons (dg_name 6 sc.nd) (dgs_cons (dg_name 7 sc.nd) (dgs_cons (dg_name 8 sc.nd) dgs_nil)))) (d_call c_L_item (hr.mono (by decide)) hg tk (da_cons (d_var 0) (da_cons (d_op od_add (d_var 5) (d_rep (da_cons (d_tup (da_cons (d_call c_L_small (hr.mono (by decide)) hg tk (da_cons (d_var 0) (da_cons d_int da_nil))) (da_cons (d_call c_L_small (hr.mono (by decide)) hg tk (da_cons (d_var 0) (da_cons d_int da_nil))) (da_cons (d_tup (da_cons d_int (da_cons d_int da_nil))) da_nil)))) da_nil))) da_nil))))
  (ds_cons (ds_set 8 sc.nd (d_call c_L_item (hr.mono (by decide)) hg tk (da_cons (d_var 0) (da_cons (d_lst (da_cons (d_var 8) (da_cons (d_var 8) (da_cons (d_call c_L_small (hr.mono (by decide)) hg tk (da_cons (d_var 0) (da_cons d_int da_nil))) da_nil)))) da_nil))))
  (ds_cons (ds_set 9 sc.nd (d_call c_L_item (hr.mono (by decide)) hg tk (da_cons (d_var 0) (da_cons (d_lst (da_cons (d_tup (da_cons d_int (da_cons d_int da_nil))) (da_cons (d_tup (da_cons d_int (da_cons d_int da_nil))) (da_cons (d_tup (da_cons (d_op od_sub d_int d_int) (da_cons d_int da_nil))) (da_cons (d_tup (da_cons d_int (da_cons d_int da_nil))) da_nil))))) da_nil))))
  (ds_cons (ds_set 10 sc.nd (d_callT (cd_tuple) T.b_tuple (da_cons (d_lc (own := [("_law_one", 11)]) finL_fz rfl sc.nd (di_seq (d_tup (da_cons (d_var 6) (da_cons (d_var 7) (da_cons (d_var 8) da_nil))))) (blkOk_by (N := n_L_some_lines) (sc := defScope zs_L_some_lines) (by decide +kernel)) (fun _ _ _ _ _ => (dgw_name 11 (by decide) sc.nd)) (fun _ _ _ _ _ => dt_nil) (fun _ _ _ _ _ => (d_call c_L_product (hr.mono (by decide)) hg takes0 (da_cons (d_var 11) (da_cons (d_var 9) da_nil))))) da_nil)))
  (ds_one (ds_if (db_bool (dw_and (db_cmp (od_ne (Nat.lt_of_succ_lt hu)) (d_sl (d_var 10) do_none (do_some d_int)) (d_tup (da_cons (d_tup (da_cons d_int (da_cons d_int da_nil))) (da_cons (d_tup (da_cons d_int (da_cons d_int da_nil))) da_nil)))) (dw_and1 (db_cmp (od_eq (Nat.lt_of_succ_lt hu)) (d_lcS (own := [("_law_line", 12)]) finL_fz rfl sc.nd (d_var 2) (blkOk_by (N := n_L_some_lines) (sc := defScope zs_L_some_lines) (by decide +kernel)) (fun _ _ _ _ _ => (dgw_name 12 (by decide) sc.nd)) (fun _ _ _ _ _ => (dt_one (db_val (d_call c_L_same_place (hr.mono (by decide)) hg takes0 (da_cons (d_var 10) (da_cons (d_sl (d_var 12) (do_some d_int) do_none) da_nil)))))) (fun _ _ _ _ _ => d_int)) (d_lst da_nil))))) (ds_one (ds_expr (d_met md_append PySem.F.plainAttrs_list PySem.F.slot_list_append PySem.F.type_list_append (d_var 2) (da_cons (d_op od_add (d_tup (da_cons (d_var 4) da_nil)) (d_var 10)) da_nil)))) ds_nil)))))))))
  (ds_one (ds_ret (d_callT (cd_tuple) T.b_tuple (da_cons (d_var 2) da_nil)))))))
abbrev zs_L_some_plan : Stmt := top 46
abbrev n_L_some_plan : List Str := ["_law_urn_here", "_law_most", "_law_lines", "_law_rules", "_law_k", "_law_conditions", "_law_line"]
theorem sc_L_some_plan : FnScope n_L_some_plan ["_law_urn_here", "_law_most"] (defScope zs_L_some_plan) := ⟨rfl, rfl, rfl, by decide +kernel, rfl, by decide +kernel, by decide +kernel⟩
theorem ok_L_some_plan {f : Addr} {fd : FuncData} (F : Fun K "_law_some_plan" "_law_some_plan" zs_L_some_plan f fd) (hm : mg "_law_some_plan" = some (.ref f)) (T : Top K mg) (ND : base.NoDigits) (c_L_small : Cal P w K mg base 5 "_law_small" 2 m_L_small) (c_L_pull : Cal P w K mg base 3 "_law_pull" 2 m_L_pull) (c_L_item : Cal P w K mg base 4 "_law_item" 2 m_L_item) (c_L_some_lines : Cal P w K mg base 6 "_law_some_lines" 2 m_L_some_lines) : Cal P w K mg base 7 "_law_some_plan" 2 m_L_some_plan := by
  have sc := sc_L_some_plan
  refine cal_mk hm F (fun _ _ _ _ _ _ us hl => match us, hl with | [_, _], _ => rfl) (fn_ofD (k := 6) F sc fun cdv A outer s H E W hr hg tk => ?_)
  have hu : (A.deeper (envOfC "_law_some_plan" (defScope zs_L_some_plan) s.heap.objs.size f cdv)).units + 65 < cLine := by have := hr.un; omega
  exact (ds_cons (ds_set 2 sc.nd (d_call c_L_some_lines (hr.mono (by decide)) hg tk (da_cons (d_var 0) (da_cons (d_var 1) da_nil))))
  (ds_cons (ds_set 3 sc.nd (d_new da_nil))
  (ds_cons (ds_for (passes_of rfl) rfl (di_range1 T.b_range (d_call c_L_pull (hr.mono (by decide)) hg tk (da_cons (d_var 0) (da_cons (d_call c_L_item (hr.mono (by decide)) hg tk (da_cons (d_var 0) (da_cons (d_lst (da_cons d_int (da_cons d_int da_nil))) da_nil))) da_nil)))) (dg_name 4 sc.nd) (ds_cons (ds_setLc (own := [("_law_line", 6)]) finL_fz 5 rfl sc.nd (di_seq (d_var 2)) (blkOk_by (N := n_L_some_plan) (sc := defScope zs_L_some_plan) (by decide +kernel)) (fun _ _ _ _ _ => (dgw_name 6 (by decide) sc.nd)) (fun _ _ _ _ _ => (dt_one (db_cmp (od_eq (Nat.lt_of_succ_lt hu)) (d_call c_L_pull (hr.mono (by decide)) hg takes0 (da_cons (d_var 0) (da_cons d_int da_nil))) d_int))) (fun _ _ _ _ _ => (d_tup (da_cons (d_ix (d_var 6) d_int) (da_cons (d_call c_L_item (hr.mono (by decide)) hg takes0 (da_cons (d_var 0) (da_cons (d_lst (da_cons d_int (da_cons (d_op od_sub d_int d_int) da_nil))) da_nil))) da_nil)))) (sw_true rfl rfl rfl (by decide +kernel)))
  (ds_one (ds_if (db_cmp (od_ne (Nat.lt_of_succ_lt hu)) (d_var 5) (d_lst da_nil)) (ds_one (ds_expr (d_met md_append PySem.F.plainAttrs_list PySem.F.slot_list_append PySem.F.type_list_append (d_var 3) (da_cons (d_tup (da_cons (d_tup (da_cons (d_call c_L_small (hr.mono (by decide)) hg tk (da_cons (d_var 0) (da_cons d_int da_nil))) (da_cons (d_call c_L_small (hr.mono (by decide)) hg tk (da_cons (d_var 0) (da_cons d_int da_nil))) da_nil))) (da_cons (d_callT (cd_tuple) T.b_tuple (da_cons (d_var 5) da_nil)) da_nil))) da_nil)))) ds_nil))))
  (ds_cons (ds_set 3 sc.nd (d_op od_addN (d_var 3) (d_if (db_bool (dw_and (db_cmp (od_lt) (d_callB (cd_len) T.b_len (da_cons (d_var 3) da_nil)) d_int) (dw_and1 (db_cmp (od_eq (Nat.lt_of_succ_lt hu)) (d_call c_L_pull (hr.mono (by decide)) hg tk (da_cons (d_var 0) (da_cons d_int da_nil))) d_int)))) (d_sl (d_var 3) do_none (do_some d_int)) (d_lst da_nil))))
  (ds_one (ds_ret (d_tup (da_cons (d_var 2) (da_cons (d_op od_add (d_callT (cd_tuple) T.b_tuple (da_cons (d_var 3) da_nil)) (d_tup (da_cons (d_tup (da_cons (d_tup (da_cons (d_call c_L_small (hr.mono (by decide)) hg tk (da_cons (d_var 0) (da_cons d_int da_nil))) (da_cons (d_call c_L_small (hr.mono (by decide)) hg tk (da_cons (d_var 0) (da_cons d_int da_nil))) da_nil))) (da_cons (d_tup da_nil) da_nil))) da_nil))) da_nil)))))))))
abbrev zs_L_urn : Stmt := top 34
abbrev n_L_urn : List Str := ["_law_script", "_law_numbers", "_law_at", "_law_one"]
theorem sc_L_urn : FnScope n_L_urn ["_law_script"] (defScope zs_L_urn) := ⟨rfl, rfl, rfl, by decide +kernel, rfl, by decide +kernel, by decide +kernel⟩
theorem ok_L_urn {f : Addr} {fd : FuncData} (F : Fun K "_law_urn" "_law_urn" zs_L_urn f fd) (hm : mg "_law_urn" = some (.ref f)) (T : Top K mg) (ND : base.NoDigits) : Cal P w K mg base 2 "_law_urn" 1 m_L_urn := by
  have sc := sc_L_urn
  refine cal_mk hm F (fun _ _ _ _ _ _ us hl => match us, hl with | [_], _ => rfl) (fn_ofD (k := 1) F sc fun cdv A outer s H E W hr hg tk => ?_)
  have hu : (A.deeper (envOfC "_law_urn" (defScope zs_L_urn) s.heap.objs.size f cdv)).units + 65 < cLine := by have := hr.un; omega
  exact (ds_cons (ds_setLc (own := [("_law_one", 3)]) finL_pl 1 rfl sc.nd (di_seq (d_sl (d_var 0) do_none (do_some d_int))) (blkOk_by (N := n_L_urn) (sc := defScope zs_L_urn) (by decide +kernel)) (fun _ _ _ _ _ => (dgw_name 3 (by decide) sc.nd)) (fun _ _ _ _ _ => dt_nil) (fun _ _ _ _ _ => (d_callB (cd_abs) T.b_abs (da_cons (d_var 3) da_nil))) (sw_true rfl rfl rfl (by decide +kernel)))
  (ds_cons (ds_for (passes_of rfl) rfl (di_enum T.b_enumerate (d_sl (d_var 0) (do_some d_int) (do_some d_int))) (dg_tup rfl (dgs_cons (dg_name 2 sc.nd) (dgs_cons (dg_name 3 sc.nd) dgs_nil))) (ds_one (ds_asg (dg_sub (W := W) (d_var 1) (d_op od_mod (d_var 2) d_int)) (d_op od_add (d_ix (d_var 1) (d_op od_mod (d_var 2) d_int)) (d_callB (cd_abs) T.b_abs (da_cons (d_var 3) da_nil))))))
  (ds_one (ds_ret (d_new (da_cons (d_frz (d_var 1)) (da_cons d_int (da_cons d_int da_nil))))))))
abbrev zs_law : Stmt := top 58
abbrev n_law : List Str := ["_law_script", "_law_urn_here", "_law_turn", "_law_plan", "_law_before", "_law_k", "_law_start", "_law_count", "_law_due", "_law_time", "_law_found"]
theorem sc_law : FnScope n_law ["_law_script"] (defScope zs_law) := ⟨rfl, rfl, rfl, by decide +kernel, rfl, by decide +kernel, by decide +kernel⟩
theorem ok_law {f : Addr} {fd : FuncData} (F : Fun K "law" "law" zs_law f fd) (hm : mg "law" = some (.ref f)) (T : Top K mg) (ND : base.NoDigits) (c_L_twin : Cal P w K mg base 2 "_law_twin" 2 m_L_twin) (c_L_entries : Cal P w K mg base 7 "_law_entries" 3 m_L_entries) (c_course : Cal P w K mg base 11 "course" 3 m_course) (c_L_some_point : Cal P w K mg base 6 "_law_some_point" 2 m_L_some_point) (c_L_pull : Cal P w K mg base 3 "_law_pull" 2 m_L_pull) (c_L_item : Cal P w K mg base 4 "_law_item" 2 m_L_item) (c_L_strip : Cal P w K mg base 6 "_law_strip" 1 m_L_strip) (c_L_wheel : Cal P w K mg base 6 "_law_wheel" 1 m_L_wheel) (c_L_some_plan : Cal P w K mg base 7 "_law_some_plan" 2 m_L_some_plan) (c_L_urn : Cal P w K mg base 2 "_law_urn" 1 m_L_urn) : FnD P w K mg base 12 f fd ["_law_script"] m_law := by
  have sc := sc_law
  refine fn_ofD (k := 11) F sc fun cdv A outer s H E W hr hg tk => ?_
  have hu : (A.deeper (envOfC "law" (defScope zs_law) s.heap.objs.size f cdv)).units + 65 < cLine := by have := hr.un; omega
  exact (ds_cons (ds_set 1 sc.nd (d_call c_L_urn (hr.mono (by decide)) hg tk (da_cons (d_var 0) da_nil)))
  (ds_cons (ds_for (passes_of rfl) rfl (di_range1 T.b_range d_int) (dg_name 2 sc.nd) (ds_cons (ds_set 3 sc.nd (d_call c_L_some_plan (hr.mono (by decide)) hg tk (da_cons (d_var 1) (da_cons d_int da_nil))))
  (ds_cons (ds_set 4 sc.nd (d_callB (cd_repr ND hg (Nat.lt_of_succ_lt hu)) T.b_repr (da_cons (d_var 3) da_nil)))
  (ds_cons (ds_for (passes_of rfl) rfl (di_range1 T.b_range d_int) (dg_name 5 sc.nd) (ds_cons (ds_set 6 sc.nd (d_call c_L_some_point (hr.mono (by decide)) hg tk (da_cons (d_var 1) (da_cons (d_var 3) da_nil))))
  (ds_cons (ds_set 7 sc.nd (d_call c_L_pull (hr.mono (by decide)) hg tk (da_cons (d_var 1) (da_cons (d_call c_L_item (hr.mono (by decide)) hg tk (da_cons (d_var 1) (da_cons (d_lst (da_cons d_int (da_cons d_int (da_cons d_int da_nil)))) da_nil))) da_nil))))
  (ds_cons (ds_set 8 sc.nd (d_call c_L_entries (hr.mono (by decide)) hg tk (da_cons (d_var 3) (da_cons (d_var 6) (da_cons (d_var 7) da_nil)))))
  (ds_one (ds_for (passes_of rfl) rfl (di_range1 T.b_range d_int) (dg_name 9 sc.nd) (ds_cons (ds_set 10 sc.nd (d_call c_course (hr.mono (by decide)) hg tk (da_cons (d_var 3) (da_cons (d_var 6) (da_cons (d_var 7) da_nil)))))
  (ds_cons (ds_if (db_not (db_val (d_call c_L_twin (hr.mono (by decide)) hg tk (da_cons (d_var 10) (da_cons (d_var 8) da_nil))))) (ds_one (ds_ret d_bl)) ds_nil)
  (ds_one (ds_expr (d_met md_append PySem.F.plainAttrs_list PySem.F.slot_list_append PySem.F.type_list_append (d_var 10) (da_cons d_str da_nil))))))))))))
  (ds_one (ds_if (db_cmp (od_ne (Nat.lt_of_succ_lt hu)) (d_callB (cd_repr ND hg (Nat.lt_of_succ_lt hu)) T.b_repr (da_cons (d_var 3) da_nil)) (d_var 4)) (ds_one (ds_ret d_bl)) ds_nil))))))
  (ds_cons (ds_set 3 sc.nd (d_call c_L_item (hr.mono (by decide)) hg tk (da_cons (d_var 1) (da_cons (d_lst (da_cons (d_call c_L_wheel (hr.mono (by decide)) hg tk (da_cons (d_var 1) da_nil)) (da_cons (d_call c_L_strip (hr.mono (by decide)) hg tk (da_cons (d_var 1) da_nil)) da_nil))) da_nil))))
  (ds_cons (ds_par 6 7 rfl sc.nd (d_call c_L_some_point (hr.mono (by decide)) hg tk (da_cons (d_var 1) (da_cons (d_var 3) da_nil))) (d_op od_add d_int (d_call c_L_pull (hr.mono (by decide)) hg tk (da_cons (d_var 1) (da_cons d_int da_nil)))))
  (ds_one (ds_ret (d_call c_L_twin (hr.mono (by decide)) hg tk (da_cons (d_call c_course (hr.mono (by decide)) hg tk (da_cons (d_var 3) (da_cons (d_var 6) (da_cons (d_var 7) da_nil)))) (da_cons (d_call c_L_entries (hr.mono (by decide)) hg tk (da_cons (d_var 3) (da_cons (d_var 6) (da_cons (d_var 7) da_nil)))) da_nil)))))))))
end
end DL

namespace DL
open PySem PySem.Spec PyProof.Rows L2
theorem all_mk {l : PySem.W.OpenLaw} {w : World} {K : PySem.W.Frag} {h : Heap} {mg : Str → Option Value} {fa : Addr} (X : K.In h) (G : h.Ns mainGlobals mg) (hfa : mg "law" = some (.ref fa))
    (d_L_twin : DefK K "_law_twin" zs_L_twin)
    (d_L_low : DefK K "_law_low" zs_L_low)
    (d_L_sum : DefK K "_law_sum" zs_L_sum)
    (d_L_product : DefK K "_law_product" zs_L_product)
    (d_L_minus : DefK K "_law_minus" zs_L_minus)
    (d_L_value : DefK K "_law_value" zs_L_value)
    (d_L_next : DefK K "_law_next" zs_L_next)
    (d_L_all_faces : DefK K "_law_all_faces" zs_L_all_faces)
    (d_L_patch_drift : DefK K "_law_patch_drift" zs_L_patch_drift)
    (d_L_drift : DefK K "_law_drift" zs_L_drift)
    (d_L_signum : DefK K "_law_signum" zs_L_signum)
    (d_L_move : DefK K "_law_move" zs_L_move)
    (d_L_sides : DefK K "_law_sides" zs_L_sides)
    (d_L_entries : DefK K "_law_entries" zs_L_entries)
    (d_greatest_divisor : DefK K "greatest_divisor" zs_greatest_divisor)
    (d_fraction : DefK K "fraction" zs_fraction)
    (d_plus : DefK K "plus" zs_plus)
    (d_times : DefK K "times" zs_times)
    (d_moved : DefK K "moved" zs_moved)
    (d_sign : DefK K "sign" zs_sign)
    (d_is_less : DefK K "is_less" zs_is_less)
    (d_over : DefK K "over" zs_over)
    (d_opposite : DefK K "opposite" zs_opposite)
    (d_minus : DefK K "minus" zs_minus)
    (d_dot : DefK K "dot" zs_dot)
    (d_value_at : DefK K "value_at" zs_value_at)
    (d_time_to_cross : DefK K "time_to_cross" zs_time_to_cross)
    (d_with_side : DefK K "with_side" zs_with_side)
    (d_choices : DefK K "choices" zs_choices)
    (d_patch_drift : DefK K "patch_drift" zs_patch_drift)
    (d_edge_drift : DefK K "edge_drift" zs_edge_drift)
    (d_drift_of : DefK K "drift_of" zs_drift_of)
    (d_fits : DefK K "fits" zs_fits)
    (d_move_from : DefK K "move_from" zs_move_from)
    (d_sides : DefK K "sides" zs_sides)
    (d_move : DefK K "move" zs_move)
    (d_course : DefK K "course" zs_course)
    (d_L_blown : DefK K "_law_blown" zs_L_blown)
    (d_L_pull : DefK K "_law_pull" zs_L_pull)
    (d_L_item : DefK K "_law_item" zs_L_item)
    (d_L_small : DefK K "_law_small" zs_L_small)
    (d_L_some_point : DefK K "_law_some_point" zs_L_some_point)
    (d_L_strip : DefK K "_law_strip" zs_L_strip)
    (d_L_wheel : DefK K "_law_wheel" zs_L_wheel)
    (d_L_same_place : DefK K "_law_same_place" zs_L_same_place)
    (d_L_some_lines : DefK K "_law_some_lines" zs_L_some_lines)
    (d_L_some_plan : DefK K "_law_some_plan" zs_L_some_plan)
    (d_L_urn : DefK K "_law_urn" zs_L_urn)
    (d_law : DefK K "law" zs_law)
    (b_abs : PySem.W.nsIn K mainGlobals "abs" = some none)
    (b_all : PySem.W.nsIn K mainGlobals "all" = some none)
    (b_enumerate : PySem.W.nsIn K mainGlobals "enumerate" = some none)
    (b_int : PySem.W.nsIn K mainGlobals "int" = some none)
    (b_len : PySem.W.nsIn K mainGlobals "len" = some none)
    (b_list : PySem.W.nsIn K mainGlobals "list" = some none)
    (b_range : PySem.W.nsIn K mainGlobals "range" = some none)
    (b_repr : PySem.W.nsIn K mainGlobals "repr" = some none)
    (b_sorted : PySem.W.nsIn K mainGlobals "sorted" = some none)
    (b_tuple : PySem.W.nsIn K mainGlobals "tuple" = some none)
    (b_zip : PySem.W.nsIn K mainGlobals "zip" = some none)
    (x_ZeroDivisor : ExcK K "ZeroDivisor")
    (g_ONE : GlobK K "ONE" k_ONE)
    (g_STILL : GlobK K "STILL" k_STILL)
    (g_ZERO : GlobK K "ZERO" k_ZERO)
    : ∃ fd : FuncData, (∀ (s : Shared) (v : Value), BindsTo s fd ⟨[v], []⟩ [("_law_script", v)]) ∧ ∀ base : Heap, K.In base → base.Ns mainGlobals mg → base.NoDigits → FnD l.prog w K mg base 12 fa fd ["_law_script"] m_law := by
  have T : Top K mg := { b_abs := PySem.W.mg_none_of X G b_abs, b_all := PySem.W.mg_none_of X G b_all, b_enumerate := PySem.W.mg_none_of X G b_enumerate, b_int := PySem.W.mg_none_of X G b_int, b_len := PySem.W.mg_none_of X G b_len, b_list := PySem.W.mg_none_of X G b_list, b_range := PySem.W.mg_none_of X G b_range, b_repr := PySem.W.mg_none_of X G b_repr, b_sorted := PySem.W.mg_none_of X G b_sorted, b_tuple := PySem.W.mg_none_of X G b_tuple, b_zip := PySem.W.mg_none_of X G b_zip, x_ZeroDivisor := x_ZeroDivisor.exc X G, g_ONE := g_ONE.glob X G, g_STILL := g_STILL.glob X G, g_ZERO := g_ZERO.glob X G, triv := trivial }
  obtain ⟨f_L_twin, fd_L_twin, h_L_twin, F_L_twin, B_L_twin⟩ := d_L_twin.get X G
  obtain ⟨f_L_low, fd_L_low, h_L_low, F_L_low, B_L_low⟩ := d_L_low.get X G
  obtain ⟨f_L_sum, fd_L_sum, h_L_sum, F_L_sum, B_L_sum⟩ := d_L_sum.get X G
  obtain ⟨f_L_product, fd_L_product, h_L_product, F_L_product, B_L_product⟩ := d_L_product.get X G
  obtain ⟨f_L_minus, fd_L_minus, h_L_minus, F_L_minus, B_L_minus⟩ := d_L_minus.get X G
  obtain ⟨f_L_value, fd_L_value, h_L_value, F_L_value, B_L_value⟩ := d_L_value.get X G
  obtain ⟨f_L_next, fd_L_next, h_L_next, F_L_next, B_L_next⟩ := d_L_next.get X G
  obtain ⟨f_L_all_faces, fd_L_all_faces, h_L_all_faces, F_L_all_faces, B_L_all_faces⟩ := d_L_all_faces.get X G
  obtain ⟨f_L_patch_drift, fd_L_patch_drift, h_L_patch_drift, F_L_patch_drift, B_L_patch_drift⟩ := d_L_patch_drift.get X G
  obtain ⟨f_L_drift, fd_L_drift, h_L_drift, F_L_drift, B_L_drift⟩ := d_L_drift.get X G
  obtain ⟨f_L_signum, fd_L_signum, h_L_signum, F_L_signum, B_L_signum⟩ := d_L_signum.get X G
  obtain ⟨f_L_move, fd_L_move, h_L_move, F_L_move, B_L_move⟩ := d_L_move.get X G
  obtain ⟨f_L_sides, fd_L_sides, h_L_sides, F_L_sides, B_L_sides⟩ := d_L_sides.get X G
  obtain ⟨f_L_entries, fd_L_entries, h_L_entries, F_L_entries, B_L_entries⟩ := d_L_entries.get X G
  obtain ⟨f_greatest_divisor, fd_greatest_divisor, h_greatest_divisor, F_greatest_divisor, B_greatest_divisor⟩ := d_greatest_divisor.get X G
  obtain ⟨f_fraction, fd_fraction, h_fraction, F_fraction, B_fraction⟩ := d_fraction.get X G
  obtain ⟨f_plus, fd_plus, h_plus, F_plus, B_plus⟩ := d_plus.get X G
  obtain ⟨f_times, fd_times, h_times, F_times, B_times⟩ := d_times.get X G
  obtain ⟨f_moved, fd_moved, h_moved, F_moved, B_moved⟩ := d_moved.get X G
  obtain ⟨f_sign, fd_sign, h_sign, F_sign, B_sign⟩ := d_sign.get X G
  obtain ⟨f_is_less, fd_is_less, h_is_less, F_is_less, B_is_less⟩ := d_is_less.get X G
  obtain ⟨f_over, fd_over, h_over, F_over, B_over⟩ := d_over.get X G
  obtain ⟨f_opposite, fd_opposite, h_opposite, F_opposite, B_opposite⟩ := d_opposite.get X G
  obtain ⟨f_minus, fd_minus, h_minus, F_minus, B_minus⟩ := d_minus.get X G
  obtain ⟨f_dot, fd_dot, h_dot, F_dot, B_dot⟩ := d_dot.get X G
  obtain ⟨f_value_at, fd_value_at, h_value_at, F_value_at, B_value_at⟩ := d_value_at.get X G
  obtain ⟨f_time_to_cross, fd_time_to_cross, h_time_to_cross, F_time_to_cross, B_time_to_cross⟩ := d_time_to_cross.get X G
  obtain ⟨f_with_side, fd_with_side, h_with_side, F_with_side, B_with_side⟩ := d_with_side.get X G
  obtain ⟨f_choices, fd_choices, h_choices, F_choices, B_choices⟩ := d_choices.get X G
  obtain ⟨f_patch_drift, fd_patch_drift, h_patch_drift, F_patch_drift, B_patch_drift⟩ := d_patch_drift.get X G
  obtain ⟨f_edge_drift, fd_edge_drift, h_edge_drift, F_edge_drift, B_edge_drift⟩ := d_edge_drift.get X G
  obtain ⟨f_drift_of, fd_drift_of, h_drift_of, F_drift_of, B_drift_of⟩ := d_drift_of.get X G
  obtain ⟨f_fits, fd_fits, h_fits, F_fits, B_fits⟩ := d_fits.get X G
  obtain ⟨f_move_from, fd_move_from, h_move_from, F_move_from, B_move_from⟩ := d_move_from.get X G
  obtain ⟨f_sides, fd_sides, h_sides, F_sides, B_sides⟩ := d_sides.get X G
  obtain ⟨f_move, fd_move, h_move, F_move, B_move⟩ := d_move.get X G
  obtain ⟨f_course, fd_course, h_course, F_course, B_course⟩ := d_course.get X G
  obtain ⟨f_L_blown, fd_L_blown, h_L_blown, F_L_blown, B_L_blown⟩ := d_L_blown.get X G
  obtain ⟨f_L_pull, fd_L_pull, h_L_pull, F_L_pull, B_L_pull⟩ := d_L_pull.get X G
  obtain ⟨f_L_item, fd_L_item, h_L_item, F_L_item, B_L_item⟩ := d_L_item.get X G
  obtain ⟨f_L_small, fd_L_small, h_L_small, F_L_small, B_L_small⟩ := d_L_small.get X G
  obtain ⟨f_L_some_point, fd_L_some_point, h_L_some_point, F_L_some_point, B_L_some_point⟩ := d_L_some_point.get X G
  obtain ⟨f_L_strip, fd_L_strip, h_L_strip, F_L_strip, B_L_strip⟩ := d_L_strip.get X G
  obtain ⟨f_L_wheel, fd_L_wheel, h_L_wheel, F_L_wheel, B_L_wheel⟩ := d_L_wheel.get X G
  obtain ⟨f_L_same_place, fd_L_same_place, h_L_same_place, F_L_same_place, B_L_same_place⟩ := d_L_same_place.get X G
  obtain ⟨f_L_some_lines, fd_L_some_lines, h_L_some_lines, F_L_some_lines, B_L_some_lines⟩ := d_L_some_lines.get X G
  obtain ⟨f_L_some_plan, fd_L_some_plan, h_L_some_plan, F_L_some_plan, B_L_some_plan⟩ := d_L_some_plan.get X G
  obtain ⟨f_L_urn, fd_L_urn, h_L_urn, F_L_urn, B_L_urn⟩ := d_L_urn.get X G
  obtain ⟨f_law, fd_law, h_law, F_law, B_law⟩ := d_law.get X G
  have e := hfa.symm.trans h_law
  cases e
  refine ⟨fd_law, fun s v => ?_, fun base _ _ ND => ?_⟩
  · obtain ⟨_, _, _, _, _, _, rfl⟩ := B_law
    exact .of_eq rfl
  have c_L_twin := ok_L_twin (P := l.prog) (w := w) (base := base) F_L_twin h_L_twin T ND 
  have c_L_low := ok_L_low (P := l.prog) (w := w) (base := base) F_L_low h_L_low T ND 
  have c_L_sum := ok_L_sum (P := l.prog) (w := w) (base := base) F_L_sum h_L_sum T ND c_L_low
  have c_L_product := ok_L_product (P := l.prog) (w := w) (base := base) F_L_product h_L_product T ND c_L_low
  have c_L_minus := ok_L_minus (P := l.prog) (w := w) (base := base) F_L_minus h_L_minus T ND c_L_low
  have c_L_value := ok_L_value (P := l.prog) (w := w) (base := base) F_L_value h_L_value T ND c_L_sum c_L_product
  have c_L_next := ok_L_next (P := l.prog) (w := w) (base := base) F_L_next h_L_next T ND c_L_low c_L_minus c_L_value
  have c_L_all_faces := ok_L_all_faces (P := l.prog) (w := w) (base := base) F_L_all_faces h_L_all_faces T ND 
  have c_L_patch_drift := ok_L_patch_drift (P := l.prog) (w := w) (base := base) F_L_patch_drift h_L_patch_drift T ND 
  have c_L_drift := ok_L_drift (P := l.prog) (w := w) (base := base) F_L_drift h_L_drift T ND c_L_sum c_L_product c_L_low c_L_minus c_L_value c_L_patch_drift
  have c_L_signum := ok_L_signum (P := l.prog) (w := w) (base := base) F_L_signum h_L_signum T ND 
  have c_L_move := ok_L_move (P := l.prog) (w := w) (base := base) F_L_move h_L_move T ND c_L_all_faces c_L_drift c_L_signum c_L_value
  have c_L_sides := ok_L_sides (P := l.prog) (w := w) (base := base) F_L_sides h_L_sides T ND c_L_signum c_L_minus c_L_value
  have c_L_entries := ok_L_entries (P := l.prog) (w := w) (base := base) F_L_entries h_L_entries T ND c_L_sum c_L_product c_L_next c_L_move c_L_sides
  have c_greatest_divisor := ok_greatest_divisor (P := l.prog) (w := w) (base := base) F_greatest_divisor h_greatest_divisor T ND 
  have c_fraction := ok_fraction (P := l.prog) (w := w) (base := base) F_fraction h_fraction T ND c_greatest_divisor
  have c_plus := ok_plus (P := l.prog) (w := w) (base := base) F_plus h_plus T ND c_fraction
  have c_times := ok_times (P := l.prog) (w := w) (base := base) F_times h_times T ND c_fraction
  have c_moved := ok_moved (P := l.prog) (w := w) (base := base) F_moved h_moved T ND c_plus c_times
  have c_sign := ok_sign (P := l.prog) (w := w) (base := base) F_sign h_sign T ND 
  have c_is_less := ok_is_less (P := l.prog) (w := w) (base := base) F_is_less h_is_less T ND 
  have c_over := ok_over (P := l.prog) (w := w) (base := base) F_over h_over T ND c_fraction
  have c_opposite := ok_opposite (P := l.prog) (w := w) (base := base) F_opposite h_opposite T ND 
  have c_minus := ok_minus (P := l.prog) (w := w) (base := base) F_minus h_minus T ND c_fraction
  have c_dot := ok_dot (P := l.prog) (w := w) (base := base) F_dot h_dot T ND c_plus c_times
  have c_value_at := ok_value_at (P := l.prog) (w := w) (base := base) F_value_at h_value_at T ND c_minus c_dot
  have c_time_to_cross := ok_time_to_cross (P := l.prog) (w := w) (base := base) F_time_to_cross h_time_to_cross T ND c_sign c_is_less c_over c_opposite c_value_at c_dot
  have c_with_side := ok_with_side (P := l.prog) (w := w) (base := base) F_with_side h_with_side T ND 
  have c_choices := ok_choices (P := l.prog) (w := w) (base := base) F_choices h_choices T ND c_with_side
  have c_patch_drift := ok_patch_drift (P := l.prog) (w := w) (base := base) F_patch_drift h_patch_drift T ND 
  have c_edge_drift := ok_edge_drift (P := l.prog) (w := w) (base := base) F_edge_drift h_edge_drift T ND c_plus c_times c_minus c_over c_sign c_dot c_patch_drift c_with_side
  have c_drift_of := ok_drift_of (P := l.prog) (w := w) (base := base) F_drift_of h_drift_of T ND c_edge_drift c_patch_drift
  have c_fits := ok_fits (P := l.prog) (w := w) (base := base) F_fits h_fits T ND c_sign c_dot c_drift_of
  have c_move_from := ok_move_from (P := l.prog) (w := w) (base := base) F_move_from h_move_from T ND c_choices c_fits c_drift_of
  have c_sides := ok_sides (P := l.prog) (w := w) (base := base) F_sides h_sides T ND c_sign c_value_at
  have c_move := ok_move (P := l.prog) (w := w) (base := base) F_move h_move T ND c_move_from c_sides
  have c_course := ok_course (P := l.prog) (w := w) (base := base) F_course h_course T ND c_plus c_moved c_time_to_cross c_move
  have c_L_blown := ok_L_blown (P := l.prog) (w := w) (base := base) F_L_blown h_L_blown T ND 
  have c_L_pull := ok_L_pull (P := l.prog) (w := w) (base := base) F_L_pull h_L_pull T ND c_L_blown
  have c_L_item := ok_L_item (P := l.prog) (w := w) (base := base) F_L_item h_L_item T ND c_L_pull
  have c_L_small := ok_L_small (P := l.prog) (w := w) (base := base) F_L_small h_L_small T ND c_L_low c_L_item c_L_pull
  have c_L_some_point := ok_L_some_point (P := l.prog) (w := w) (base := base) F_L_some_point h_L_some_point T ND c_L_low c_L_minus c_L_product c_L_small c_L_item c_L_pull
  have c_L_strip := ok_L_strip (P := l.prog) (w := w) (base := base) F_L_strip h_L_strip T ND c_L_low c_L_pull c_L_small
  have c_L_wheel := ok_L_wheel (P := l.prog) (w := w) (base := base) F_L_wheel h_L_wheel T ND c_L_pull c_L_small c_L_low c_L_item c_L_sum c_L_product
  have c_L_same_place := ok_L_same_place (P := l.prog) (w := w) (base := base) F_L_same_place h_L_same_place T ND c_L_product
  have c_L_some_lines := ok_L_some_lines (P := l.prog) (w := w) (base := base) F_L_some_lines h_L_some_lines T ND c_L_item c_L_pull c_L_same_place c_L_product c_L_small
  have c_L_some_plan := ok_L_some_plan (P := l.prog) (w := w) (base := base) F_L_some_plan h_L_some_plan T ND c_L_small c_L_pull c_L_item c_L_some_lines
  have c_L_urn := ok_L_urn (P := l.prog) (w := w) (base := base) F_L_urn h_L_urn T ND 
  exact ok_law F_law h_law T ND c_L_twin c_L_entries c_course c_L_some_point c_L_pull c_L_item c_L_strip c_L_wheel c_L_some_plan c_L_urn
end DL
open PySem PySem.W PyProof.Rows in
set_option maxRecDepth 100000 in
set_option maxHeartbeats 0 in
theorem PySem.Challenge.cw_slopeland_k47_courses_holds : PySem.Challenge.rw_slopeland_k47_courses.Holds := by
  w_on; o_law; k_head; (case hw => w_witness2)
  k_fill
  refine DL.walk_D (l := PySem.Challenge.rw_slopeland_k47_courses) (k := 12) (x := "_law_script") (m := DL.m_law) rfl rfl ⟨rfl, by decide, by decide⟩ (fun w h Y => PySem.W.kIn_of Y) ?F DL.law_holds
  case F =>
    intro w mg fa h KX G hmg
    refine' DL.all_mk KX G hmg ?d_L_twin ?d_L_low ?d_L_sum ?d_L_product ?d_L_minus ?d_L_value ?d_L_next ?d_L_all_faces ?d_L_patch_drift ?d_L_drift ?d_L_signum ?d_L_move ?d_L_sides ?d_L_entries ?d_greatest_divisor ?d_fraction ?d_plus ?d_times ?d_moved ?d_sign ?d_is_less ?d_over ?d_opposite ?d_minus ?d_dot ?d_value_at ?d_time_to_cross ?d_with_side ?d_choices ?d_patch_drift ?d_edge_drift ?d_drift_of ?d_fits ?d_move_from ?d_sides ?d_move ?d_course ?d_L_blown ?d_L_pull ?d_L_item ?d_L_small ?d_L_some_point ?d_L_strip ?d_L_wheel ?d_L_same_place ?d_L_some_lines ?d_L_some_plan ?d_L_urn ?d_law ?b_abs ?b_all ?b_enumerate ?b_int ?b_len ?b_list ?b_range ?b_repr ?b_sorted ?b_tuple ?b_zip ?x_ZeroDivisor ?g_ONE ?g_STILL ?g_ZERO
    (case d_L_twin => exact DL.defK (by k_is) (by k_is) (by k_is) (by k_is) rfl)
    (case d_L_low => exact DL.defK (by k_is) (by k_is) (by k_is) (by k_is) rfl)
    (case d_L_sum => exact DL.defK (by k_is) (by k_is) (by k_is) (by k_is) rfl)
    (case d_L_product => exact DL.defK (by k_is) (by k_is) (by k_is) (by k_is) rfl)
    (case d_L_minus => exact DL.defK (by k_is) (by k_is) (by k_is) (by k_is) rfl)
    (case d_L_value => exact DL.defK (by k_is) (by k_is) (by k_is) (by k_is) rfl)
    (case d_L_next => exact DL.defK (by k_is) (by k_is) (by k_is) (by k_is) rfl)
    (case d_L_all_faces => exact DL.defK (by k_is) (by k_is) (by k_is) (by k_is) rfl)
    (case d_L_patch_drift => exact DL.defK (by k_is) (by k_is) (by k_is) (by k_is) rfl)
    (case d_L_drift => exact DL.defK (by k_is) (by k_is) (by k_is) (by k_is) rfl)
    (case d_L_signum => exact DL.defK (by k_is) (by k_is) (by k_is) (by k_is) rfl)
    (case d_L_move => exact DL.defK (by k_is) (by k_is) (by k_is) (by k_is) rfl)
    (case d_L_sides => exact DL.defK (by k_is) (by k_is) (by k_is) (by k_is) rfl)
    (case d_L_entries => exact DL.defK (by k_is) (by k_is) (by k_is) (by k_is) rfl)
    (case d_greatest_divisor => exact DL.defK (by k_is) (by k_is) (by k_is) (by k_is) rfl)
    (case d_fraction => exact DL.defK (by k_is) (by k_is) (by k_is) (by k_is) rfl)
    (case d_plus => exact DL.defK (by k_is) (by k_is) (by k_is) (by k_is) rfl)
    (case d_times => exact DL.defK (by k_is) (by k_is) (by k_is) (by k_is) rfl)
    (case d_moved => exact DL.defK (by k_is) (by k_is) (by k_is) (by k_is) rfl)
    (case d_sign => exact DL.defK (by k_is) (by k_is) (by k_is) (by k_is) rfl)
    (case d_is_less => exact DL.defK (by k_is) (by k_is) (by k_is) (by k_is) rfl)
    (case d_over => exact DL.defK (by k_is) (by k_is) (by k_is) (by k_is) rfl)
    (case d_opposite => exact DL.defK (by k_is) (by k_is) (by k_is) (by k_is) rfl)
    (case d_minus => exact DL.defK (by k_is) (by k_is) (by k_is) (by k_is) rfl)
    (case d_dot => exact DL.defK (by k_is) (by k_is) (by k_is) (by k_is) rfl)
    (case d_value_at => exact DL.defK (by k_is) (by k_is) (by k_is) (by k_is) rfl)
    (case d_time_to_cross => exact DL.defK (by k_is) (by k_is) (by k_is) (by k_is) rfl)
    (case d_with_side => exact DL.defK (by k_is) (by k_is) (by k_is) (by k_is) rfl)
    (case d_choices => exact DL.defK (by k_is) (by k_is) (by k_is) (by k_is) rfl)
    (case d_patch_drift => exact DL.defK (by k_is) (by k_is) (by k_is) (by k_is) rfl)
    (case d_edge_drift => exact DL.defK (by k_is) (by k_is) (by k_is) (by k_is) rfl)
    (case d_drift_of => exact DL.defK (by k_is) (by k_is) (by k_is) (by k_is) rfl)
    (case d_fits => exact DL.defK (by k_is) (by k_is) (by k_is) (by k_is) rfl)
    (case d_move_from => exact DL.defK (by k_is) (by k_is) (by k_is) (by k_is) rfl)
    (case d_sides => exact DL.defK (by k_is) (by k_is) (by k_is) (by k_is) rfl)
    (case d_move => exact DL.defK (by k_is) (by k_is) (by k_is) (by k_is) rfl)
    (case d_course => exact DL.defK (by k_is) (by k_is) (by k_is) (by k_is) rfl)
    (case d_L_blown => exact DL.defK (by k_is) (by k_is) (by k_is) (by k_is) rfl)
    (case d_L_pull => exact DL.defK (by k_is) (by k_is) (by k_is) (by k_is) rfl)
    (case d_L_item => exact DL.defK (by k_is) (by k_is) (by k_is) (by k_is) rfl)
    (case d_L_small => exact DL.defK (by k_is) (by k_is) (by k_is) (by k_is) rfl)
    (case d_L_some_point => exact DL.defK (by k_is) (by k_is) (by k_is) (by k_is) rfl)
    (case d_L_strip => exact DL.defK (by k_is) (by k_is) (by k_is) (by k_is) rfl)
    (case d_L_wheel => exact DL.defK (by k_is) (by k_is) (by k_is) (by k_is) rfl)
    (case d_L_same_place => exact DL.defK (by k_is) (by k_is) (by k_is) (by k_is) rfl)
    (case d_L_some_lines => exact DL.defK (by k_is) (by k_is) (by k_is) (by k_is) rfl)
    (case d_L_some_plan => exact DL.defK (by k_is) (by k_is) (by k_is) (by k_is) rfl)
    (case d_L_urn => exact DL.defK (by k_is) (by k_is) (by k_is) (by k_is) rfl)
    (case d_law => exact DL.defK (by k_is) (by k_is) (by k_is) (by k_is) rfl)
    (case b_abs => k_is)
    (case b_all => k_is)
    (case b_enumerate => k_is)
    (case b_int => k_is)
    (case b_len => k_is)
    (case b_list => k_is)
    (case b_range => k_is)
    (case b_repr => k_is)
    (case b_sorted => k_is)
    (case b_tuple => k_is)
    (case b_zip => k_is)
    (case x_ZeroDivisor => exact DL.excK (by k_is) (by k_exc) (by k_is) (by k_is) (by k_is))
    (case g_ONE => exact DL.globK (by k_is) (DL.globV_tup (by k_is) (DL.GlobVs.cons (DL.globV_int) (DL.GlobVs.cons (DL.globV_int) DL.GlobVs.nil)) (by decide)))
    (case g_STILL => exact DL.globK (by k_is) (DL.globV_tup (by k_is) (DL.GlobVs.cons (DL.globV_tup (by k_is) (DL.GlobVs.cons (DL.globV_int) (DL.GlobVs.cons (DL.globV_int) DL.GlobVs.nil)) (by decide)) (DL.GlobVs.cons (DL.globV_tup (by k_is) (DL.GlobVs.cons (DL.globV_int) (DL.GlobVs.cons (DL.globV_int) DL.GlobVs.nil)) (by decide)) DL.GlobVs.nil)) (by decide)))
    (case g_ZERO => exact DL.globK (by k_is) (DL.globV_tup (by k_is) (DL.GlobVs.cons (DL.globV_int) (DL.GlobVs.cons (DL.globV_int) DL.GlobVs.nil)) (by decide)))

