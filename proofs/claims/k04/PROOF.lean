import PyProof.Rows.All
import Wide.All
import OpenK.AllK
import Wide.FinOn
import HandS.ForMost
import HandS.ForExc
import HandS.Wide
import HandS.TupAny
import HandS.Style
import HandS.Deep
import HandS.IsInst
import HandS.Walk
import HandS.Zip
import HandS.EndBits
import KE.DataFind
import HandS.Strs
import HandS.ExcValue
import KE.KExcIs
import HandS.ExcField
import HandS.ExcIs
import HandS.DictComp
import HandS.NamedTupSort
import KE.GoesMore
import KE.GoesEnum
import KE.GoesZip
import HandS.ExcInit
import HandS.FStr
import PySem.Challenge.RW_slopeland_k04_errors
set_option Elab.async false
set_option linter.all false
set_option maxRecDepth 100000
set_option maxHeartbeats 4000000
/-! The data layer, 1: data, stores, what stands for what. -/
namespace DL
open PySem PySem.Spec PyProof.Rows L2

/-- plain data; wt: a pair that an iterator made; ref: a place of the store; exc: an exception object as a value -/
inductive D where
  | non
  | bl (b : Bool)
  | int (i : Int)
  | str (x : Str)
  | tup (l : List D)
  | wt (l : List D)
  | lst (l : List D)
  | obj (c : Str) (ns : List Str) (ds : List D)
  | exc (c : Str) (ns : List Str) (ds : List D)
  | ref (n : Nat)
/-- what a place of the store holds -/
inductive Ob where
  | lst (l : List D)
  | ins (c : Str) (ns : List Str) (ds : List D)
  | dct (ks : List Key) (ds : List D)
  | dead
abbrev Store := List Ob
inductive R (α : Type) where
  | ok (a : α) (S : Store)
  | exn (e : D) (S : Store)
  | stuck
abbrev M (α : Type) := Store → R α
def R.bind {α β : Type} : R α → (α → M β) → R β
  | .ok a S, f => f a S
  | .exn e S, _ => .exn e S
  | .stuck, _ => .stuck
@[simp] theorem R.bind_ok {α β : Type} (a : α) (S : Store) (f : α → M β) : (R.ok a S).bind f = f a S := rfl
@[simp] theorem R.bind_exn {α β : Type} (e : D) (S : Store) (f : α → M β) : (R.exn e S : R α).bind f = .exn e S := rfl
@[simp] theorem R.bind_stuck {α β : Type} (f : α → M β) : (R.stuck : R α).bind f = .stuck := rfl
abbrev Env := List (Option D)

/-- the module: its written part, its names -/
structure G where
  K : PySem.W.Frag
  mg : Str → Option Value
/-- an exception object at a, of the class at C, with the dict dd -/
def XO (C : Addr) (dd : Option Addr) (a : Addr) : HO := .ext fun h => ∃ oe vs, h.get? a = some oe ∧ Zc (.ref C) dd oe ∧ oe.data = .fields vs
/-- the dict of an exception: its fields -/
def XD (F : Hp) (dd : Option Addr) (ns : List Str) (xs : List V) : Prop := (dd = none ∧ ns = [] ∧ xs = []) ∨ ∃ dx, dd = some dx ∧ F dx = some (.xd (ns.zip xs))

/-- the tuple at a has no attributes of its own -/
def DN (g : G) (F : Hp) (a : Addr) : Prop := ∃ o : Obj, o.dict = none ∧ ((∃ u, F a = some (.frz o u)) ∨ g.K.lookup a = some o)
section
variable (g : G) (F : Hp) (μ : List Addr)
mutual
def Rep : D → V → Prop
  | .non, v => v = .non
  | .bl b, v => v = .bl b
  | .int i, v => v = .int i
  | .str x, v => v = .str x
  | .tup l, v => ∃ a xs, v = .ref a ∧ (SqT g.K F a xs ∧ DN g F a) ∧ Reps l xs
  | .wt l, v => ∃ a xs, v = .ref a ∧ SqT g.K F a xs ∧ Reps l xs
  | .lst l, v => ∃ a xs, v = .ref a ∧ SqL g.K F a xs ∧ Reps l xs
  | .obj c ns ds, v => ∃ a C dx xs, v = .ref a ∧ g.mg c = some (.ref C) ∧ F a = some (.ins C dx (ns.zip xs)) ∧ Reps ds xs ∧ ns.length = ds.length
  | .exc c ns ds, v => ∃ a C dd xs, v = .ref a ∧ g.mg c = some (.ref C) ∧ F a = some (XO C dd a) ∧ XD F dd ns xs ∧ Reps ds xs ∧ ns.length = ds.length
  | .ref n, v => ∃ p, μ[n]? = some p ∧ v = .ref p
def Reps : List D → List V → Prop
  | [], xs => xs = []
  | d :: ds, xs => ∃ v vs, xs = v :: vs ∧ Rep d v ∧ Reps ds vs
end
def ObRep : Ob → HO → Prop
  | .lst l, o => ∃ xs, o = .lst xs ∧ Reps g F μ l xs
  | .ins c ns ds, o => ∃ C dx xs, g.mg c = some (.ref C) ∧ o = .ins C dx (ns.zip xs) ∧ Reps g F μ ds xs ∧ ns.length = ds.length
  | .dct ks ds, o => ∃ xs, o = .dK (ks.zip xs) ∧ Reps g F μ ds xs ∧ ks.length = ds.length
  | .dead, _ => True
end
/-- an exception in flight -/
def XRep (g : G) (F : Hp) (μ : List Addr) (e : D) (cls : Value) (dd : Option Addr) : Prop :=
  ∃ c ns ds C xs, e = .exc c ns ds ∧ g.mg c = some (.ref C) ∧ cls = .ref C ∧ XD F dd ns xs ∧ Reps g F μ ds xs ∧ ns.length = ds.length

/-- what grows: the frozen part, the places -/
structure Gr (F : Hp) (μ : List Addr) (F' : Hp) (μ' : List Addr) : Prop where
  f : ∀ a o, F a = some o → F' a = some o
  m : ∀ (n : Nat) (p : Addr), μ[n]? = some p → μ'[n]? = some p
theorem Gr.refl (F : Hp) (μ : List Addr) : Gr F μ F μ := ⟨fun _ _ h => h, fun _ _ h => h⟩
theorem Gr.trans {F F1 F2 : Hp} {μ μ1 μ2 : List Addr} (a : Gr F μ F1 μ1) (b : Gr F1 μ1 F2 μ2) : Gr F μ F2 μ2 := ⟨fun x o h => b.f x o (a.f x o h), fun n p h => b.m n p (a.m n p h)⟩

section
variable {g : G} {F F' : Hp} {μ μ' : List Addr}
theorem rd_mono (gr : Gr F μ F' μ') {a : Addr} {u : HO} (h : Rd F a u) : Rd F' a u := by
  rcases h with h | ⟨o, h⟩
  · exact .inl (gr.f _ _ h)
  · exact .inr ⟨o, gr.f _ _ h⟩
theorem sqL_mono (gr : Gr F μ F' μ') {a : Addr} {xs : List V} (h : SqL g.K F a xs) : SqL g.K F' a xs := h.imp (rd_mono gr) id
theorem sqT_mono (gr : Gr F μ F' μ') {a : Addr} {xs : List V} (h : SqT g.K F a xs) : SqT g.K F' a xs := h.imp (rd_mono gr) id
theorem dn_mono (gr : Gr F μ F' μ') {a : Addr} (h : DN g F a) : DN g F' a := by
  obtain ⟨o, h1, h2⟩ := h
  rcases h2 with ⟨u, h2⟩ | h2
  · exact ⟨o, h1, .inl ⟨u, gr.f _ _ h2⟩⟩
  · exact ⟨o, h1, .inr h2⟩
theorem xd_mono (gr : Gr F μ F' μ') {dd : Option Addr} {ns : List Str} {xs : List V} (h : XD F dd ns xs) : XD F' dd ns xs := by
  rcases h with h | ⟨dx, e, h⟩
  · exact .inl h
  · exact .inr ⟨dx, e, gr.f _ _ h⟩
mutual
theorem Rep.mono (gr : Gr F μ F' μ') : ∀ (d : D) {v : V}, Rep g F μ d v → Rep g F' μ' d v
  | .non, _, h => h
  | .bl _, _, h => h
  | .int _, _, h => h
  | .str _, _, h => h
  | .tup l, _, h => by
    simp only [Rep] at h ⊢
    obtain ⟨a, xs, e, h1, h2⟩ := h
    exact ⟨a, xs, e, ⟨sqT_mono gr h1.1, dn_mono gr h1.2⟩, Reps.mono gr l h2⟩
  | .wt l, _, h => by
    simp only [Rep] at h ⊢
    obtain ⟨a, xs, e, h1, h2⟩ := h
    exact ⟨a, xs, e, sqT_mono gr h1, Reps.mono gr l h2⟩
  | .lst l, _, h => by
    simp only [Rep] at h ⊢
    obtain ⟨a, xs, e, h1, h2⟩ := h
    exact ⟨a, xs, e, sqL_mono gr h1, Reps.mono gr l h2⟩
  | .obj c ns ds, _, h => by
    simp only [Rep] at h ⊢
    obtain ⟨a, C, dx, xs, e, h0, h1, h2, h3⟩ := h
    exact ⟨a, C, dx, xs, e, h0, gr.f _ _ h1, Reps.mono gr ds h2, h3⟩
  | .exc c ns ds, _, h => by
    simp only [Rep] at h ⊢
    obtain ⟨a, C, dd, xs, e, h0, h1, h2, h3, h4⟩ := h
    exact ⟨a, C, dd, xs, e, h0, gr.f _ _ h1, xd_mono gr h2, Reps.mono gr ds h3, h4⟩
  | .ref n, _, h => by
    simp only [Rep] at h ⊢
    obtain ⟨p, h1, h2⟩ := h
    exact ⟨p, gr.m _ _ h1, h2⟩
theorem Reps.mono (gr : Gr F μ F' μ') : ∀ (ds : List D) {vs : List V}, Reps g F μ ds vs → Reps g F' μ' ds vs
  | [], _, h => by simpa only [Reps] using h
  | d :: ds, _, h => by
    simp only [Reps] at h ⊢
    obtain ⟨v, vs, e, h1, h2⟩ := h
    exact ⟨v, vs, e, Rep.mono gr d h1, Reps.mono gr ds h2⟩
end
theorem ObRep.mono (gr : Gr F μ F' μ') : ∀ {o : Ob} {u : HO}, ObRep g F μ o u → ObRep g F' μ' o u
  | .lst l, _, ⟨xs, e, h⟩ => ⟨xs, e, h.mono gr⟩
  | .ins c ns ds, _, ⟨C, dx, xs, e0, e, h, hl⟩ => ⟨C, dx, xs, e0, e, h.mono gr, hl⟩
  | .dct ks ds, _, ⟨xs, e, h, hl⟩ => ⟨xs, e, h.mono gr, hl⟩
  | .dead, _, _ => trivial
theorem XRep.mono (gr : Gr F μ F' μ') {e : D} {cls : Value} {dd : Option Addr} (h : XRep g F μ e cls dd) : XRep g F' μ' e cls dd := by
  obtain ⟨c, ns, ds, C, xs, h1, h2, h3, h4, h5, h6⟩ := h
  exact ⟨c, ns, ds, C, xs, h1, h2, h3, xd_mono gr h4, h5.mono gr, h6⟩
theorem Reps.length : ∀ {ds : List D} {vs : List V}, Reps g F μ ds vs → ds.length = vs.length
  | [], _, h => by simp only [Reps] at h; subst h; rfl
  | d :: ds, _, h => by
    simp only [Reps] at h
    obtain ⟨v, vs, rfl, _, h⟩ := h
    simp [Reps.length h]
theorem reps_nil : Reps g F μ [] [] := by simp only [Reps]
theorem reps_cons {d : D} {ds : List D} {v : V} {vs : List V} (h : Rep g F μ d v) (t : Reps g F μ ds vs) : Reps g F μ (d :: ds) (v :: vs) := by
  simp only [Reps]; exact ⟨v, vs, rfl, h, t⟩
theorem Reps.get : ∀ {ds : List D} {vs : List V} {i : Nat} {d : D}, Reps g F μ ds vs → ds[i]? = some d → ∃ v, vs[i]? = some v ∧ Rep g F μ d v
  | [], _, _, _, _, e => by simp at e
  | x :: ds, _, i, d, h, e => by
    simp only [Reps] at h
    obtain ⟨v, vs, rfl, h1, h2⟩ := h
    cases i with
    | zero => simp at e; subst e; exact ⟨v, rfl, h1⟩
    | succ i => exact Reps.get (i := i) h2 (by simpa using e)
theorem Reps.getV : ∀ {ds : List D} {vs : List V} {i : Nat} {v : V}, Reps g F μ ds vs → vs[i]? = some v → ∃ d, ds[i]? = some d ∧ Rep g F μ d v
  | [], _, _, _, h, e => by simp only [Reps] at h; subst h; simp at e
  | x :: ds, _, i, d, h, e => by
    simp only [Reps] at h
    obtain ⟨v, vs, rfl, h1, h2⟩ := h
    cases i with
    | zero => simp at e; subst e; exact ⟨x, rfl, h1⟩
    | succ i => exact Reps.getV (i := i) h2 (by simpa using e)
theorem Reps.append : ∀ {ds es : List D} {vs ws : List V}, Reps g F μ ds vs → Reps g F μ es ws → Reps g F μ (ds ++ es) (vs ++ ws)
  | [], _, _, _, h, k => by simp only [Reps] at h; subst h; exact k
  | d :: ds, _, _, _, h, k => by
    simp only [Reps] at h
    obtain ⟨v, vs, rfl, h1, h2⟩ := h
    exact reps_cons h1 (Reps.append h2 k)
theorem Reps.take : ∀ {ds : List D} {vs : List V} (n : Nat), Reps g F μ ds vs → Reps g F μ (ds.take n) (vs.take n)
  | ds, vs, 0, _ => by simpa using reps_nil
  | [], _, n + 1, h => by simp only [Reps] at h; subst h; exact reps_nil
  | d :: ds, _, n + 1, h => by
    simp only [Reps] at h
    obtain ⟨v, vs, rfl, h1, h2⟩ := h
    exact reps_cons h1 (Reps.take n h2)
theorem Reps.drop : ∀ {ds : List D} {vs : List V} (n : Nat), Reps g F μ ds vs → Reps g F μ (ds.drop n) (vs.drop n)
  | ds, vs, 0, h => by simpa using h
  | [], _, n + 1, h => by simp only [Reps] at h; subst h; exact reps_nil
  | d :: ds, _, n + 1, h => by
    simp only [Reps] at h
    obtain ⟨v, vs, rfl, h1, h2⟩ := h
    exact Reps.drop n h2
theorem Reps.set : ∀ {ds : List D} {vs : List V} (i : Nat) {d : D} {v : V}, Reps g F μ ds vs → Rep g F μ d v → Reps g F μ (ds.set i d) (vs.set i v)
  | [], _, _, _, _, h, _ => by simp only [Reps] at h; subst h; simpa using reps_nil
  | x :: ds, _, i, d, v, h, k => by
    simp only [Reps] at h
    obtain ⟨w, vs, rfl, h1, h2⟩ := h
    cases i with
    | zero => exact reps_cons k h2
    | succ i => exact reps_cons h1 (Reps.set i h2 k)
theorem Reps.reverse : ∀ {ds : List D} {vs : List V}, Reps g F μ ds vs → Reps g F μ ds.reverse vs.reverse
  | [], _, h => by simp only [Reps] at h; subst h; exact reps_nil
  | d :: ds, _, h => by
    simp only [Reps] at h
    obtain ⟨v, vs, rfl, h1, h2⟩ := h
    rw [List.reverse_cons, List.reverse_cons]
    exact (Reps.reverse h2).append (reps_cons h1 reps_nil)
theorem reps_ints : ∀ (ns : List Int), Reps g F μ (ns.map D.int) (ns.map V.int)
  | [] => reps_nil
  | n :: ns => reps_cons (by simp only [Rep]) (reps_ints ns)
end

/-- the abstract heap H holds what the store says, beside the frozen part F; P: what others hold for themselves -/
structure Rel (g : G) (P : Hp) (F : Hp) (μ : List Addr) (S : Store) (H : Hp) : Prop where
  sub : ∀ a o, F a = some o → H a = some o
  len : μ.length = S.length
  live : ∀ (n : Nat) (o : Ob) (p : Addr), S[n]? = some o → μ[n]? = some p → (o = .dead ∧ H p ≠ none) ∨ ∃ u, F p = none ∧ H p = some u ∧ ObRep g F μ o u
  inj : ∀ (m n : Nat) (p : Addr), μ[m]? = some p → μ[n]? = some p → m = n
  priv : ∀ (a : Addr) (o : HO), P a = some o → H a = some o ∧ F a = none ∧ ∀ n : Nat, μ[n]? ≠ some a

/-- slots: what the data say of them -/
structure EnvR (g : G) (F : Hp) (μ : List Addr) (ρ : Env) (σ : L2.St) : Prop where
  len : ρ.length = σ.length
  at_ : ∀ (i : Nat) (d : D), ρ[i]? = some (some d) → ∃ v, σ[i]? = some (some v) ∧ Rep g F μ d v
section
variable {g : G} {P F F' : Hp} {μ μ' : List Addr} {ρ : Env} {σ : L2.St} {S : Store} {H : Hp}
theorem EnvR.mono (gr : Gr F μ F' μ') (h : EnvR g F μ ρ σ) : EnvR g F' μ' ρ σ := ⟨h.len, fun i d e => by
  obtain ⟨v, h1, h2⟩ := h.at_ i d e
  exact ⟨v, h1, h2.mono gr⟩⟩
theorem EnvR.set {i : Nat} {d : D} {v : V} (h : EnvR g F μ ρ σ) (r : Rep g F μ d v) : EnvR g F μ (ρ.set i (some d)) (σ.set i (some v)) := ⟨by simp [h.len], fun j e hj => by
  by_cases hij : i = j
  · subst hij
    have hlt : i < ρ.length := by
      rcases Nat.lt_or_ge i ρ.length with q | q
      · exact q
      · rw [List.getElem?_eq_none (by simpa using q)] at hj; cases hj
    rw [List.getElem?_set_self hlt] at hj
    cases hj
    exact ⟨v, List.getElem?_set_self (by rw [← h.len]; exact hlt), r⟩
  · rw [List.getElem?_set_ne hij] at hj
    obtain ⟨w, h1, h2⟩ := h.at_ j e hj
    exact ⟨w, by rw [List.getElem?_set_ne hij]; exact h1, h2⟩⟩
/-- a new frozen thing -/
theorem Rel.froz {p : Addr} {o : HO} (r : Rel g P F μ S H) (hp : H p = none) : Rel g P (upd F p o) μ S (upd H p o) ∧ Gr F μ (upd F p o) μ := by
  have hF : F p = none := by
    cases e : F p with
    | none => rfl
    | some u => rw [r.sub p u e] at hp; cases hp
  have gr : Gr F μ (upd F p o) μ := ⟨fun a u e => by rw [upd_ne (ne_of_none e hF)]; exact e, fun _ _ h => h⟩
  refine ⟨⟨fun a u e => ?_, r.len, fun n ob q h1 h2 => ?_, r.inj, fun a u e => ?_⟩, gr⟩
  · by_cases ha : a = p
    · subst ha; rw [upd_same] at e ⊢; exact e
    · rw [upd_ne ha] at e ⊢; exact r.sub a u e
  · rcases r.live n ob q h1 h2 with ⟨e, h⟩ | ⟨u, f1, h1', k⟩
    · exact .inl ⟨e, by rw [upd_ne (fun z => h (by rw [z]; exact hp))]; exact h⟩
    · have ne : q ≠ p := fun z => by rw [z, hp] at h1'; cases h1'
      exact .inr ⟨u, by rw [upd_ne ne]; exact f1, by rw [upd_ne ne]; exact h1', k.mono gr⟩
  · obtain ⟨e1, e2, e3⟩ := r.priv a u e
    have ne := ne_of_none e1 hp
    exact ⟨by rw [upd_ne ne]; exact e1, by rw [upd_ne ne]; exact e2, e3⟩
/-- a new thing that H alone knows -/
theorem Rel.more {p : Addr} {o : HO} (r : Rel g P F μ S H) (hp : H p = none) : Rel g P F μ S (upd H p o) := by
  refine ⟨fun a u e => ?_, r.len, fun n ob q h1 h2 => ?_, r.inj, fun a u e => ?_⟩
  · rw [upd_ne (ne_of_none (r.sub a u e) hp)]; exact r.sub a u e
  · rcases r.live n ob q h1 h2 with ⟨e, h⟩ | ⟨u, f1, h1', k⟩
    · exact .inl ⟨e, by rw [upd_ne (fun z => h (by rw [z]; exact hp))]; exact h⟩
    · exact .inr ⟨u, f1, by rw [upd_ne (fun z => by rw [z, hp] at h1'; cases h1')]; exact h1', k⟩
  · obtain ⟨e1, e2, e3⟩ := r.priv a u e
    exact ⟨by rw [upd_ne (ne_of_none e1 hp)]; exact e1, e2, e3⟩
/-- .. and hides -/
theorem Rel.hide {p : Addr} {o : HO} (r : Rel g P F μ S H) (hp : H p = none) : Rel g (upd P p o) F μ S (upd H p o) := by
  have q := r.more (o := o) hp
  have hF : F p = none := by
    cases e : F p with
    | none => rfl
    | some u => rw [r.sub p u e] at hp; cases hp
  refine ⟨q.sub, q.len, q.live, q.inj, fun a u e => ?_⟩
  by_cases ha : a = p
  · subst ha
    rw [upd_same] at e; cases e
    refine ⟨upd_same, hF, fun n z => ?_⟩
    have hn : n < S.length := by rw [← r.len]; exact (List.getElem?_eq_some_iff.mp z).1
    rcases r.live n _ a (List.getElem?_eq_getElem hn) z with ⟨_, k⟩ | ⟨w, _, k, _⟩
    · exact k hp
    · rw [hp] at k; cases k
  · rw [upd_ne ha] at e
    exact q.priv a u e
/-- a hidden thing is written -/
theorem Rel.hidden {p : Addr} {o o' : HO} (r : Rel g P F μ S H) (hp : P p = some o) : Rel g (upd P p o') F μ S (upd H p o') := by
  obtain ⟨h1, h2, h3⟩ := r.priv p o hp
  refine ⟨fun a u e => ?_, r.len, fun n ob q k1 k2 => ?_, r.inj, fun a u e => ?_⟩
  · rw [upd_ne (ne_of_none e h2)]; exact r.sub a u e
  · have ne : q ≠ p := fun z => h3 n (by rw [k2, z])
    rw [upd_ne ne]; exact r.live n ob q k1 k2
  · by_cases ha : a = p
    · subst ha
      rw [upd_same] at e ⊢; cases e
      exact ⟨rfl, h2, h3⟩
    · rw [upd_ne ha] at e ⊢
      exact r.priv a u e
/-- less is hidden -/
theorem Rel.less {P' : Hp} (r : Rel g P F μ S H) (h : ∀ a o, P' a = some o → P a = some o) : Rel g P' F μ S H := ⟨r.sub, r.len, r.live, r.inj, fun a o e => r.priv a o (h a o e)⟩
/-- a hidden thing becomes frozen -/
theorem Rel.unhide {p : Addr} {o : HO} {P' : Hp} (r : Rel g P F μ S H) (hp : P p = some o) (h : ∀ a o, P' a = some o → P a = some o) (hn : P' p = none) : Rel g P' (upd F p o) μ S H ∧ Gr F μ (upd F p o) μ := by
  obtain ⟨h1, h2, h3⟩ := r.priv p o hp
  have gr : Gr F μ (upd F p o) μ := ⟨fun a u e => by rw [upd_ne (ne_of_none e h2)]; exact e, fun _ _ h => h⟩
  refine ⟨⟨fun a u e => ?_, r.len, fun n ob q k1 k2 => ?_, r.inj, fun a u e => ?_⟩, gr⟩
  · by_cases ha : a = p
    · subst ha; rw [upd_same] at e; cases e; exact h1
    · rw [upd_ne ha] at e; exact r.sub a u e
  · have ne : q ≠ p := fun z => h3 n (by rw [k2, z])
    rcases r.live n ob q k1 k2 with e | ⟨u, f1, h1', k⟩
    · exact .inl e
    · exact .inr ⟨u, by rw [upd_ne ne]; exact f1, h1', k.mono gr⟩
  · obtain ⟨e1, e2, e3⟩ := r.priv a u (h a u e)
    exact ⟨e1, by rw [upd_ne (ne_of_none e hn)]; exact e2, e3⟩
/-- a new place of the store -/
theorem Rel.push {p : Addr} {u : HO} {o : Ob} (r : Rel g P F μ S H) (hp : H p = none) (ho : ObRep g F (μ ++ [p]) o u) : Rel g P F (μ ++ [p]) (S ++ [o]) (upd H p u) ∧ Gr F μ F (μ ++ [p]) ∧ (μ ++ [p])[S.length]? = some p := by
  have hF : F p = none := by
    cases e : F p with
    | none => rfl
    | some u => rw [r.sub p u e] at hp; cases hp
  have gr : Gr F μ F (μ ++ [p]) := ⟨fun _ _ h => h, fun n q h => by
    have : n < μ.length := (List.getElem?_eq_some_iff.mp h).1
    rw [List.getElem?_append_left this]; exact h⟩
  have there : ∀ n q, μ[n]? = some q → q ≠ p := fun n q h z => by
    have hn : n < S.length := by rw [← r.len]; exact (List.getElem?_eq_some_iff.mp h).1
    rcases r.live n _ q (List.getElem?_eq_getElem hn) h with ⟨_, k⟩ | ⟨w, _, k, _⟩
    · exact k (by rw [z]; exact hp)
    · rw [z, hp] at k; cases k
  have last : (μ ++ [p])[S.length]? = some p := by rw [← r.len]; simp
  refine ⟨⟨fun a w e => ?_, by simp [r.len], fun n ob q h1 h2 => ?_, fun m n q h1 h2 => ?_, fun a w e => ?_⟩, gr, last⟩
  · rw [upd_ne (ne_of_none e hF)]; exact r.sub a w e
  · by_cases hn : n < S.length
    · rw [List.getElem?_append_left hn] at h1
      rw [List.getElem?_append_left (by rw [r.len]; exact hn)] at h2
      have ne := there n q h2
      rcases r.live n ob q h1 h2 with ⟨e, h⟩ | ⟨w, f1, h1', k⟩
      · exact .inl ⟨e, by rw [upd_ne ne]; exact h⟩
      · exact .inr ⟨w, f1, by rw [upd_ne ne]; exact h1', k.mono gr⟩
    · have e1 : n = S.length := by
        have := (List.getElem?_eq_some_iff.mp h1).1
        simp at this; omega
      subst e1
      rw [last] at h2; cases h2
      simp at h1; subst h1
      exact .inr ⟨u, hF, upd_same, ho⟩
  · by_cases hm : m < μ.length
    · by_cases hn : n < μ.length
      · rw [List.getElem?_append_left hm] at h1
        rw [List.getElem?_append_left hn] at h2
        exact r.inj m n q h1 h2
      · rw [List.getElem?_append_left hm] at h1
        have := (List.getElem?_eq_some_iff.mp h2).1
        have e2 : n = μ.length := by simp at this; omega
        subst e2; simp at h2; subst h2
        exact absurd rfl (there m _ h1)
    · have := (List.getElem?_eq_some_iff.mp h1).1
      have e1 : m = μ.length := by simp at this; omega
      subst e1; simp at h1; subst h1
      by_cases hn : n < μ.length
      · rw [List.getElem?_append_left hn] at h2
        exact absurd rfl (there n _ h2)
      · have := (List.getElem?_eq_some_iff.mp h2).1
        simp at this; omega
  · obtain ⟨e1, e2, e3⟩ := r.priv a w e
    have ne := ne_of_none e1 hp
    refine ⟨by rw [upd_ne ne]; exact e1, e2, fun n z => ?_⟩
    by_cases hn : n < μ.length
    · rw [List.getElem?_append_left hn] at z
      exact e3 n z
    · have := (List.getElem?_eq_some_iff.mp z).1
      have e1 : n = μ.length := by simp at this; omega
      subst e1; simp at z
      exact ne z.symm
/-- a hidden thing becomes a place -/
theorem Rel.place {p : Addr} {u : HO} {o : Ob} {P' : Hp} (r : Rel g P F μ S H) (hp : P p = some u) (h : ∀ a o, P' a = some o → P a = some o) (hn : P' p = none) (ho : ObRep g F (μ ++ [p]) o u) :
    Rel g P' F (μ ++ [p]) (S ++ [o]) H ∧ Gr F μ F (μ ++ [p]) ∧ (μ ++ [p])[S.length]? = some p := by
  obtain ⟨hH, hF, hμ⟩ := r.priv p u hp
  have gr : Gr F μ F (μ ++ [p]) := ⟨fun _ _ h => h, fun n q h => by
    have : n < μ.length := (List.getElem?_eq_some_iff.mp h).1
    rw [List.getElem?_append_left this]; exact h⟩
  have there : ∀ n q, μ[n]? = some q → q ≠ p := fun n q h z => hμ n (by rw [h, z])
  have last : (μ ++ [p])[S.length]? = some p := by rw [← r.len]; simp
  refine ⟨⟨r.sub, by simp [r.len], fun n ob q h1 h2 => ?_, fun m n q h1 h2 => ?_, fun a w e => ?_⟩, gr, last⟩
  · by_cases hn : n < S.length
    · rw [List.getElem?_append_left hn] at h1
      rw [List.getElem?_append_left (by rw [r.len]; exact hn)] at h2
      rcases r.live n ob q h1 h2 with e | ⟨w, f1, h1', k⟩
      · exact .inl e
      · exact .inr ⟨w, f1, h1', k.mono gr⟩
    · have e1 : n = S.length := by
        have := (List.getElem?_eq_some_iff.mp h1).1
        simp at this; omega
      subst e1
      rw [last] at h2; cases h2
      simp at h1; subst h1
      exact .inr ⟨u, hF, hH, ho⟩
  · by_cases hm : m < μ.length
    · by_cases hn : n < μ.length
      · rw [List.getElem?_append_left hm] at h1
        rw [List.getElem?_append_left hn] at h2
        exact r.inj m n q h1 h2
      · rw [List.getElem?_append_left hm] at h1
        have := (List.getElem?_eq_some_iff.mp h2).1
        have e2 : n = μ.length := by simp at this; omega
        subst e2; simp at h2; subst h2
        exact absurd rfl (there m _ h1)
    · have := (List.getElem?_eq_some_iff.mp h1).1
      have e1 : m = μ.length := by simp at this; omega
      subst e1; simp at h1; subst h1
      by_cases hn : n < μ.length
      · rw [List.getElem?_append_left hn] at h2
        exact absurd rfl (there n _ h2)
      · have := (List.getElem?_eq_some_iff.mp h2).1
        simp at this; omega
  · obtain ⟨e1, e2, e3⟩ := r.priv a w (h a w e)
    refine ⟨e1, e2, fun n z => ?_⟩
    have ne : a ≠ p := fun q => by rw [q, hn] at e; cases e
    by_cases hn : n < μ.length
    · rw [List.getElem?_append_left hn] at z
      exact e3 n z
    · have := (List.getElem?_eq_some_iff.mp z).1
      have e1 : n = μ.length := by simp at this; omega
      subst e1; simp at z
      exact ne z.symm
/-- a place is written -/
theorem Rel.write {n : Nat} {p : Addr} {u : HO} {o o' : Ob} (r : Rel g P F μ S H) (hs : S[n]? = some o) (hd : o ≠ .dead) (hm : μ[n]? = some p) (ho : ObRep g F μ o' u) : Rel g P F μ (S.set n o') (upd H p u) := by
  have hF : F p = none := by
    rcases r.live n o p hs hm with ⟨e, _⟩ | ⟨_, f, _⟩
    · exact absurd e hd
    · exact f
  have hn : n < S.length := (List.getElem?_eq_some_iff.mp hs).1
  refine ⟨fun a w e => ?_, by simpa using r.len, fun m ob q h1 h2 => ?_, r.inj, fun a w e => ?_⟩
  · rw [upd_ne (ne_of_none e hF)]; exact r.sub a w e
  · by_cases hnm : n = m
    · subst hnm
      rw [List.getElem?_set_self hn] at h1; cases h1
      rw [hm] at h2; cases h2
      exact .inr ⟨u, hF, upd_same, ho⟩
    · rw [List.getElem?_set_ne hnm] at h1
      have ne : q ≠ p := fun z => hnm (r.inj n m p hm (by rw [h2, z]))
      rcases r.live m ob q h1 h2 with ⟨e, h⟩ | ⟨w, f1, h1', k⟩
      · exact .inl ⟨e, by rw [upd_ne ne]; exact h⟩
      · exact .inr ⟨w, f1, by rw [upd_ne ne]; exact h1', k⟩
  · obtain ⟨e1, e2, e3⟩ := r.priv a w e
    exact ⟨by rw [upd_ne (fun z => e3 n (by rw [z]; exact hm))]; exact e1, e2, e3⟩
/-- a place becomes frozen -/
theorem Rel.freeze {n : Nat} {p : Addr} {u : HO} {o : Ob} (r : Rel g P F μ S H) (hs : S[n]? = some o) (hd : o ≠ .dead) (hm : μ[n]? = some p) (hu : H p = some u) : Rel g P (upd F p u) μ (S.set n .dead) H ∧ Gr F μ (upd F p u) μ ∧ ObRep g F μ o u := by
  rcases r.live n o p hs hm with ⟨e, _⟩ | ⟨u', hF, hu', k⟩
  · exact absurd e hd
  rw [hu] at hu'; cases hu'
  have hn : n < S.length := (List.getElem?_eq_some_iff.mp hs).1
  have gr : Gr F μ (upd F p u) μ := ⟨fun a u e => by rw [upd_ne (ne_of_none e hF)]; exact e, fun _ _ h => h⟩
  refine ⟨⟨fun a w e => ?_, by simpa using r.len, fun m ob q h1 h2 => ?_, r.inj, fun a w e => ?_⟩, gr, k⟩
  · by_cases ha : a = p
    · subst ha; rw [upd_same] at e; cases e; exact hu
    · rw [upd_ne ha] at e; exact r.sub a w e
  · by_cases hnm : n = m
    · subst hnm
      rw [List.getElem?_set_self hn] at h1; cases h1
      rw [hm] at h2; cases h2
      exact .inl ⟨rfl, by rw [hu]; intro z; cases z⟩
    · rw [List.getElem?_set_ne hnm] at h1
      have ne : q ≠ p := fun z => hnm (r.inj n m p hm (by rw [h2, z]))
      rcases r.live m ob q h1 h2 with h | ⟨w, f1, h1', k⟩
      · exact .inl h
      · exact .inr ⟨w, by rw [upd_ne ne]; exact f1, h1', k.mono gr⟩
  · obtain ⟨e1, e2, e3⟩ := r.priv a w e
    exact ⟨e1, by rw [upd_ne (fun z => e3 n (by rw [z]; exact hm))]; exact e2, e3⟩
end
end DL

/-! The data layer, 2: the judgements, calls. -/
namespace DL
open PySem PySem.Spec PyProof.Rows L2
abbrev EM := Env → M D
abbrev AM := Env → M (List D)
abbrev BM := Env → M Bool
abbrev gX (X : Cx) : G := ⟨X.K, X.mg⟩

/-- what a mirror's result tells: Q behind it, E where it raises -/
def Fin {α β : Type} (rep : Hp → List Addr → α → β → Prop) (g : G) (P F : Hp) (μ : List Addr) (r : R α) (Q : β → Hp → Prop) (E : XK) : Prop :=
  match r with
  | .ok a S => ∀ F' μ' H' b, Gr F μ F' μ' → Rel g P F' μ' S H' → rep F' μ' a b → Q b H'
  | .exn e S => ∀ F' μ' H' cls dd, Gr F μ F' μ' → Rel g P F' μ' S H' → XRep g F' μ' e cls dd → E cls dd H'
  | .stuck => False
abbrev repD (g : G) : Hp → List Addr → D → V → Prop := fun F μ => Rep g F μ
abbrev repA (g : G) : Hp → List Addr → List D → List V → Prop := fun F μ => Reps g F μ
abbrev repB : Hp → List Addr → Bool → Bool → Prop := fun _ _ a b => a = b
section
variable {α β γ δ : Type} {rep : Hp → List Addr → α → β → Prop} {rep' : Hp → List Addr → γ → δ → Prop} {g : G} {P F F1 : Hp} {μ μ1 : List Addr} {r : R α} {Q Q' : β → Hp → Prop} {E E' : XK}
theorem Fin.gr (gr : Gr F μ F1 μ1) (h : Fin rep g P F μ r Q E) : Fin rep g P F1 μ1 r Q E := by
  cases r with
  | ok a S => exact fun F' μ' H' b g' => h F' μ' H' b (gr.trans g')
  | exn e S => exact fun F' μ' H' c d g' => h F' μ' H' c d (gr.trans g')
  | stuck => exact h
theorem Fin.imp (h : Fin rep g P F μ r Q E) (hq : ∀ b H, Q b H → Q' b H) (he : ∀ c d H, E c d H → E' c d H) : Fin rep g P F μ r Q' E' := by
  cases r with
  | ok a S => exact fun F' μ' H' b g1 g2 g3 => hq _ _ (h F' μ' H' b g1 g2 g3)
  | exn e S => exact fun F' μ' H' c d g1 g2 g3 => he _ _ _ (h F' μ' H' c d g1 g2 g3)
  | stuck => exact h
/-- one after another -/
theorem Fin.bind {f : α → M γ} {Q : δ → Hp → Prop} (h : Fin rep' g P F μ (r.bind f) Q E) :
    Fin rep g P F μ r (fun b H1 => ∃ a F1 μ1 S1, Gr F μ F1 μ1 ∧ Rel g P F1 μ1 S1 H1 ∧ rep F1 μ1 a b ∧ Fin rep' g P F1 μ1 (f a S1) Q E) E := by
  cases r with
  | ok a S => exact fun F' μ' H' b g1 g2 g3 => ⟨a, F', μ', S, g1, g2, g3, Fin.gr g1 h⟩
  | exn e S => exact h
  | stuck => exact h
/-- at the end -/
theorem Fin.here {a : α} {S : Store} {b : β} {H : Hp} (h : Fin rep g P F μ (.ok a S) Q E) (rl : Rel g P F μ S H) (rp : rep F μ a b) : Q b H := h F μ H b (Gr.refl _ _) rl rp
end

/-- the reading of an expression by its mirror -/
def tD (g : G) (W : WX) (f : EM) : TE := fun σ H Q => ∃ P ρ F μ S, EnvR g F μ ρ σ ∧ Rel g P F μ S H ∧ Fin (repD g) g P F μ (f ρ S) Q (fun c d H' => W c d σ H')
def tDA (g : G) (W : WX) (f : AM) : TA := fun σ H Q => ∃ P ρ F μ S, EnvR g F μ ρ σ ∧ Rel g P F μ S H ∧ Fin (repA g) g P F μ (f ρ S) Q (fun c d H' => W c d σ H')
def tDB (g : G) (W : WX) (f : BM) : TT := fun σ H Q => ∃ P ρ F μ S, EnvR g F μ ρ σ ∧ Rel g P F μ S H ∧ Fin repB g P F μ (f ρ S) Q (fun c d H' => W c d σ H')
abbrev DE (X : Cx) (W : WX) (e : Expr) (f : EM) : Prop := PE X e (tD (gX X) W f)
abbrev DA (X : Cx) (W : WX) (es : List Expr) (f : AM) : Prop := PA X es (tDA (gX X) W f)
abbrev DB (X : Cx) (W : WX) (e : Expr) (f : BM) : Prop := PT X e (tDB (gX X) W f)
abbrev DW (X : Cx) (W : WX) (e : Expr) (f : BM) : Prop := PW X e (tDB (gX X) W f)

theorem PE.weak {X : Cx} {e : Expr} {t t' : TE} (h : PE X e t) (w : ∀ σ H Q, t' σ H Q → t σ H Q) : PE X e t' := ⟨fun pins s σ H Q I k => h.run pins s σ H Q I (w σ H Q k)⟩
theorem PT.weak {X : Cx} {e : Expr} {t t' : TT} (h : PT X e t) (w : ∀ σ H Q, t' σ H Q → t σ H Q) : PT X e t' := ⟨fun pins s σ H Q I k => h.run pins s σ H Q I (w σ H Q k)⟩
theorem PW.weak {X : Cx} {e : Expr} {t t' : TT} (h : PW X e t) (w : ∀ σ H Q, t' σ H Q → t σ H Q) : PW X e t' := ⟨fun wh pins s σ H Q I k => h.run wh pins s σ H Q I (w σ H Q k)⟩
theorem PA.weak {X : Cx} {es : List Expr} {t t' : TA} (h : PA X es t) (w : ∀ σ H Q, t' σ H Q → t σ H Q) : PA X es t' := ⟨fun p pins s σ H Q I k => h.run p pins s σ H Q I (w σ H Q k)⟩
theorem PS.weak {X : Cx} {st : Stmt} {t t' : TS} (h : PS X st t) (w : ∀ D σ H, t' D σ H → t D σ H) : PS X st t' := ⟨fun pins s σ H D I k => h.run pins s σ H D I (w D σ H k)⟩
theorem PSs.weak {X : Cx} {st : List Stmt} {t t' : TS} (h : PSs X st t) (w : ∀ D σ H, t' D σ H → t D σ H) : PSs X st t' := ⟨fun pins s σ H D I k => h.run pins s σ H D I (w D σ H k)⟩

section
variable {g : G} {W : WX} {P F : Hp} {μ : List Addr} {S : Store} {ρ : Env} {σ : L2.St} {H : Hp}
/-- the mirror's value, then Q -/
theorem tD.run {f : EM} {Q : VK} (e : EnvR g F μ ρ σ) (r : Rel g P F μ S H) (h : Fin (repD g) g P F μ (f ρ S) Q (fun c d H' => W c d σ H')) : tD g W f σ H Q := ⟨P, ρ, F, μ, S, e, r, h⟩
theorem tDA.run {f : AM} {Q : List V → Hp → Prop} (e : EnvR g F μ ρ σ) (r : Rel g P F μ S H) (h : Fin (repA g) g P F μ (f ρ S) Q (fun c d H' => W c d σ H')) : tDA g W f σ H Q := ⟨P, ρ, F, μ, S, e, r, h⟩
theorem tDB.run {f : BM} {Q : Bool → Hp → Prop} (e : EnvR g F μ ρ σ) (r : Rel g P F μ S H) (h : Fin repB g P F μ (f ρ S) Q (fun c d H' => W c d σ H')) : tDB g W f σ H Q := ⟨P, ρ, F, μ, S, e, r, h⟩
end

/-! ### names, constants -/
def mVar (i : Nat) : EM := fun ρ S => match ρ[i]? with
  | some (some d) => .ok d S
  | _ => .stuck
def mC (d : D) : EM := fun _ S => .ok d S
section
variable {X : Cx} {W : WX}
theorem d_var (i : Nat) {x : Str} {pos : Pos} (hN : X.N[i]? = some x := by rfl) (hv : Vis X.env.scope x := by first | exact Or.inl rfl | exact Or.inr (Or.inl rfl) | exact Or.inr (Or.inr rfl)) (hd : (x == ("__debug__" : Str)) = false := by decide)
    (hcd : (x == ("__classdict__" : Str)) = false := by decide) : DE X W (.Name x pos) (mVar i) := by
  refine PE.weak (pe_var hN hv hd hcd) fun σ H Q h => ?_
  obtain ⟨P, ρ, F, μ, S, e, r, h⟩ := h
  unfold mVar at h
  split at h
  · rename_i d q
    obtain ⟨v, h1, h2⟩ := e.at_ i d q
    exact ⟨v, h1, h.here r h2⟩
  · exact h.elim
theorem d_const {e : Expr} {v : V} {d : D} (h : PE X e (tC v)) (hr : ∀ F μ, Rep (gX X) F μ d v) : DE X W e (mC d) := PE.weak h fun σ H Q ⟨P, ρ, F, μ, S, e, r, k⟩ => k.here r (hr F μ)
theorem d_int {i j pos} : DE X W (.Constant (.int i) j pos) (mC (.int i)) := d_const pe_int fun _ _ => by simp only [Rep]
theorem d_bl {b j pos} : DE X W (.Constant (.bool b) j pos) (mC (.bl b)) := d_const pe_bl fun _ _ => by simp only [Rep]
theorem d_non {j pos} : DE X W (.Constant .none j pos) (mC .non) := d_const pe_non fun _ _ => by simp only [Rep]
theorem d_str {x j pos} : DE X W (.Constant (.str x) j pos) (mC (.str x)) := d_const pe_str fun _ _ => by simp only [Rep]
/-- a constant of the module -/
def GlobD (g : G) (x : Str) (d : D) : Prop := ∃ v u, g.mg x = some u ∧ RelV v u ∧ ∀ F μ, Rep g F μ d v
theorem d_glob {x : Str} {d : D} {pos : Pos} (G : GlobD (gX X) x d) (hg : Gl X x := by rfl) (hd : (x == ("__debug__" : Str)) = false := by decide) : DE X W (.Name x pos) (mC d) := by
  obtain ⟨v, u, h1, h2, h3⟩ := G
  exact d_const (pe_glob hg h1 h2 hd) h3
end

/-! ### arguments -/
def mNil : AM := fun _ S => .ok [] S
def mCons (f : EM) (r : AM) : AM := fun ρ S => (f ρ S).bind fun x S => (r ρ S).bind fun xs S => .ok (x :: xs) S
section
variable {X : Cx} {W : WX}
theorem da_nil : DA X W [] mNil := PA.weak pa_nil fun σ H Q ⟨P, ρ, F, μ, S, e, r, k⟩ => k.here r reps_nil
theorem da_cons {e : Expr} {es : List Expr} {f : EM} {fr : AM} (h : DE X W e f) (hr : DA X W es fr) (hs : starEach (e :: es) X.env = (false, eval e X.env) :: starEach es X.env := by rfl) : DA X W (e :: es) (mCons f fr) := by
  refine PA.weak (pa_cons h hr hs) fun σ H Q ⟨P, ρ, F, μ, S, en, r, k⟩ => ?_
  refine tD.run en r (Fin.imp (Fin.bind (rep := repD (gX X)) k) (fun v H1 ⟨a, F1, μ1, S1, g1, r1, p1, k1⟩ => ?_) fun _ _ _ z => z)
  refine tDA.run (en.mono g1) r1 (Fin.imp (Fin.bind (rep := repA (gX X)) k1) (fun vs H2 ⟨b, F2, μ2, S2, g2, r2, p2, k2⟩ => ?_) fun _ _ _ z => z)
  exact k2.here r2 (reps_cons (p1.mono g2) p2)
end

/-! ### operators by values -/
/-- a two-place operation as its mirror says -/
def OpD (X : Cx) (f : Value → Value → Sem Value) (m : D → D → M D) : Prop :=
  OpR X f (fun v w H Q => ∃ x y P F μ S E, Rel (gX X) P F μ S H ∧ Rep (gX X) F μ x v ∧ Rep (gX X) F μ y w ∧ Fin (repD (gX X)) (gX X) P F μ (m x y S) Q E)
def mOp (m : D → D → M D) (fa fb : EM) : EM := fun ρ S => (fa ρ S).bind fun x S => (fb ρ S).bind fun y S => m x y S
section
variable {X : Cx} {W : WX} {a b : Expr} {fa fb : EM} {m : D → D → M D} {pos : Pos}
theorem op_run {r : R2} (hr : r = fun v w H Q => ∃ x y P F μ S E, Rel (gX X) P F μ S H ∧ Rep (gX X) F μ x v ∧ Rep (gX X) F μ y w ∧ Fin (repD (gX X)) (gX X) P F μ (m x y S) Q E) :
    ∀ σ H Q, tD (gX X) W (mOp m fa fb) σ H Q → tOp r (tD (gX X) W fa) (tD (gX X) W fb) σ H Q := fun σ H Q ⟨P, ρ, F, μ, S, en, rl, k⟩ => by
  refine tD.run en rl (Fin.imp (Fin.bind (rep := repD (gX X)) k) (fun v H1 ⟨x, F1, μ1, S1, g1, r1, p1, k1⟩ => ?_) fun _ _ _ z => z)
  refine tD.run (en.mono g1) r1 (Fin.imp (Fin.bind (rep := repD (gX X)) k1) (fun w H2 ⟨y, F2, μ2, S2, g2, r2, p2, k2⟩ => ?_) fun _ _ _ z => z)
  rw [hr]
  exact ⟨x, y, P, F2, μ2, S2, _, r2, p1.mono g2, p2, k2⟩
theorem d_op {op : Operator} (ho : OpD X (binaryOp op) m) (ha : DE X W a fa) (hb : DE X W b fb) : DE X W (.BinOp a op b pos) (mOp m fa fb) := PE.weak (pe_op ho ha hb) (op_run rfl)
theorem d_cmp {op : CmpOp} (ho : OpD X (compareOp op) m) (ha : DE X W a fa) (hb : DE X W b fb) (hm : behindInMarks op b = false := by first | exact nomark _ | rfl) : DE X W (.Compare a [op] [b] pos) (mOp m fa fb) := PE.weak (pe_cmpR ho ha hb hm) (op_run rfl)
/-- a bool -/
def toB : D → M Bool
  | .bl b, S => .ok b S
  | _, _ => .stuck
def mB (f : EM) : BM := fun ρ S => (f ρ S).bind toB
theorem toB_fin {g : G} {P F : Hp} {μ : List Addr} {d : D} {S : Store} {H : Hp} {v : V} {Q : Bool → Hp → Prop} {E : XK} (k : Fin repB g P F μ (toB d S) Q E) (r : Rel g P F μ S H) (p : Rep g F μ d v) : ∃ c, v = .bl c ∧ Q c H := by
  cases d <;> first | exact k.elim | skip
  simp only [Rep] at p
  exact ⟨_, p, k.here r rfl⟩
theorem db_val {e : Expr} {f : EM} (h : DE X W e f) (he : ∀ whole, isTrue e X.env whole = (do let v ← whole; standAt e.pos; holding [v] (truthy v)) := by intro _; rfl) : DB X W e (mB f) :=
  PT.weak (pt_val h he) fun σ H Q ⟨P, ρ, F, μ, S, en, rl, k⟩ => tD.run en rl (Fin.imp (Fin.bind (rep := repD (gX X)) k) (fun v H1 ⟨x, F1, μ1, S1, g1, r1, p1, k1⟩ => toB_fin k1 r1 p1) fun _ _ _ z => z)
theorem db_cmp {op : CmpOp} (ho : OpD X (compareOp op) m) (ha : DE X W a fa) (hb : DE X W b fb) (hm : behindInMarks op b = false := by first | exact nomark _ | rfl) : DB X W (.Compare a [op] [b] pos) (mB (mOp m fa fb)) :=
  PT.weak (pt_cmpR ho ha hb hm) fun σ H Q ⟨P, ρ, F, μ, S, en, rl, k⟩ => op_run rfl σ H _ (tD.run en rl (Fin.imp (Fin.bind (rep := repD (gX X)) k) (fun v H1 ⟨x, F1, μ1, S1, g1, r1, p1, k1⟩ => toB_fin k1 r1 p1) fun _ _ _ z => z))
/-- a one-place operation -/
def UnD (X : Cx) (f : Value → Sem Value) (m : D → M D) : Prop := UnR X f (fun v H Q => ∃ x P F μ S E, Rel (gX X) P F μ S H ∧ Rep (gX X) F μ x v ∧ Fin (repD (gX X)) (gX X) P F μ (m x S) Q E)
def mUn (m : D → M D) (fa : EM) : EM := fun ρ S => (fa ρ S).bind m
theorem d_un {op : UnaryOp} {m : D → M D} (ho : UnD X (unaryOp op) m) (ha : DE X W a fa) : DE X W (.UnaryOp op a pos) (mUn m fa) :=
  PE.weak (pe_un ho ha) fun σ H Q ⟨P, ρ, F, μ, S, en, rl, k⟩ => tD.run en rl (Fin.imp (Fin.bind (rep := repD (gX X)) k) (fun v H1 ⟨x, F1, μ1, S1, g1, r1, p1, k1⟩ => ⟨x, P, F1, μ1, S1, _, r1, p1, k1⟩) fun _ _ _ z => z)
end

/-! ### and, or, not, if -/
def mAnd (f h : BM) : BM := fun ρ S => (f ρ S).bind fun b S => if b then h ρ S else .ok false S
def mOr (f h : BM) : BM := fun ρ S => (f ρ S).bind fun b S => if b then .ok true S else h ρ S
def mNot (f : BM) : BM := fun ρ S => (f ρ S).bind fun b S => .ok (!b) S
def mAndV (f h : EM) : EM := fun ρ S => (f ρ S).bind fun d S => (toB d S).bind fun b S => if b then h ρ S else .ok (.bl false) S
def mOrV (f h : EM) : EM := fun ρ S => (f ρ S).bind fun d S => (toB d S).bind fun b S => if b then .ok (.bl true) S else h ρ S
def mNotV (f : EM) : EM := fun ρ S => (f ρ S).bind fun d S => (toB d S).bind fun b S => .ok (.bl (!b)) S
def mIf (c : BM) (f h : EM) : EM := fun ρ S => (c ρ S).bind fun b S => if b then f ρ S else h ρ S
theorem toB_bind {γ δ : Type} {rep' : Hp → List Addr → γ → δ → Prop} {g : G} {P F : Hp} {μ : List Addr} {d : D} {S : Store} {v : V} {f : Bool → M γ} {Q : δ → Hp → Prop} {E : XK} (k : Fin rep' g P F μ ((toB d S).bind f) Q E) (p : Rep g F μ d v) :
    ∃ c, v = .bl c ∧ Fin rep' g P F μ (f c S) Q E := by
  cases d <;> first | exact k.elim | skip
  simp only [Rep] at p
  exact ⟨_, p, k⟩
section
variable {X : Cx} {W : WX} {a b c : Expr} {rest : List Expr} {fa fb : EM} {ta tb : BM} {pos : Pos}
theorem dw_and1 (h : DB X W a ta) : DW X W (.BoolOp .And [a] pos) ta := pw_and1 h
theorem dw_or1 (h : DB X W a ta) : DW X W (.BoolOp .Or [a] pos) ta := pw_or1 h
theorem dw_and (h : DB X W a ta) (hb : DW X W (.BoolOp .And (b :: rest) pos) tb) : DW X W (.BoolOp .And (a :: b :: rest) pos) (mAnd ta tb) := by
  refine PW.weak (pw_and h hb) fun σ H Q ⟨P, ρ, F, μ, S, en, rl, k⟩ => ?_
  refine tDB.run en rl (Fin.imp (Fin.bind (rep := repB) k) (fun v H1 ⟨x, F1, μ1, S1, g1, r1, p1, k1⟩ => ?_) fun _ _ _ z => z)
  cases p1
  cases v with
  | true => exact iteT (tDB.run (en.mono g1) r1 k1)
  | false => exact iteF (k1.here r1 rfl)
theorem dw_or (h : DB X W a ta) (hb : DW X W (.BoolOp .Or (b :: rest) pos) tb) : DW X W (.BoolOp .Or (a :: b :: rest) pos) (mOr ta tb) := by
  refine PW.weak (pw_or h hb) fun σ H Q ⟨P, ρ, F, μ, S, en, rl, k⟩ => ?_
  refine tDB.run en rl (Fin.imp (Fin.bind (rep := repB) k) (fun v H1 ⟨x, F1, μ1, S1, g1, r1, p1, k1⟩ => ?_) fun _ _ _ z => z)
  cases p1
  cases v with
  | true => exact iteT (k1.here r1 rfl)
  | false => exact iteF (tDB.run (en.mono g1) r1 k1)
theorem db_bool {e : Expr} (h : DW X W e ta) : DB X W e ta := PW.pt h
theorem db_not (h : DB X W a ta) : DB X W (.UnaryOp .Not a pos) (mNot ta) := by
  refine PT.weak (pt_not h) fun σ H Q ⟨P, ρ, F, μ, S, en, rl, k⟩ => ?_
  refine tDB.run en rl (Fin.imp (Fin.bind (rep := repB) k) (fun v H1 ⟨x, F1, μ1, S1, g1, r1, p1, k1⟩ => ?_) fun _ _ _ z => z)
  cases p1
  exact k1.here r1 rfl
theorem d_one {op} (h : DE X W a fa) : DE X W (.BoolOp op [a] pos) fa := pe_one h
theorem d_and (h : DE X W a fa) (hb : DE X W (.BoolOp .And (b :: rest) pos) fb) : DE X W (.BoolOp .And (a :: b :: rest) pos) (mAndV fa fb) := by
  refine PE.weak (pe_and h hb) fun σ H Q ⟨P, ρ, F, μ, S, en, rl, k⟩ => ?_
  refine tD.run en rl (Fin.imp (Fin.bind (rep := repD (gX X)) k) (fun v H1 ⟨x, F1, μ1, S1, g1, r1, p1, k1⟩ => ?_) fun _ _ _ z => z)
  obtain ⟨c, e, k2⟩ := toB_bind k1 p1
  refine ⟨c, e, ?_⟩
  cases c with
  | true => exact iteT (tD.run (en.mono g1) r1 k2)
  | false => exact iteF (k2.here r1 (by simp only [Rep]))
theorem d_or (h : DE X W a fa) (hb : DE X W (.BoolOp .Or (b :: rest) pos) fb) : DE X W (.BoolOp .Or (a :: b :: rest) pos) (mOrV fa fb) := by
  refine PE.weak (pe_or h hb) fun σ H Q ⟨P, ρ, F, μ, S, en, rl, k⟩ => ?_
  refine tD.run en rl (Fin.imp (Fin.bind (rep := repD (gX X)) k) (fun v H1 ⟨x, F1, μ1, S1, g1, r1, p1, k1⟩ => ?_) fun _ _ _ z => z)
  obtain ⟨c, e, k2⟩ := toB_bind k1 p1
  refine ⟨c, e, ?_⟩
  cases c with
  | true => exact iteT (k2.here r1 (by simp only [Rep]))
  | false => exact iteF (tD.run (en.mono g1) r1 k2)
theorem d_not (h : DE X W a fa) : DE X W (.UnaryOp .Not a pos) (mNotV fa) := by
  refine PE.weak (pe_not h) fun σ H Q ⟨P, ρ, F, μ, S, en, rl, k⟩ => ?_
  refine tD.run en rl (Fin.imp (Fin.bind (rep := repD (gX X)) k) (fun v H1 ⟨x, F1, μ1, S1, g1, r1, p1, k1⟩ => ?_) fun _ _ _ z => z)
  obtain ⟨c, e, k2⟩ := toB_bind k1 p1
  exact ⟨c, e, k2.here r1 (by simp only [Rep])⟩
theorem d_if (hc : DB X W c ta) (ha : DE X W a fa) (hb : DE X W b fb) : DE X W (.IfExp c a b pos) (mIf ta fa fb) := by
  refine PE.weak (pe_ifExp hc ha hb) fun σ H Q ⟨P, ρ, F, μ, S, en, rl, k⟩ => ?_
  refine tDB.run en rl (Fin.imp (Fin.bind (rep := repB) k) (fun v H1 ⟨x, F1, μ1, S1, g1, r1, p1, k1⟩ => ?_) fun _ _ _ z => z)
  cases p1
  cases v with
  | true => exact iteT (tD.run (en.mono g1) r1 k1)
  | false => exact iteF (tD.run (en.mono g1) r1 k1)
end

/-! ### statements -/
inductive Fl where
  | nx | rt (d : D) | bk | ct | ex (e : D)
/-- a statement's result -/
inductive O where
  | go (fl : Fl) (ρ : Env) (S : Store)
  | stuck
abbrev SM := Env → Store → O
/-- an expression in a statement: what it raises goes on as a flow -/
def R.to {α : Type} (r : R α) (ρ : Env) (k : α → Store → O) : O := match r with
  | .ok a S => k a S
  | .exn e S => .go (.ex e) ρ S
  | .stuck => .stuck
@[simp] theorem R.to_ok {α : Type} (a : α) (S : Store) (ρ : Env) (k : α → Store → O) : (R.ok a S).to ρ k = k a S := rfl
@[simp] theorem R.to_exn {α : Type} (e : D) (S : Store) (ρ : Env) (k : α → Store → O) : (R.exn e S : R α).to ρ k = .go (.ex e) ρ S := rfl
@[simp] theorem R.to_stuck {α : Type} (ρ : Env) (k : α → Store → O) : (R.stuck : R α).to ρ k = .stuck := rfl
def Fl.post (g : G) (F : Hp) (μ : List Addr) (fl : Fl) (ρ : Env) (H : Hp) (Dn : Ends) (W : WX) : Prop := match fl with
  | .nx => ∀ σ, EnvR g F μ ρ σ → Dn.nx σ H
  | .bk => ∀ σ, EnvR g F μ ρ σ → Dn.bk σ H
  | .ct => ∀ σ, EnvR g F μ ρ σ → Dn.ct σ H
  | .rt d => ∀ v, Rep g F μ d v → Dn.rt v H
  | .ex e => ∀ σ cls dd, EnvR g F μ ρ σ → XRep g F μ e cls dd → W cls dd σ H
def FinS (g : G) (P F : Hp) (μ : List Addr) (o : O) (Dn : Ends) (W : WX) : Prop := match o with
  | .go fl ρ S => ∀ F' μ' H', Gr F μ F' μ' → Rel g P F' μ' S H' → fl.post g F' μ' ρ H' Dn W
  | .stuck => False
def tDS (g : G) (W : WX) (f : SM) : TS := fun Dn σ H => ∃ P ρ F μ S, EnvR g F μ ρ σ ∧ Rel g P F μ S H ∧ FinS g P F μ (f ρ S) Dn W
abbrev DS (X : Cx) (W : WX) (st : Stmt) (f : SM) : Prop := PS X st (tDS (gX X) W f)
abbrev DSs (X : Cx) (W : WX) (st : List Stmt) (f : SM) : Prop := PSs X st (tDS (gX X) W f)
section
variable {g : G} {P F F1 : Hp} {μ μ1 : List Addr} {o : O} {Dn Dn' : Ends} {W W' : WX} {ρ : Env} {σ : L2.St} {S : Store} {H : Hp}
theorem FinS.gr (gr : Gr F μ F1 μ1) (h : FinS g P F μ o Dn W) : FinS g P F1 μ1 o Dn W := by
  cases o with
  | go fl ρ S => exact fun F' μ' H' g' => h F' μ' H' (gr.trans g')
  | stuck => exact h
theorem tDS.run {f : SM} (e : EnvR g F μ ρ σ) (r : Rel g P F μ S H) (h : FinS g P F μ (f ρ S) Dn W) : tDS g W f Dn σ H := ⟨P, ρ, F, μ, S, e, r, h⟩
theorem FinS.here {fl : Fl} (h : FinS g P F μ (.go fl ρ S) Dn W) (r : Rel g P F μ S H) : fl.post g F μ ρ H Dn W := h F μ H (Gr.refl _ _) r
/-- an expression, then the rest -/
theorem FinS.to {α β : Type} {rep : Hp → List Addr → α → β → Prop} {r : R α} {k : α → Store → O} (en : EnvR g F μ ρ σ) (h : FinS g P F μ (r.to ρ k) Dn W) :
    Fin rep g P F μ r (fun b H1 => ∃ a F1 μ1 S1, Gr F μ F1 μ1 ∧ Rel g P F1 μ1 S1 H1 ∧ rep F1 μ1 a b ∧ FinS g P F1 μ1 (k a S1) Dn W) (fun c d H' => W c d σ H') := by
  cases r with
  | ok a S => exact fun F' μ' H' b g1 g2 g3 => ⟨a, F', μ', S, g1, g2, g3, FinS.gr g1 h⟩
  | exn e S => exact fun F' μ' H' c d g1 g2 g3 => h F' μ' H' g1 g2 σ c d (en.mono g1) g3
  | stuck => exact h
end
/-! #### small ones -/
def mNext : SM := fun ρ S => .go .nx ρ S
def mBreak : SM := fun ρ S => .go .bk ρ S
def mCont : SM := fun ρ S => .go .ct ρ S
def O.then (o : O) (h : SM) : O := match o with
  | .go .nx ρ S => h ρ S
  | o => o
@[simp] theorem O.then_nx (ρ : Env) (S : Store) (h : SM) : (O.go .nx ρ S).then h = h ρ S := rfl
@[simp] theorem O.then_rt (d : D) (ρ : Env) (S : Store) (h : SM) : (O.go (.rt d) ρ S).then h = .go (.rt d) ρ S := rfl
@[simp] theorem O.then_bk (ρ : Env) (S : Store) (h : SM) : (O.go .bk ρ S).then h = .go .bk ρ S := rfl
@[simp] theorem O.then_ct (ρ : Env) (S : Store) (h : SM) : (O.go .ct ρ S).then h = .go .ct ρ S := rfl
@[simp] theorem O.then_ex (e : D) (ρ : Env) (S : Store) (h : SM) : (O.go (.ex e) ρ S).then h = .go (.ex e) ρ S := rfl
@[simp] theorem O.then_stuck (h : SM) : O.stuck.then h = .stuck := rfl
def mSeq (f h : SM) : SM := fun ρ S => (f ρ S).then h
def mDrop (f : EM) : SM := fun ρ S => (f ρ S).to ρ fun _ S => .go .nx ρ S
def mRet (f : EM) : SM := fun ρ S => (f ρ S).to ρ fun d S => .go (.rt d) ρ S
def mRetN : SM := fun ρ S => .go (.rt .non) ρ S
def mIfS (c : BM) (f h : SM) : SM := fun ρ S => (c ρ S).to ρ fun b S => if b then f ρ S else h ρ S
section
variable {X : Cx} {W : WX} {st : Stmt} {rest : List Stmt} {f h : SM} {e : Expr} {fe : EM} {pos : Pos}
theorem ds_nil : DSs X W [] mNext := PSs.weak pss_nil fun Dn σ H ⟨P, ρ, F, μ, S, en, rl, k⟩ => k.here rl σ en
theorem ds_one (h1 : DS X W st f) : DSs X W [st] f := pss_one h1
theorem ds_cons (h1 : DS X W st f) (h2 : DSs X W rest h) : DSs X W (st :: rest) (mSeq f h) := by
  refine PSs.weak (pss_cons h1 h2) fun Dn σ H ⟨P, ρ, F, μ, S, en, rl, k⟩ => ?_
  refine tDS.run en rl ?_
  unfold mSeq at k
  cases q : f ρ S with
  | stuck => rw [q] at k; exact k.elim
  | go fl ρ' S' =>
    rw [q] at k
    intro F' μ' H' g1 r1
    cases fl with
    | nx => exact fun σ' en' => tDS.run en' r1 (FinS.gr g1 k)
    | rt d => exact k F' μ' H' g1 r1
    | bk => exact k F' μ' H' g1 r1
    | ct => exact k F' μ' H' g1 r1
    | ex e => exact k F' μ' H' g1 r1
theorem ds_pass : DS X W (.Pass pos) mNext := PS.weak ps_pass fun Dn σ H ⟨P, ρ, F, μ, S, en, rl, k⟩ => k.here rl σ en
theorem ds_break : DS X W (.Break pos) mBreak := PS.weak ps_break fun Dn σ H ⟨P, ρ, F, μ, S, en, rl, k⟩ => k.here rl σ en
theorem ds_cont : DS X W (.Continue pos) mCont := PS.weak ps_continue fun Dn σ H ⟨P, ρ, F, μ, S, en, rl, k⟩ => k.here rl σ en
theorem ds_expr (he : DE X W e fe) (hs : swapsWith e none pos.line X.env = pure false := by rfl) : DS X W (.Expr e pos) (mDrop fe) := by
  refine PS.weak (ps_expr he hs) fun Dn σ H ⟨P, ρ, F, μ, S, en, rl, k⟩ => ?_
  refine tD.run en rl (Fin.imp (FinS.to (rep := repD (gX X)) en k) (fun v H1 ⟨a, F1, μ1, S1, g1, r1, p1, k1⟩ => ?_) fun _ _ _ z => z)
  exact k1.here r1 σ (en.mono g1)
theorem ds_ret (he : DE X W e fe) : DS X W (.Return (some e) pos) (mRet fe) := by
  refine PS.weak (ps_ret he) fun Dn σ H ⟨P, ρ, F, μ, S, en, rl, k⟩ => ?_
  refine tD.run en rl (Fin.imp (FinS.to (rep := repD (gX X)) en k) (fun v H1 ⟨a, F1, μ1, S1, g1, r1, p1, k1⟩ => ?_) fun _ _ _ z => z)
  exact k1.here r1 v p1
theorem ds_retN : DS X W (.Return none pos) mRetN := PS.weak ps_retN fun Dn σ H ⟨P, ρ, F, μ, S, en, rl, k⟩ => k.here rl .non (by simp only [Rep])
theorem ds_if {c : Expr} {a b : List Stmt} {tc : BM} (hc : DB X W c tc) (ha : DSs X W a f) (hb : DSs X W b h) : DS X W (.If c a b pos) (mIfS tc f h) := by
  refine PS.weak (ps_if hc ha hb) fun Dn σ H ⟨P, ρ, F, μ, S, en, rl, k⟩ => ?_
  refine tDB.run en rl (Fin.imp (FinS.to (rep := repB) en k) (fun v H1 ⟨a, F1, μ1, S1, g1, r1, p1, k1⟩ => ?_) fun _ _ _ z => z)
  cases p1
  cases v with
  | true => exact iteT (tDS.run (en.mono g1) r1 k1)
  | false => exact iteF (tDS.run (en.mono g1) r1 k1)
end
/-! #### targets -/
abbrev GM := D → Env → Store → Option (Env × Store)
def tDG (g : G) (f : GM) : TG := fun v σ H Q => ∃ d P ρ F μ S ρ' S', EnvR g F μ ρ σ ∧ Rel g P F μ S H ∧ Rep g F μ d v ∧ f d ρ S = some (ρ', S') ∧ ∀ F' μ' H' σ', Gr F μ F' μ' → Rel g P F' μ' S' H' → EnvR g F' μ' ρ' σ' → Q σ' H'
def tDGs (g : G) (f : List D → Env → Store → Option (Env × Store)) : TGs := fun vs σ H Q => ∃ ds P ρ F μ S ρ' S', EnvR g F μ ρ σ ∧ Rel g P F μ S H ∧ Reps g F μ ds vs ∧ f ds ρ S = some (ρ', S') ∧ ∀ F' μ' H' σ', Gr F μ F' μ' → Rel g P F' μ' S' H' → EnvR g F' μ' ρ' σ' → Q σ' H'
abbrev DG (X : Cx) (e : Expr) (f : GM) : Prop := PG X e (tDG (gX X) f)
abbrev DGs (X : Cx) (es : List Expr) (f : List D → Env → Store → Option (Env × Store)) : Prop := PGs X es (tDGs (gX X) f)
theorem PG.weak {X : Cx} {e : Expr} {t t' : TG} (h : PG X e t) (w : ∀ v σ H Q, t' v σ H Q → t v σ H Q) : PG X e t' := ⟨fun pins s σ H v u Q I r k => h.run pins s σ H v u Q I r (w v σ H Q k)⟩
theorem PGs.weak {X : Cx} {e : List Expr} {t t' : TGs} (h : PGs X e t) (w : ∀ v σ H Q, t' v σ H Q → t v σ H Q) : PGs X e t' := ⟨fun pins s σ H v u Q I r k => h.run pins s σ H v u Q I r (w v σ H Q k)⟩
def gN (i : Nat) : GM := fun d ρ S => some (ρ.set i (some d), S)
def gNilM : List D → Env → Store → Option (Env × Store) := fun ds ρ S => match ds with
  | [] => some (ρ, S)
  | _ => none
def gConsM (f : GM) (r : List D → Env → Store → Option (Env × Store)) : List D → Env → Store → Option (Env × Store) := fun ds ρ S => match ds with
  | d :: ds => (f d ρ S).bind fun x => r ds x.1 x.2
  | [] => none
def gTupM (n : Nat) (r : List D → Env → Store → Option (Env × Store)) : GM := fun d ρ S => match d with
  | .tup l => if l.length = n then r l ρ S else none
  | .wt l => if l.length = n then r l ρ S else none
  | .lst l => if l.length = n then r l ρ S else none
  | _ => none
def mAsg (fe : EM) (gm : GM) : SM := fun ρ S => (fe ρ S).to ρ fun d S => match gm d ρ S with
  | some (ρ', S') => .go .nx ρ' S'
  | none => .stuck
section
variable {X : Cx} {W : WX} {pos : Pos} {fe : EM} {gm : GM}
theorem dg_name (i : Nat) {x : Str} (hN : X.N.Nodup) (hi : X.N[i]? = some x := by rfl) (hx : Loc X.env.scope x := by first | exact .inl rfl | exact .inr rfl) (hf : X.fn x = true ∨ X.env.scope.names.lookup x = some .local := by first | exact .inl rfl | exact .inr rfl) : DG X (.Name x pos) (gN i) :=
  PG.weak (pg_name hN hi hx hf) fun v σ H Q ⟨d, P, ρ, F, μ, S, ρ', S', en, rl, p, e, k⟩ => by
    cases e
    exact k F μ H _ (Gr.refl _ _) rl (en.set p)
theorem dgs_nil : DGs X [] gNilM := PGs.weak pgs_nil fun v σ H Q ⟨ds, P, ρ, F, μ, S, ρ', S', en, rl, p, e, k⟩ => by
  cases ds with
  | cons _ _ => cases e
  | nil =>
    cases e
    simp only [Reps] at p
    exact ⟨p, k F μ H σ (Gr.refl _ _) rl en⟩
theorem dgs_cons {e : Expr} {es : List Expr} {r : List D → Env → Store → Option (Env × Store)} (h1 : DG X e gm) (h2 : DGs X es r)
    (hs : (assignEach (e :: es) X.env).map (·.2) = assign e X.env :: (assignEach es X.env).map (·.2) := by rfl) : DGs X (e :: es) (gConsM gm r) :=
  PGs.weak (pgs_cons h1 h2 hs) fun v σ H Q ⟨ds, P, ρ, F, μ, S, ρ', S', en, rl, p, e, k⟩ => by
    cases ds with
    | nil => cases e
    | cons d ds =>
      simp only [Reps] at p
      obtain ⟨v, vs, rfl, p1, p2⟩ := p
      unfold gConsM at e
      cases q : gm d ρ S with
      | none => simp [q] at e
      | some x =>
        simp [q] at e
        refine ⟨v, vs, rfl, d, P, ρ, F, μ, S, x.1, x.2, en, rl, p1, q, fun F' μ' H' σ' g1 r1 en1 => ?_⟩
        exact ⟨ds, P, x.1, F', μ', x.2, ρ', S', en1, r1, p2.mono g1, e, fun F2 μ2 H2 σ2 g2 => k F2 μ2 H2 σ2 (g1.trans g2)⟩
theorem pg_or {X : Cx} {e : Expr} {t t' : TG} (h : PG X e t) (h' : PG X e t') : PG X e (fun v σ H Q => t v σ H Q ∨ t' v σ H Q) := ⟨fun pins s σ H v u Q I r k => by
  rcases k with k | k
  · exact h.run pins s σ H v u Q I r k
  · exact h'.run pins s σ H v u Q I r k⟩
theorem dg_tup {es : List Expr} {k n : Nat} {r : List D → Env → Store → Option (Env × Store)} (hc : X.calm = true) (h : DGs X es r)
    (hn : (assignEach es X.env).length = n := by rfl) (hst : (assignEach es X.env).findIdx? (·.1) = none := by rfl) : DG X (.Tuple es k pos) (gTupM n r) :=
  PG.weak (pg_or (pg_tup hc h hn hst) (pg_lst hc h hn hst)) fun v σ H Q ⟨d, P, ρ, F, μ, S, ρ', S', en, rl, p, e, k⟩ => by
    have sb : Gr F μ H μ := ⟨rl.sub, fun _ _ h => h⟩
    cases d <;> first | (cases e; done) | skip
    · rename_i l
      have e : (if l.length = n then r l ρ S else none) = some (ρ', S') := e
      split at e
      · rename_i hl
        simp only [Rep] at p
        obtain ⟨a, xs, rfl, ⟨hs, _⟩, hr⟩ := p
        exact .inl ⟨a, xs, rfl, sqT_mono (g := gX X) sb hs, hr.length.symm.trans hl, l, P, ρ, F, μ, S, ρ', S', en, rl, hr, e, k⟩
      · cases e
    · rename_i l
      have e : (if l.length = n then r l ρ S else none) = some (ρ', S') := e
      split at e
      · rename_i hl
        simp only [Rep] at p
        obtain ⟨a, xs, rfl, hs, hr⟩ := p
        exact .inl ⟨a, xs, rfl, sqT_mono (g := gX X) sb hs, hr.length.symm.trans hl, l, P, ρ, F, μ, S, ρ', S', en, rl, hr, e, k⟩
      · cases e
    · rename_i l
      have e : (if l.length = n then r l ρ S else none) = some (ρ', S') := e
      split at e
      · rename_i hl
        simp only [Rep] at p
        obtain ⟨a, xs, rfl, hs, hr⟩ := p
        exact .inr ⟨a, xs, rfl, sqL_mono (g := gX X) sb hs, hr.length.symm.trans hl, l, P, ρ, F, μ, S, ρ', S', en, rl, hr, e, k⟩
      · cases e
/-- target = value -/
theorem ds_asg {tg e : Expr} (hg : DG X tg gm) (he : DE X W e fe) (hs : swapsWithSole [tg] e pos.line X.env = pure false := by rfl) (hw : swappedStores [tg] e X.env = pure none := by rfl)
    (h1 : (assignEach [tg] X.env).map (·.2) = [assign tg X.env] := by rfl) : DS X W (.Assign [tg] e pos) (mAsg fe gm) := by
  refine PS.weak (ps_asg he hg hs hw h1) fun Dn σ H ⟨P, ρ, F, μ, S, en, rl, k⟩ => ?_
  refine tD.run en rl (Fin.imp (FinS.to (rep := repD (gX X)) en k) (fun v H1 ⟨a, F1, μ1, S1, g1, r1, p1, k1⟩ => ?_) fun _ _ _ z => z)
  cases q : gm a ρ S1 with
  | none => simp only [q] at k1; exact k1.elim
  | some x =>
    simp only [q] at k1
    exact ⟨a, P, ρ, F1, μ1, S1, x.1, x.2, en.mono g1, r1, p1, q, fun F' μ' H' σ' g2 r2 en2 => k1 F' μ' H' g2 r2 σ' en2⟩
/-- name = value -/
theorem ds_set (i : Nat) {x : Str} {e : Expr} {pos' : Pos} (hN : X.N.Nodup) (he : DE X W e fe) (hi : X.N[i]? = some x := by rfl) (hx : Loc X.env.scope x := by first | exact .inl rfl | exact .inr rfl) (hs : swapsWith e (some (.Name x pos')) pos.line X.env = pure false := by rfl)
    (hf : X.fn x = true ∨ X.env.scope.names.lookup x = some .local := by first | exact .inl rfl | exact .inr rfl) : DS X W (.Assign [.Name x pos'] e pos) (mAsg fe (gN i)) := by
  refine PS.weak (ps_set hN hi hx he hs hf) fun Dn σ H ⟨P, ρ, F, μ, S, en, rl, k⟩ => ?_
  refine tD.run en rl (Fin.imp (FinS.to (rep := repD (gX X)) en k) (fun v H1 ⟨a, F1, μ1, S1, g1, r1, p1, k1⟩ => ?_) fun _ _ _ z => z)
  exact k1 F1 μ1 H1 (Gr.refl _ _) r1 _ ((en.mono g1).set p1)
/-- a, b = x, y (plain names) -/
def mPar (i j : Nat) (fa fb : EM) : SM := fun ρ S => ((fa ρ S).bind fun x S => (fb ρ S).bind fun y S => .ok (x, y) S).to ρ fun z S => .go .nx ((ρ.set i (some z.1)).set j (some z.2)) S
theorem ds_par (i j : Nat) {x y : Str} {a b : Expr} {fa fb : EM} {px py pt : Pos} {kt k2 pt2} (hc : X.calm = true) (hN : X.N.Nodup) (ha : DE X W a fa) (hb : DE X W b fb) (hi : X.N[i]? = some x := by rfl) (hj : X.N[j]? = some y := by rfl) (hij : i ≠ j := by decide)
    (hx : X.env.scope.names.lookup x = some .local := by rfl) (hy : X.env.scope.names.lookup y = some .local := by rfl)
    (hw : swappedStores [.Tuple [.Name x px, .Name y py] kt pt] (.Tuple [a, b] k2 pt2) X.env = pure (some [x, y]) := by rfl)
    (hs : swapsWithSole [.Tuple [.Name x px, .Name y py] kt pt] (.Tuple [a, b] k2 pt2) pos.line X.env = pure false := by rfl)
    (hs1 : starEach [b] X.env = (false, eval b X.env) :: starEach [] X.env := by rfl) (hs2 : starEach [a, b] X.env = (false, eval a X.env) :: starEach [b] X.env := by rfl) :
    DS X W (.Assign [.Tuple [.Name x px, .Name y py] kt pt] (.Tuple [a, b] k2 pt2) pos) (mPar i j fa fb) := by
  refine PS.weak (ps_par hc hN hi hj hij hx hy (pa_cons ha (pa_cons hb pa_nil hs1) hs2) hw hs) fun Dn σ H ⟨P, ρ, F, μ, S, en, rl, k⟩ => ?_
  have kk := FinS.to (rep := fun F μ (z : D × D) (w : V × V) => Rep (gX X) F μ z.1 w.1 ∧ Rep (gX X) F μ z.2 w.2) en k
  refine tD.run en rl (Fin.imp (Fin.bind (rep := repD (gX X)) kk) (fun v H1 ⟨x, F1, μ1, S1, g1, r1, p1, k1⟩ => ?_) fun _ _ _ z => z)
  refine tD.run (en.mono g1) r1 (Fin.imp (Fin.bind (rep := repD (gX X)) k1) (fun w H2 ⟨y, F2, μ2, S2, g2, r2, p2, k2⟩ => ?_) fun _ _ _ z => z)
  obtain ⟨z, F3, μ3, S3, g3, r3, ⟨q1, q2⟩, k3⟩ := k2.here (b := (v, w)) r2 ⟨p1.mono g2, p2⟩
  exact ⟨v, w, rfl, k3 F3 μ3 H2 (Gr.refl _ _) r3 _ (((en.mono g3).set q1).set q2)⟩
/-- name op= value -/
def InD (X : Cx) (op : Operator) (m : D → D → M D) : Prop := PIp X op (fun v w H Q => ∃ x y P F μ S E, Rel (gX X) P F μ S H ∧ Rep (gX X) F μ x v ∧ Rep (gX X) F μ y w ∧ Fin (repD (gX X)) (gX X) P F μ (m x y S) Q E)
def mAug (i : Nat) (m : D → D → M D) (fe : EM) : SM := fun ρ S => ((mVar i ρ S).bind fun x S => (fe ρ S).bind fun y S => m x y S).to ρ fun z S => .go .nx (ρ.set i (some z)) S
theorem ds_aug (i : Nat) {x : Str} {e : Expr} {op : Operator} {m : D → D → M D} {pos' : Pos} (hN : X.N.Nodup) (ho : InD X op m) (he : DE X W e fe) (hi : X.N[i]? = some x := by rfl) (hx : Loc X.env.scope x := by first | exact .inl rfl | exact .inr rfl)
    (hf : X.fn x = true ∨ X.env.scope.names.lookup x = some .local := by first | exact .inl rfl | exact .inr rfl) : DS X W (.AugAssign (.Name x pos') op e pos) (mAug i m fe) := by
  refine PS.weak (ps_aug hN hi hx he ho hf) fun Dn σ H ⟨P, ρ, F, μ, S, en, rl, k⟩ => ?_
  unfold mAug mVar at k
  cases q : ρ[i]? with
  | none => simp only [q] at k; exact k.elim
  | some o =>
    cases o with
    | none => simp only [q] at k; exact k.elim
    | some d =>
      simp only [q] at k
      obtain ⟨v, h1, h2⟩ := en.at_ i d q
      refine ⟨v, h1, ?_⟩
      have kk := FinS.to (rep := repD (gX X)) en k
      refine tD.run en rl (Fin.imp (Fin.bind (rep := repD (gX X)) kk) (fun w H1 ⟨y, F1, μ1, S1, g1, r1, p1, k1⟩ => ?_) fun _ _ _ z => z)
      refine ⟨d, y, P, F1, μ1, S1, _, r1, h2.mono g1, p1, Fin.imp k1 (fun u H2 ⟨z, F2, μ2, S2, g2, r2, p2, k2⟩ => ?_) fun _ _ _ z => z⟩
      exact k2 F2 μ2 H2 (Gr.refl _ _) r2 _ ((en.mono g2).set p2)
end

/-! ### defs -/
/-- the promise of a def by its mirror -/
def spD (g : G) (n : Nat) (m : List D → M D) : Sp := fun vs H Q E => vs.length = n ∧ ∃ ds P F μ S, Rel g P F μ S H ∧ Reps g F μ ds vs ∧ Fin (repD g) g P F μ (m ds S) Q E
/-- the def at f does what the mirror does -/
structure FnD (P : Program) (w : World) (K : PySem.W.Frag) (mg : Str → Option Value) (base : Heap) (k : Nat) (f : Addr) (fd : FuncData) (ps : List Str) (m : List D → M D) : Prop where
  run : ∀ (A : Around) (outer : List PySem.Env) (s : Shared) (H : Hp) (args : Args) (us : List Value) (vs : List V) (Q : VK) (E : XK), Room k A → A.guards = some [] → Env0 P w K mg base A outer s H → BindsTo s fd args (ps.zip us) → Vals vs us →
    spD ⟨K, mg⟩ ps.length m vs H Q E → codeAny (model P w) A (.call (.ref f) args) (CR (L2.CX P w) outer P w H s Q E) s
theorem FnD.mono {P : Program} {w : World} {K : PySem.W.Frag} {mg : Str → Option Value} {base : Heap} {j k : Nat} {f : Addr} {fd : FuncData} {ps : List Str} {m : List D → M D} (F : FnD P w K mg base j f fd ps m) (h : j ≤ k) : FnD P w K mg base k f fd ps m :=
  ⟨fun A outer s H args us vs Q E hr => F.run A outer s H args us vs Q E (hr.mono h)⟩
def start0 (n : Nat) (ds : List D) : Env := ds.map some ++ List.replicate (n - ds.length) none
/-- a def's mirror: n slots, its body -/
def mFun (n : Nat) (b : SM) : List D → M D := fun ds S => match b (start0 n ds) S with
  | .go .nx _ S => .ok .non S
  | .go (.rt d) _ S => .ok d S
  | .go (.ex e) _ S => .exn e S
  | _ => .stuck
theorem env_start {g : G} {F : Hp} {μ : List Addr} {N : List Str} {ds : List D} {vs : List V} (r : Reps g F μ ds vs) : EnvR g F μ (start0 N.length ds) (start N vs) := by
  have hl := r.length
  refine ⟨by simp [start0, L2.start, hl], fun i d e => ?_⟩
  unfold start0 at e
  by_cases hi : i < ds.length
  · rw [List.getElem?_append_left (by simpa using hi), List.getElem?_map] at e
    cases q : ds[i]? with
    | none => simp [q] at e
    | some d' =>
      simp [q] at e
      subst e
      obtain ⟨v, h1, h2⟩ := r.get q
      refine ⟨v, ?_, h2⟩
      unfold L2.start
      rw [List.getElem?_append_left (by simpa using (by omega : i < vs.length)), List.getElem?_map, h1]
      rfl
  · rw [List.getElem?_append_right (by simpa using hi)] at e
    simp [List.getElem?_replicate] at e
/-- THE RULE for a def: its body's mirror -/
theorem fn_ofD {P : Program} {w : World} {K : PySem.W.Frag} {mg : Str → Option Value} {base : Heap} {k : Nat} {f : Addr} {x qual : Str} {st : Stmt} {fd : FuncData} {N ps : List Str} {b : SM} (Fn : Fun K x qual st f fd) (Sc : FnScope N ps (defScope st))
    (hbody : ∀ (cdv : Value) (A : Around) (outer : List PySem.Env) (s : Shared) (H : Hp) (E : XK) (W : WX), Room k (A.deeper (envOfC qual (defScope st) s.heap.objs.size f cdv)) → A.guards = some [] →
      Takes (cxOf (L2.CX P w) P w K mg base N qual (defScope st) f cdv A outer s H E) W → DSs (cxOf (L2.CX P w) P w K mg base N qual (defScope st) f cdv A outer s H E) W (defBody st) b) : FnD P w K mg base (k + 1) f fd ps (mFun N.length b) := by
  obtain ⟨oc, od, kV, doc, pm, an, cdv, ct, osl, rfl, lk, hcd⟩ := Fn.ex
  refine ⟨fun A outer s H args us vs Q E hr hgd e0 hb r hsp => ?_⟩
  have hl := hsp.1
  have KX : K.In s.heap := e0.mod.kin.keeps fun b o e => (e0.bs b o e).1
  have lim : s.heap.NoLimit := e0.mod.nolimit.keeps fun b o e => (e0.bs b o e).1
  have hkind : ∀ y ∈ ps.zip us, (defScope st).names.lookup y.1 = some .local ∨ ((defScope st).names.lookup y.1 = some .cell ∧ ((cellsFrom (s.heap.objs.size + 1) (defScope st).names []).lookup y.1).isSome = true) := fun ⟨n, v⟩ hy => by
    rcases Sc.par n (List.of_mem_zip hy).1 with q | q
    · exact .inl q
    · exact .inr ⟨q, PySem.W.cellsFrom_some _ _ _ (.inl q)⟩
  refine codeAny_call_function hr.depth (KX _ _ lk) rfl Sc.co Sc.gen rfl (PySem.W.codeRec_of KX hcd) (hb _ _ _ _ ?_)
  refine wpAny_newFunctionEnv_cells Sc.kind hkind fun env he s1 x => ?_
  subst he
  refine ⟨lim.keeps x.toInCall.keep, codeAny_func ?_⟩
  have tk : Takes (cxOf (L2.CX P w) P w K mg base N qual (defScope st) f cdv A outer s H E) (fun cls d _ H' => E cls d H') := takes_of rfl rfl rfl rfl
  have ht := hbody cdv A outer s H E _ (hr.deeper _) hgd tk
  have I : Inv (cxOf (L2.CX P w) P w K mg base N qual (defScope st) f cdv A outer s H E) [] (start N vs) H s1 := inv_start Sc hr.hd e0 hl r x
  obtain ⟨_, ds, Pv, F, μ, S, rl, rp, fin⟩ := hsp
  refine wpAny_mono (ht.run [] s1 (start N vs) H { nx := fun _ H' => Q .non H', rt := Q } I (tDS.run (env_start rp) rl ?_)) (fun fl s' hs => ?_) fun e s' hs => hs
  · unfold mFun at fin
    cases q : b (start0 N.length ds) S with
    | stuck => rw [q] at fin; exact fin.elim
    | go fl ρ S' =>
      rw [q] at fin
      intro F' μ' H' g1 r1
      cases fl with
      | nx => exact fun σ _ => fin F' μ' H' .non g1 r1 (by simp only [Rep])
      | rt d => exact fun v p => fin F' μ' H' v g1 r1 p
      | ex e => exact fun σ cls dd _ p => fin F' μ' H' cls dd g1 r1 p
      | bk => exact fin.elim
      | ct => exact fin.elim
  · have fin : ∀ {σ' : L2.St} {H' : Hp} {v : V} {u : Value}, Inv (cxOf (L2.CX P w) P w K mg base N qual (defScope st) f cdv A outer s H E) [] σ' H' s' → RelV v u → Q v H' → CE outer P w H s Q u s' :=
      fun {σ' H' v u} J rv q => ⟨v, H', J.os, J.bare, J.base, J.hok, rv, q⟩
    cases fl with
    | ret u =>
      obtain ⟨v, σ', H', J, rv, q⟩ := hs
      exact fin J rv q
    | next =>
      obtain ⟨σ', H', J, q⟩ := hs
      exact fin (v := V.non) (u := Value.none) J rfl q
    | brk =>
      obtain ⟨_, _, _, q⟩ := hs
      exact False.elim q
    | cont =>
      obtain ⟨_, _, _, q⟩ := hs
      exact False.elim q

/-! ### calls -/
section
variable {X : Cx} {W : WX} {k : Nat} {f : Addr} {fd : FuncData} {ps : List Str} {m : List D → M D}
theorem run_fnD {pins : List (Addr × Obj)} {σ : L2.St} {H : Hp} {s : Shared} {Q : VK} {us : List Value} {vs : List V} (F : FnD X.prog X.w X.K X.mg X.base k f fd ps m) (hr : Room k X.A) (hg : X.A.guards = some []) (hb : Binds X.K fd ps []) (tk : Takes X W)
    (I : Inv X pins σ H s) (r : Vals vs us) (h : spD (gX X) ps.length m vs H Q (fun c d H' => W c d σ H')) : wpAny (model X.prog X.w) X.A (call (.ref f) us) (EP X pins σ Q) X.xe s := by
  have hl : us.length = ps.length := by rw [← r.length]; exact h.1
  have b := hb s us I.kIn (by rw [List.append_nil]; exact hl)
  rw [List.append_nil] at b
  refine wpAny_call (codeAny_mono (F.run X.A X.stack s H ⟨us, []⟩ us vs Q _ hr hg I.env0 b r h) fun r s' hq => ?_)
  cases r with
  | error e => exact passAt tk σ pins H s e s' I hq
  | ok fl =>
    cases fl with
    | ret u => exact I.after hq
    | next => exact False.elim hq
    | brk => exact False.elim hq
    | cont => exact False.elim hq
end
/-- the module's name x is a def of n parameters that does what m does -/
structure Cal (P : Program) (w : World) (K : PySem.W.Frag) (mg : Str → Option Value) (base : Heap) (k : Nat) (x : Str) (n : Nat) (m : List D → M D) : Prop where
  ex : ∃ f fd ps, mg x = some (.ref f) ∧ PySem.W.keepIn K (.ref f) = true ∧ Binds K fd ps [] ∧ FnD P w K mg base k f fd ps m ∧ ps.length = n
theorem Cal.mono {P : Program} {w : World} {K : PySem.W.Frag} {mg : Str → Option Value} {base : Heap} {j k n : Nat} {x : Str} {m : List D → M D} (c : Cal P w K mg base j x n m) (h : j ≤ k) : Cal P w K mg base k x n m := by
  obtain ⟨f, fd, ps, h1, h2, h3, h4, h5⟩ := c.ex
  exact ⟨f, fd, ps, h1, h2, h3, h4.mono h, h5⟩
def mCall (n : Nat) (m : List D → M D) (fa : AM) : EM := fun ρ S => (fa ρ S).bind fun ds S => if ds.length = n then m ds S else .stuck
section
variable {X : Cx} {W : WX} {k n : Nat} {x : Str} {m : List D → M D} {e : Expr} {es : List Expr} {fa : AM} {p pos : Pos}
theorem d_call (c : Cal X.prog X.w X.K X.mg X.base k x n m) (hr : Room k X.A) (hg : X.A.guards = some []) (tk : Takes X W) (ha : DA X W (e :: es) fa) (hgl : Gl X x := by rfl) (hdb : (x == ("__debug__" : Str)) = false := by decide)
    (he : starEach (e :: es) X.env = (false, eval e X.env) :: starEach es X.env := by rfl) (hpl : (backTo pos (starEach es X.env)).any (·.1) = false := by rfl) : DE X W (.Call (.Name x p) (e :: es) [] pos) (mCall n m fa) := by
  obtain ⟨f, fd, ps, hm, hk, hb, F, hn⟩ := c.ex
  refine ⟨fun pins s σ H Q I h => ?_⟩
  obtain ⟨P, ρ, Fz, μ, S, en, rl, h⟩ := h
  refine wpAny_Call_Name_kw (ld_glob I hgl hm ?_ hdb)
  refine PySem.W.callWith_K (h₀ := X.base) I.ok.mod.kin hk (thn (ha.run pos pins s σ H _ I (tDA.run en rl (Fin.imp (Fin.bind (rep := repA (gX X)) h) (fun vs H1 k1 => k1) fun _ _ _ z => z))) fun us s1 ⟨vs, H1, I1, r, q⟩ => ⟨I1.kIn, ?_⟩) he hpl
  obtain ⟨ds, F1, μ1, S1, g1, r1, p1, k1⟩ := q
  have hl : ds.length = n := by
    by_cases z : ds.length = n
    · exact z
    · rw [if_neg z] at k1; exact k1.elim
  rw [if_pos hl] at k1
  exact run_fnD F hr hg hb tk I1 r ⟨by rw [← p1.length, hl, hn], ds, P, F1, μ1, S1, r1, p1, k1⟩
end
end DL

/-! The data layer, 3: operators, comparisons. -/
namespace DL
open PySem PySem.Spec PyProof.Rows L2

theorem Rel.gr0 {g : G} {P F : Hp} {μ : List Addr} {S : Store} {H : Hp} (r : Rel g P F μ S H) : Gr F μ H μ := ⟨r.sub, fun _ _ h => h⟩
section
variable {g : G} {P F : Hp} {μ : List Addr} {S : Store} {H : Hp} {E : XK}
theorem rep_int {i : Int} : Rep g F μ (.int i) (.int i) := by simp only [Rep]
theorem rep_bl {i : Bool} : Rep g F μ (.bl i) (.bl i) := by simp only [Rep]
theorem rep_str {i : Str} : Rep g F μ (.str i) (.str i) := by simp only [Rep]
theorem rep_non : Rep g F μ .non .non := by simp only [Rep]
theorem Rep.int {i : Int} {v : V} (h : Rep g F μ (.int i) v) : v = .int i := by simpa only [Rep] using h
theorem Rep.bl {i : Bool} {v : V} (h : Rep g F μ (.bl i) v) : v = .bl i := by simpa only [Rep] using h
theorem Rep.str {i : Str} {v : V} (h : Rep g F μ (.str i) v) : v = .str i := by simpa only [Rep] using h
theorem Rep.non {v : V} (h : Rep g F μ .non v) : v = .non := by simpa only [Rep] using h
theorem Rep.tup (r : Rel g P F μ S H) {l : List D} {v : V} (h : Rep g F μ (.tup l) v) : ∃ a xs, v = .ref a ∧ SqT g.K H a xs ∧ Reps g F μ l xs := by
  simp only [Rep] at h
  obtain ⟨a, xs, e, ⟨h1, _⟩, h2⟩ := h
  exact ⟨a, xs, e, sqT_mono r.gr0 h1, h2⟩
theorem Rep.tupN (r : Rel g P F μ S H) {l : List D} {v : V} (h : Rep g F μ (.tup l) v) : ∃ a xs, v = .ref a ∧ (SqT g.K H a xs ∧ DN g H a) ∧ Reps g F μ l xs := by
  simp only [Rep] at h
  obtain ⟨a, xs, e, ⟨h1, h3⟩, h2⟩ := h
  exact ⟨a, xs, e, ⟨sqT_mono r.gr0 h1, dn_mono r.gr0 h3⟩, h2⟩
theorem Rep.wt (r : Rel g P F μ S H) {l : List D} {v : V} (h : Rep g F μ (.wt l) v) : ∃ a xs, v = .ref a ∧ SqT g.K H a xs ∧ Reps g F μ l xs := by
  simp only [Rep] at h
  obtain ⟨a, xs, e, h1, h2⟩ := h
  exact ⟨a, xs, e, sqT_mono r.gr0 h1, h2⟩
theorem Rep.lst (r : Rel g P F μ S H) {l : List D} {v : V} (h : Rep g F μ (.lst l) v) : ∃ a xs, v = .ref a ∧ SqL g.K H a xs ∧ Reps g F μ l xs := by
  simp only [Rep] at h
  obtain ⟨a, xs, e, h1, h2⟩ := h
  exact ⟨a, xs, e, sqL_mono r.gr0 h1, h2⟩
/-- a place that holds a list -/
theorem Rep.refL (r : Rel g P F μ S H) {n : Nat} {l : List D} {v : V} (h : Rep g F μ (.ref n) v) (e : S[n]? = some (.lst l)) : ∃ a xs, v = .ref a ∧ μ[n]? = some a ∧ H a = some (.lst xs) ∧ Reps g F μ l xs := by
  simp only [Rep] at h
  obtain ⟨p, h1, h2⟩ := h
  rcases r.live n _ p e h1 with ⟨z, _⟩ | ⟨u, f, hu, xs, hx, k⟩
  · cases z
  · subst hx
    exact ⟨p, xs, h2, h1, hu, k⟩
/-- a new tuple, a new list -/
theorem Fin.newT {l : List D} {xs : List V} {p : Addr} {Q : VK} (k : Fin (repD g) g P F μ (.ok (.tup l) S) Q E) (r : Rel g P F μ S H) (rp : Reps g F μ l xs) (hp : H p = none) {ob : Obj} (ho : ob.dict = none) : Q (.ref p) (upd H p (.frz ob (.tup xs))) := by
  obtain ⟨r1, g1⟩ := r.froz (o := .frz ob (.tup xs)) hp
  exact (k.gr g1).here r1 (by simp only [Rep]; exact ⟨p, xs, rfl, ⟨.inl (.inr ⟨_, upd_same⟩), ⟨ob, ho, .inl ⟨_, upd_same⟩⟩⟩, rp.mono g1⟩)
theorem Fin.newL {l : List D} {xs : List V} {p : Addr} {Q : VK} (k : Fin (repD g) g P F μ (.ok (.lst l) S) Q E) (r : Rel g P F μ S H) (rp : Reps g F μ l xs) (hp : H p = none) : Q (.ref p) (upd H p (.lst xs)) := by
  obtain ⟨r1, g1⟩ := r.froz (o := .lst xs) hp
  exact (k.gr g1).here r1 (by simp only [Rep]; exact ⟨p, xs, rfl, .inl (.inl upd_same), rp.mono g1⟩)
end

/-! ### what a list or tuple holds -/
/-- the items of a list (by value or at a place) -/
def lstOf (d : D) (S : Store) : Option (List D) := match d with
  | .lst l => some l
  | .ref n => match S[n]? with
    | some (.lst l) => some l
    | _ => none
  | _ => none
theorem lstOf_rep {g : G} {P F : Hp} {μ : List Addr} {S : Store} {H : Hp} (r : Rel g P F μ S H) {d : D} {l : List D} {v : V} (e : lstOf d S = some l) (h : Rep g F μ d v) : ∃ a xs, v = .ref a ∧ SqL g.K H a xs ∧ Reps g F μ l xs := by
  unfold lstOf at e
  split at e
  · cases e; exact h.lst r
  · split at e
    · cases e
      rename_i q
      obtain ⟨a, xs, h1, _, h2, h3⟩ := h.refL r q
      exact ⟨a, xs, h1, .of h2, h3⟩
    · cases e
  · cases e
def seqOf (d : D) (S : Store) : Option (List D) := match d with
  | .tup l => some l
  | .wt l => some l
  | d => lstOf d S
theorem seqOf_rep {g : G} {P F : Hp} {μ : List Addr} {S : Store} {H : Hp} (r : Rel g P F μ S H) {d : D} {l : List D} {v : V} (e : seqOf d S = some l) (h : Rep g F μ d v) : ∃ a xs, v = .ref a ∧ (SqL g.K H a xs ∨ SqT g.K H a xs) ∧ Reps g F μ l xs := by
  unfold seqOf at e
  split at e
  · cases e
    obtain ⟨a, xs, h1, h2, h3⟩ := h.tup r
    exact ⟨a, xs, h1, .inr h2, h3⟩
  · cases e
    obtain ⟨a, xs, h1, h2, h3⟩ := h.wt r
    exact ⟨a, xs, h1, .inr h2, h3⟩
  · obtain ⟨a, xs, h1, h2, h3⟩ := lstOf_rep r e h
    exact ⟨a, xs, h1, .inl h2, h3⟩
@[simp] theorem lstOf_lst (l : List D) (S : Store) : lstOf (.lst l) S = some l := rfl
@[simp] theorem seqOf_lst (l : List D) (S : Store) : seqOf (.lst l) S = some l := rfl
@[simp] theorem seqOf_tup (l : List D) (S : Store) : seqOf (.tup l) S = some l := rfl
@[simp] theorem seqOf_wt (l : List D) (S : Store) : seqOf (.wt l) S = some l := rfl
@[simp] theorem seqOf_ref (n : Nat) (S : Store) : seqOf (.ref n) S = lstOf (.ref n) S := rfl
theorem lstOf_ref {n : Nat} {S : Store} {l : List D} (h : S[n]? = some (.lst l)) : lstOf (.ref n) S = some l := by simp [lstOf, h]

/-! ### arithmetic -/
def b2 (b : Bool) : Int := if b then 1 else 0
def addD : D → D → M D
  | .int i, .int j, S => .ok (.int (i + j)) S
  | .int i, .bl j, S => .ok (.int (i + b2 j)) S
  | .str x, .str y, S => if x.length + y.length ≤ sizeLine then .ok (.str (x ++ y)) S else .stuck
  | .tup x, .tup y, S => if x.length + y.length ≤ sizeLine then .ok (.tup (x ++ y)) S else .stuck
  | x, y, S => match lstOf x S, lstOf y S with
    | some a, some b => if a.length + b.length ≤ sizeLine then .ok (.lst (a ++ b)) S else .stuck
    | _, _ => .stuck
def subD : D → D → M D
  | .int i, .int j, S => .ok (.int (i - j)) S
  | .bl i, .bl j, S => .ok (.int (b2 i - b2 j)) S
  | _, _, _ => .stuck
def mulD : D → D → M D
  | .int i, .int j, S => if i.natAbs.log2 + j.natAbs.log2 < 1000000 then .ok (.int (i * j)) S else .stuck
  | _, _, _ => .stuck
def fdivD : D → D → M D
  | .int i, .int j, S => if j ≠ 0 ∧ j.natAbs.log2 < 9000 then .ok (.int (i.fdiv j)) S else .stuck
  | _, _, _ => .stuck
def modD : D → D → M D
  | .int i, .int j, S => if j ≠ 0 then .ok (.int (i.fmod j)) S else .stuck
  | _, _, _ => .stuck
def powD : D → D → M D
  | .int i, .int j, S => if 0 ≤ j ∧ j ≤ 1000000 ∧ i.natAbs < 2 ^ 64 then .ok (.int (i ^ j.toNat)) S else .stuck
  | _, _, _ => .stuck
def negD : D → M D
  | .int i, S => .ok (.int (-i)) S
  | _, _ => .stuck
section
variable {X : Cx}
theorem op_catQ : OpR X (binaryOp .Add) (fun x y H Q => ∃ l b xs zs, x = .ref l ∧ y = .ref b ∧ SqL X.K H l xs ∧ SqL X.K H b zs ∧ xs.length + zs.length ≤ sizeLine ∧ ∀ p, H p = none → Q (.ref p) (upd H p (.lst (xs ++ zs)))) := by
  intro pins s σ H x y v u Q I rx ry h
  obtain ⟨l, b, xs, zs, rfl, rfl, hH, hB, hz, q⟩ := h
  cases rx
  cases ry
  obtain ⟨its, r, ⟨o, n, e, hc, hd, hs⟩, z⟩ := I.list hH
  obtain ⟨its2, r2, ⟨o2, n2, e2, hc2, hd2, hs2⟩, z2⟩ := I.list hB
  have l1 := r.length
  have l2 := r2.length
  obtain ⟨oc, od, oda, osl⟩ := o
  obtain ⟨oc2, od2, oda2, osl2⟩ := o2
  dsimp only at hc hd hs hc2 hd2 hs2
  subst hc hd hs hc2 hd2 hs2
  have ea : its.toArray ++ its2.toArray = (its ++ its2).toArray := by simp
  refine concat_meets ⟨_, e, rfl⟩ ⟨_, e2, rfl⟩ noFill_list_add seq_list_add PySem.F.slot_list_add PySem.F.entry_list_add (PySem.F.args_list_add_2 _ _) (list_addW l b its.toArray its2.toArray n n2 none none osl osl2 (by rw [List.size_toArray, List.size_toArray]; omega)) ⟨e, e2, ?_⟩
  rw [ea]
  exact ⟨.ref _, _, I.lnew (t' := s.toks) (r.append r2) (by rw [List.length_append]; omega), rfl, q _ I.fresh⟩
/-- () + t is t itself -/
theorem op_catT0 : OpR X (binaryOp .Add) (fun x y H Q => ∃ l b zs, x = .ref l ∧ y = .ref b ∧ SqT X.K H l [] ∧ SqT X.K H b zs ∧ Q (.ref b) H) := by
  intro pins s σ H x y v u Q I rx ry h
  obtain ⟨l, b, zs, rfl, rfl, hH, hB, q⟩ := h
  cases rx
  cases ry
  obtain ⟨its, r, ⟨o, e, hc, n, hs⟩, z⟩ := I.tuple hH
  obtain ⟨its2, r2, ⟨o2, e2, hc2, n2, hs2⟩, z2⟩ := I.tuple hB
  cases r
  obtain ⟨oc, od, oda, osl⟩ := o
  obtain ⟨oc2, od2, oda2, osl2⟩ := o2
  dsimp only at hc hs hc2 hs2
  subst hc hs hc2 hs2
  refine concat_meets ⟨_, e, rfl⟩ ⟨_, e2, rfl⟩ noFill_tuple_add seq_tuple_add PySem.F.slot_tuple_add PySem.F.entry_tuple_add (PySem.F.args_tuple_add_2 _ _) (tuple_addW0 l b #[] its2.toArray n n2 od od2 osl osl2 rfl) ⟨e, e2, ?_⟩
  exact ⟨.ref _, _, I.tok _, rfl, q⟩
/-- a new tuple, whose object is known -/
theorem tup_laid {pins : List (Addr × Obj)} {σ : L2.St} {H : Hp} {s : Shared} {t' : Nat} {xs : List V} {its : List Value} (I : Inv X pins σ H s) (r : Vals xs its) (z : xs.length ≤ sizeLine) :
    Inv X pins σ (upd H s.heap.objs.size (.frz { cls := .type "tuple", data := .seq its.toArray } (.tup xs))) { s with heap := s.heap.push { cls := .type "tuple", data := .seq its.toArray }, toks := t' } :=
  I.laid (fun _ _ e => Heap.get?_push_of_some _ e) (Nat.le_refl _) ⟨Heap.get?_push_size _ rfl, z, its, r, IsTup.new _ _⟩
theorem op_catN : OpR X (binaryOp .Add) (fun x y H Q => ∃ a b xs ys, x = .ref a ∧ y = .ref b ∧ SqT X.K H a xs ∧ SqT X.K H b ys ∧ xs ≠ [] ∧ xs.length + ys.length ≤ sizeLine ∧ (ys = [] → Q (.ref a) H) ∧ ∀ (p : Addr) (ob : Obj), H p = none → ob.dict = none → Q (.ref p) (upd H p (.frz ob (.tup (xs ++ ys))))) := by
  intro pins s σ H x y v u Q I rx ry ⟨a, b, xs, ys, e1, e2, ha, hb, hx, hz, q1, q2⟩
  subst e1 e2
  cases rx
  cases ry
  obtain ⟨its, r1, p1, _⟩ := I.tuple ha
  obtain ⟨its2, r2, p2, _⟩ := I.tuple hb
  exact HT.cat_tup p1 p2 (fun z => hx (r1.nil_iff.mp z)) (fun z => ⟨.ref a, H, I, rfl, q1 (r2.nil_iff.mp z)⟩)
    (fun _ => ⟨.ref s.heap.objs.size, _, tup_laid (t' := s.toks) I (r1.append r2) (by simpa using hz), rfl, q2 _ _ (I.hok.fresh (Nat.le_refl _)) rfl⟩) (by rw [← r1.length, ← r2.length]; exact hz)
theorem od_sub : OpD X (binaryOp .Sub) subD := by
  intro pins s σ H v w u u' Q I rv rw h
  obtain ⟨x, y, P, F, μ, S, E, rl, rx, ry, k⟩ := h
  unfold subD at k
  split at k
  · exact op_sub pins s σ H _ _ _ _ Q I rv rw ⟨_, _, rx.int, ry.int, k.here rl rep_int⟩
  · have e1 := rx.bl
    have e2 := ry.bl
    subst e1 e2
    cases rv
    cases rw
    exact sub_bool ⟨.int _, H, I.tok _, ⟨_, rfl⟩, k.here rl rep_int⟩
  · exact k.elim
theorem od_mul : OpD X (binaryOp .Mult) mulD := by
  intro pins s σ H v w u u' Q I rv rw h
  obtain ⟨x, y, P, F, μ, S, E, rl, rx, ry, k⟩ := h
  unfold mulD at k
  split at k
  · split at k
    · rename_i hc
      exact op_mulW pins s σ H _ _ _ _ Q I rv rw ⟨_, _, rx.int, ry.int, hc, k.here rl rep_int⟩
    · exact k.elim
  · exact k.elim
theorem op_fdivX : OpR X (binaryOp .FloorDiv) (rI (fun _ j => j ≠ 0 ∧ j.natAbs.log2 < 9000) fun i j => .int (i.fdiv j)) := opI fun i j _ _ _ _ _ hc q => floordiv_int hc.1 q (.inl (PyProof.noPylong_of_log2 hc.2))
theorem od_fdiv : OpD X (binaryOp .FloorDiv) fdivD := by
  intro pins s σ H v w u u' Q I rv rw h
  obtain ⟨x, y, P, F, μ, S, E, rl, rx, ry, k⟩ := h
  unfold fdivD at k
  split at k
  · split at k
    · rename_i hc
      exact op_fdivX pins s σ H _ _ _ _ Q I rv rw ⟨_, _, rx.int, ry.int, hc, k.here rl rep_int⟩
    · exact k.elim
  · exact k.elim
theorem od_mod : OpD X (binaryOp .Mod) modD := by
  intro pins s σ H v w u u' Q I rv rw h
  obtain ⟨x, y, P, F, μ, S, E, rl, rx, ry, k⟩ := h
  unfold modD at k
  split at k
  · split at k
    · rename_i hc
      exact op_modN pins s σ H _ _ _ _ Q I rv rw ⟨_, _, rx.int, ry.int, hc, k.here rl rep_int⟩
    · exact k.elim
  · exact k.elim
theorem od_pow : OpD X (binaryOp .Pow) powD := by
  intro pins s σ H v w u u' Q I rv rw h
  obtain ⟨x, y, P, F, μ, S, E, rl, rx, ry, k⟩ := h
  unfold powD at k
  split at k
  · split at k
    · rename_i hc
      exact op_pow pins s σ H _ _ _ _ Q I rv rw ⟨_, _, rx.int, ry.int, hc, k.here rl rep_int⟩
    · exact k.elim
  · exact k.elim
theorem ud_neg : UnD X (unaryOp .USub) negD := by
  intro pins s σ H v u Q I rv h
  obtain ⟨x, P, F, μ, S, E, rl, rx, k⟩ := h
  unfold negD at k
  split at k
  · exact un_neg pins s σ H _ _ Q I rv ⟨_, rx.int, k.here rl rep_int⟩
  · exact k.elim
theorem od_add : OpD X (binaryOp .Add) addD := by
  intro pins s σ H v w u u' Q I rv rw h
  obtain ⟨x, y, P, F, μ, S, E, rl, rx, ry, k⟩ := h
  unfold addD at k
  split at k
  · exact op_add pins s σ H _ _ _ _ Q I rv rw ⟨_, _, rx.int, ry.int, k.here rl rep_int⟩
  · exact op_add_ib pins s σ H _ _ _ _ Q I rv rw ⟨_, _, rx.int, ry.bl, k.here rl rep_int⟩
  · split at k
    · rename_i hc
      exact op_add_str pins s σ H _ _ _ _ Q I rv rw ⟨_, _, rx.str, ry.str, hc, k.here rl rep_str⟩
    · exact k.elim
  · split at k
    · rename_i hc
      obtain ⟨a, xs, e1, h1, p1⟩ := rx.tup rl
      obtain ⟨b, ys, e2, h2, p2⟩ := ry.tup rl
      have l1 := p1.length
      have l2 := p2.length
      by_cases hx : xs = []
      · subst hx
        rename_i x' y'
        have ex : x' = [] := List.eq_nil_of_length_eq_zero l1
        subst ex
        exact op_catT0 pins s σ H _ _ _ _ Q I rv rw ⟨a, b, ys, e1, e2, h1, h2, k.here rl (by rw [List.nil_append, ← e2]; exact ry)⟩
      · refine op_catN pins s σ H _ _ _ _ Q I rv rw ⟨a, b, xs, ys, e1, e2, h1, h2, hx, by omega, fun hy => ?_, fun p ob hp ho => k.newT rl (p1.append p2) hp ho⟩
        subst hy
        rename_i x' y'
        have ey : y' = [] := List.eq_nil_of_length_eq_zero l2
        subst ey
        exact k.here rl (by rw [List.append_nil, ← e1]; exact rx)
    · exact k.elim
  · split at k
    · rename_i a b ea eb
      split at k
      · rename_i hc
        obtain ⟨a', xs, e1, h1, p1⟩ := lstOf_rep rl ea rx
        obtain ⟨b', ys, e2, h2, p2⟩ := lstOf_rep rl eb ry
        have l1 := p1.length
        have l2 := p2.length
        exact op_catQ pins s σ H _ _ _ _ Q I rv rw ⟨a', b', xs, ys, e1, e2, h1, h2, by omega, fun p hp => k.newL rl (p1.append p2) hp⟩
      · exact k.elim
    · exact k.elim
end

/-! ### comparisons of ints -/
def cmpD (p : Int → Int → Bool) : D → D → M D
  | .int i, .int j, S => .ok (.bl (p i j)) S
  | _, _, _ => .stuck
abbrev ltD : D → D → M D := cmpD fun i j => decide (i < j)
abbrev leD : D → D → M D := cmpD fun i j => decide (i ≤ j)
abbrev gtD : D → D → M D := cmpD fun i j => decide (j < i)
abbrev geD : D → D → M D := cmpD fun i j => decide (j ≤ i)
section
variable {X : Cx}
theorem od_cmp {op : CmpOp} {p : Int → Int → Bool} (h0 : OpR X (compareOp op) (rI0 fun i j => .bl (p i j))) : OpD X (compareOp op) (cmpD p) := by
  intro pins s σ H v w u u' Q I rv rw h
  obtain ⟨x, y, P, F, μ, S, E, rl, rx, ry, k⟩ := h
  unfold cmpD at k
  split at k
  · exact h0 pins s σ H _ _ _ _ Q I rv rw ⟨_, _, rx.int, ry.int, k.here rl rep_bl⟩
  · exact k.elim
theorem od_lt : OpD X (compareOp .Lt) ltD := od_cmp op_lt
theorem od_le : OpD X (compareOp .LtE) leD := od_cmp op_le
theorem od_gt : OpD X (compareOp .Gt) gtD := od_cmp op_gt
theorem od_ge : OpD X (compareOp .GtE) geD := od_cmp op_ge
end

/-! ### equality of data -/
mutual
def toPy : D → PyData
  | .non => .none
  | .bl b => .bool b
  | .int i => .int i
  | .str x => .str x
  | .tup l => .tuple (toPys l)
  | .lst l => .list (toPys l)
  | _ => .none
def toPys : List D → List PyData
  | [] => []
  | d :: ds => toPy d :: toPys ds
end
mutual
/-- plain data, nested less than n deep -/
def plain : Nat → D → Bool
  | _, .non => true
  | _, .bl _ => true
  | _, .int _ => true
  | _, .str x => PyData.strOk x
  | 0, .tup _ => false
  | n + 1, .tup l => plains n l
  | 0, .lst _ => false
  | n + 1, .lst l => plains n l
  | _, _ => false
def plains : Nat → List D → Bool
  | _, [] => true
  | n, d :: ds => plain n d && plains n ds
end
mutual
def eqB : D → D → Bool
  | .non, .non => true
  | .bl a, .bl b => a == b
  | .bl a, .int j => b2 a == j
  | .int i, .bl b => i == b2 b
  | .int i, .int j => i == j
  | .str x, .str y => x == y
  | .tup l, .tup k => eqBs l k
  | .lst l, .lst k => eqBs l k
  | _, _ => false
def eqBs : List D → List D → Bool
  | [], [] => true
  | x :: xs, y :: ys => eqB x y && eqBs xs ys
  | _, _ => false
end
mutual
theorem plain_lay : ∀ (n : Nat) (d : D), plain n d = true → (toPy d).canLay0 = true ∧ (toPy d).depth ≤ n
  | n, .non, _ => ⟨rfl, Nat.zero_le _⟩
  | n, .bl _, _ => ⟨rfl, Nat.zero_le _⟩
  | n, .int _, _ => ⟨rfl, Nat.zero_le _⟩
  | n, .str x, h => ⟨by simpa [plain, toPy, PyData.canLay0] using h, Nat.zero_le _⟩
  | 0, .tup _, h => by simp [plain] at h
  | n + 1, .tup l, h => by
    simp only [plain] at h
    obtain ⟨h1, h2⟩ := plains_lay n l h
    exact ⟨by simpa [toPy, PyData.canLay0] using h1, by simp [toPy, PyData.depth]; exact h2⟩
  | 0, .lst _, h => by simp [plain] at h
  | n + 1, .lst l, h => by
    simp only [plain] at h
    obtain ⟨h1, h2⟩ := plains_lay n l h
    exact ⟨by simpa [toPy, PyData.canLay0] using h1, by simp [toPy, PyData.depth]; exact h2⟩
  | _, .obj .., h => by simp [plain] at h
  | _, .exc .., h => by simp [plain] at h
  | _, .ref .., h => by simp [plain] at h
theorem plains_lay : ∀ (n : Nat) (ds : List D), plains n ds = true → PyData.canLayAll0 (toPys ds) = true ∧ PyData.depthAll (toPys ds) ≤ n
  | n, [], _ => ⟨rfl, Nat.zero_le _⟩
  | n, d :: ds, h => by
    simp only [plains, Bool.and_eq_true] at h
    obtain ⟨h1, h2⟩ := plain_lay n d h.1
    obtain ⟨h3, h4⟩ := plains_lay n ds h.2
    exact ⟨by simp [toPys, PyData.canLayAll0, h1, h3], by simp only [toPys, PyData.depthAll]; omega⟩
end
theorem plain_shaped {d : D} (h : plain 64 d = true) : SeqAt.shaped (toPy d) = true := by
  obtain ⟨h1, h2⟩ := plain_lay 64 d h
  unfold SeqAt.shaped
  simp [h1, h2]
mutual
theorem plain_dp {g : G} {P F : Hp} {μ : List Addr} {S : Store} {H : Hp} (r : Rel g P F μ S H) : ∀ (n : Nat) (d : D) {v : V}, plain n d = true → Rep g F μ d v → Dp g.K H v (toPy d)
  | _, .non, _, _, h => by rw [h.non]; exact .non
  | _, .bl b, _, _, h => by rw [h.bl]; exact .bl b
  | _, .int b, _, _, h => by rw [h.int]; exact .int b
  | _, .str b, _, _, h => by rw [h.str]; exact .str b
  | 0, .tup _, _, h, _ => by simp [plain] at h
  | n + 1, .tup l, _, h, k => by
    simp only [plain] at h
    obtain ⟨a, xs, rfl, hs, hr⟩ := k.tup r
    simp only [toPy]
    exact .tup hs (plains_dp r n l h hr)
  | 0, .lst _, _, h, _ => by simp [plain] at h
  | n + 1, .lst l, _, h, k => by
    simp only [plain] at h
    obtain ⟨a, xs, rfl, hs, hr⟩ := k.lst r
    simp only [toPy]
    exact .lst hs (plains_dp r n l h hr)
  | _, .obj .., _, h, _ => by simp [plain] at h
  | _, .exc .., _, h, _ => by simp [plain] at h
  | _, .ref .., _, h, _ => by simp [plain] at h
theorem plains_dp {g : G} {P F : Hp} {μ : List Addr} {S : Store} {H : Hp} (r : Rel g P F μ S H) : ∀ (n : Nat) (ds : List D) {vs : List V}, plains n ds = true → Reps g F μ ds vs → DpAll g.K H vs (toPys ds)
  | _, [], _, _, k => by simp only [Reps] at k; subst k; exact .nil
  | n, d :: ds, _, h, k => by
    simp only [plains, Bool.and_eq_true] at h
    simp only [Reps] at k
    obtain ⟨v, vs, rfl, k1, k2⟩ := k
    exact .cons (plain_dp r n d h.1 k1) (plains_dp r n ds h.2 k2)
end
mutual
theorem eqv_eqB : ∀ (n m : Nat) (x y : D), plain n x = true → plain m y = true → PyData.eqv (toPy x) (toPy y) = eqB x y
  | n, m, x, y, hx, hy => by
    cases x <;> cases y <;> first
      | (simp [plain] at hx; done)
      | (simp [plain] at hy; done)
      | (simp [toPy, PyData.eqv, eqB, b2]; done)
      | skip
    · rename_i l k
      cases n with
      | zero => simp [plain] at hx
      | succ n =>
        cases m with
        | zero => simp [plain] at hy
        | succ m =>
          simp only [plain] at hx hy
          simp only [toPy, PyData.eqv, eqB]
          exact eqv_eqBs n m l k hx hy
    · rename_i l k
      cases n with
      | zero => simp [plain] at hx
      | succ n =>
        cases m with
        | zero => simp [plain] at hy
        | succ m =>
          simp only [plain] at hx hy
          simp only [toPy, PyData.eqv, eqB]
          exact eqv_eqBs n m l k hx hy
theorem eqv_eqBs : ∀ (n m : Nat) (xs ys : List D), plains n xs = true → plains m ys = true → PyData.eqvAll (toPys xs) (toPys ys) = eqBs xs ys
  | n, m, [], [], _, _ => by simp [toPys, PyData.eqvAll, eqBs]
  | n, m, [], _ :: _, _, _ => by simp [toPys, PyData.eqvAll, eqBs]
  | n, m, _ :: _, [], _, _ => by simp [toPys, PyData.eqvAll, eqBs]
  | n, m, x :: xs, y :: ys, hx, hy => by
    simp only [plains, Bool.and_eq_true] at hx hy
    simp only [toPys, PyData.eqvAll, eqBs, eqv_eqB n m x y hx.1 hy.1, eqv_eqBs n m xs ys hx.2 hy.2]
end
end DL

/-! The data layer, 4: displays, == and in, places, slices, built-ins. -/
namespace DL
open PySem PySem.Spec PyProof.Rows L2

/-! ### displays -/
def mTup (fa : AM) : EM := fun ρ S => (fa ρ S).bind fun l S => if l.length ≤ sizeLine then .ok (.tup l) S else .stuck
def mLst (fa : AM) : EM := fun ρ S => (fa ρ S).bind fun l S => if l.length ≤ sizeLine then .ok (.lst l) S else .stuck
/-- a list that will change: a place of the store -/
def mNew (fa : AM) : EM := fun ρ S => (fa ρ S).bind fun l S => if l.length ≤ sizeLine then .ok (.ref S.length) (S ++ [.lst l]) else .stuck
/-- the list at a place will not change any more -/
def frzD : D → M D
  | .ref n, S => match S[n]? with
    | some (.lst l) => .ok (.lst l) (S.set n .dead)
    | some (.ins c ns ds) => .ok (.obj c ns ds) (S.set n .dead)
    | _ => .stuck
  | _, _ => .stuck
def mFrz (f : EM) : EM := fun ρ S => (f ρ S).bind frzD
section
variable {X : Cx} {W : WX} {es : List Expr} {fa : AM} {pos : Pos} {e : Expr} {fe : EM}
theorem pe_tupN {t : TA} {x1} (h : PA X es t) : PE X (.Tuple es x1 pos) (fun σ H Q => t σ H fun xs H1 => xs.length ≤ sizeLine ∧ ∀ (p : Addr) (ob : Obj), H1 p = none → ob.dict = none → Q (.ref p) (upd H1 p (.frz ob (.tup xs)))) :=
  ⟨fun pins s σ H Q I hq => wpAny_Tuple_spliced (thn (h.run pos pins s σ H _ I hq) fun us s1 ⟨xs, H1, I1, r, z, q⟩ =>
    ⟨by rw [← r.length]; exact z, .ref s1.heap.objs.size, _, tup_laid (t' := s1.toks) I1 r z, rfl, q _ _ (I1.hok.fresh (Nat.le_refl _)) rfl⟩)⟩
theorem d_tup {x1} (h : DA X W es fa) : DE X W (.Tuple es x1 pos) (mTup fa) := by
  refine PE.weak (pe_tupN h) fun σ H Q ⟨P, ρ, F, μ, S, en, rl, k⟩ => ?_
  refine tDA.run en rl (Fin.imp (Fin.bind (rep := repA (gX X)) k) (fun vs H1 ⟨a, F1, μ1, S1, g1, r1, p1, k1⟩ => ?_) fun _ _ _ z => z)
  split at k1
  · rename_i hl
    exact ⟨by rw [← p1.length]; exact hl, fun p ob hp ho => k1.newT r1 p1 hp ho⟩
  · exact k1.elim
theorem d_lst (h : DA X W es fa) : DE X W (.List es pos) (mLst fa) := by
  refine PE.weak (pe_lst h) fun σ H Q ⟨P, ρ, F, μ, S, en, rl, k⟩ => ?_
  refine tDA.run en rl (Fin.imp (Fin.bind (rep := repA (gX X)) k) (fun vs H1 ⟨a, F1, μ1, S1, g1, r1, p1, k1⟩ => ?_) fun _ _ _ z => z)
  split at k1
  · rename_i hl
    exact ⟨by rw [← p1.length]; exact hl, fun p hp => k1.newL r1 p1 hp⟩
  · exact k1.elim
theorem Fin.newR {g : G} {P F : Hp} {μ : List Addr} {S : Store} {H : Hp} {E : XK} {l : List D} {xs : List V} {p : Addr} {Q : VK} (k : Fin (repD g) g P F μ (.ok (.ref S.length) (S ++ [.lst l])) Q E) (r : Rel g P F μ S H) (rp : Reps g F μ l xs) (hp : H p = none) : Q (.ref p) (upd H p (.lst xs)) := by
  have g0 : Gr F μ F (μ ++ [p]) := ⟨fun _ _ h => h, fun n q h => by
    have : n < μ.length := (List.getElem?_eq_some_iff.mp h).1
    rw [List.getElem?_append_left this]; exact h⟩
  obtain ⟨r1, g1, e1⟩ := r.push (u := .lst xs) (o := .lst l) hp ⟨xs, rfl, rp.mono g0⟩
  exact (k.gr g1).here r1 (by simp only [Rep]; exact ⟨p, e1, rfl⟩)
theorem d_new (h : DA X W es fa) : DE X W (.List es pos) (mNew fa) := by
  refine PE.weak (pe_lst h) fun σ H Q ⟨P, ρ, F, μ, S, en, rl, k⟩ => ?_
  refine tDA.run en rl (Fin.imp (Fin.bind (rep := repA (gX X)) k) (fun vs H1 ⟨a, F1, μ1, S1, g1, r1, p1, k1⟩ => ?_) fun _ _ _ z => z)
  split at k1
  · rename_i hl
    exact ⟨by rw [← p1.length]; exact hl, fun p hp => k1.newR r1 p1 hp⟩
  · exact k1.elim
theorem frz_fin {g : G} {P F : Hp} {μ : List Addr} {S : Store} {H : Hp} {E : XK} {d : D} {v : V} {Q : VK} (k : Fin (repD g) g P F μ (frzD d S) Q E) (r : Rel g P F μ S H) (p : Rep g F μ d v) : Q v H := by
  unfold frzD at k
  split at k
  · rename_i n
    simp only [Rep] at p
    obtain ⟨a, h1, rfl⟩ := p
    split at k
    · rename_i l q
      rcases r.live n _ a q h1 with ⟨z, _⟩ | ⟨u, hF, hu, _⟩
      · cases z
      · obtain ⟨r2, g2, xs, e2, p2⟩ := r.freeze q (by intro z; cases z) h1 hu
        subst e2
        exact (k.gr g2).here r2 (by simp only [Rep]; exact ⟨a, xs, rfl, .inl (.inl upd_same), p2.mono g2⟩)
    · rename_i c ns ds q
      rcases r.live n _ a q h1 with ⟨z, _⟩ | ⟨u, hF, hu, _⟩
      · cases z
      · obtain ⟨r2, g2, C, dx, xs, e0, e2, p2, hl⟩ := r.freeze q (by intro z; cases z) h1 hu
        subst e2
        exact (k.gr g2).here r2 (by simp only [Rep]; exact ⟨a, C, dx, xs, rfl, e0, upd_same, p2.mono g2, hl⟩)
    · exact k.elim
  · exact k.elim
theorem d_frz (h : DE X W e fe) : DE X W e (mFrz fe) := by
  refine PE.weak h fun σ H Q ⟨P, ρ, F, μ, S, en, rl, k⟩ => ?_
  exact tD.run en rl (Fin.imp (Fin.bind (rep := repD (gX X)) k) (fun vs H1 ⟨a, F1, μ1, S1, g1, r1, p1, k1⟩ => frz_fin k1 r1 p1) fun _ _ _ z => z)
end

/-! ### == != -/
/-- a list at a place, as the list that it is now -/
def derD (d : D) (S : Store) : D := match d with
  | .ref n => match S[n]? with
    | some (.lst l) => .lst l
    | _ => .ref n
  | d => d
theorem derD_ref {n : Nat} {S : Store} {l : List D} (q : S[n]? = some (.lst l)) : derD (.ref n) S = .lst l := by simp [derD, q]
theorem der_dp {g : G} {P F : Hp} {μ : List Addr} {S : Store} {H : Hp} (r : Rel g P F μ S H) {d : D} {v : V} (h : plain 64 (derD d S) = true) (p : Rep g F μ d v) : Dp g.K H v (toPy (derD d S)) := by
  cases d with
  | ref n =>
    cases q : S[n]? with
    | none => simp [derD, q, plain] at h
    | some o =>
      cases o with
      | lst l =>
        rw [derD_ref q] at h ⊢
        obtain ⟨a, xs, rfl, _, h2, h3⟩ := p.refL r q
        simp only [plain] at h
        simp only [toPy]
        exact .lst (.of h2) (plains_dp r 63 l h h3)
      | ins _ _ _ => simp [derD, q, plain] at h
      | dct _ _ => simp [derD, q, plain] at h
      | dead => simp [derD, q, plain] at h
  | non => exact plain_dp r 64 _ h p
  | bl _ => exact plain_dp r 64 _ h p
  | int _ => exact plain_dp r 64 _ h p
  | str _ => exact plain_dp r 64 _ h p
  | tup _ => exact plain_dp r 64 _ h p
  | lst _ => exact plain_dp r 64 _ h p
  | obj _ _ _ => simp [derD, plain] at h
  | exc _ _ _ => simp [derD, plain] at h
  | wt _ => simp [derD, plain] at h
@[simp] theorem derD_tup (l : List D) (S : Store) : derD (.tup l) S = .tup l := rfl
@[simp] theorem derD_lst (l : List D) (S : Store) : derD (.lst l) S = .lst l := rfl
@[simp] theorem derD_int (i : Int) (S : Store) : derD (.int i) S = .int i := rfl
@[simp] theorem derD_str (i : Str) (S : Store) : derD (.str i) S = .str i := rfl
@[simp] theorem derD_bl (i : Bool) (S : Store) : derD (.bl i) S = .bl i := rfl
@[simp] theorem derD_non (S : Store) : derD .non S = .non := rfl
def eqD (x y : D) : M D := fun S => match x, y with
  | .str a, .str b => .ok (.bl (a == b)) S
  | x, y => if plain 64 (derD x S) && plain 64 (derD y S) then .ok (.bl (eqB (derD x S) (derD y S))) S else .stuck
def neD (x y : D) : M D := fun S => match x, y with
  | .str a, .str b => .ok (.bl (!(a == b))) S
  | x, y => if plain 64 (derD x S) && plain 64 (derD y S) then .ok (.bl (!eqB (derD x S) (derD y S))) S else .stuck
/-- x in y -/
def inB (x : D) (l : List D) : Bool := l.any fun z => eqB z x
def oneOf (x : Str) : Option Nat := match x.cps.toList with
  | [c] => some c
  | _ => none
theorem oneOf_eq {x : Str} {c : Nat} (h : oneOf x = some c) : x = ⟨#[c]⟩ := by
  unfold oneOf at h
  split at h
  · rename_i c' q
    cases h
    obtain ⟨a⟩ := x
    simp only at q
    have : a = #[c] := by rw [← Array.toList_inj, q]
    rw [this]
  · cases h
def inD (x y : D) : M D := fun S => match seqOf y S with
  | some l => if plain 64 (derD x S) && plains 63 l then .ok (.bl (inB (derD x S) l)) S else .stuck
  | none => match x, y with
    | .str x, .str y => match oneOf x with
      | some c => .ok (.bl (decide (c ∈ y.cps.toList))) S
      | none => .stuck
    | _, _ => .stuck
def niD (x y : D) : M D := fun S => (inD x y S).bind fun d S => match d with
  | .bl b => .ok (.bl (!b)) S
  | _ => .stuck
theorem eqv_any {x : D} : ∀ {l : List D}, plain 64 x = true → plains 63 l = true → ((toPys l).any fun z => PyData.eqv z (toPy x)) = inB x l
  | [], _, _ => by simp [toPys, inB]
  | y :: l, hx, h => by
    simp only [plains, Bool.and_eq_true] at h
    have ih := eqv_any (l := l) hx h.2
    simp only [inB] at ih ⊢
    simp only [toPys, List.any_cons, ih, eqv_eqB 63 64 y x h.1 hx]
theorem plains_shaped {l : List D} (h : plains 63 l = true) : SeqAt.shaped (.list (toPys l)) = true ∧ SeqAt.shaped (.tuple (toPys l)) = true := by
  have a := plain_shaped (d := .lst l) (by simpa [plain] using h)
  have b := plain_shaped (d := .tup l) (by simpa [plain] using h)
  simp only [toPy] at a b
  exact ⟨a, b⟩
section
variable {X : Cx}
theorem od_eq (hu : X.A.units + 64 < cLine) : OpD X (compareOp .Eq) eqD := by
  intro pins s σ H v w u u' Q I rv rw h
  obtain ⟨x, y, P, F, μ, S, E, rl, rx, ry, k⟩ := h
  unfold eqD at k
  split at k
  · exact op_eq pins s σ H _ _ _ _ Q I rv rw ⟨by rw [rx.str, ry.str]; rfl, by rw [rx.str, ry.str, dec_str]; exact k.here rl rep_bl⟩
  split at k
  · rename_i hp
    simp only [Bool.and_eq_true] at hp
    refine op_eqD hu pins s σ H _ _ _ _ Q I rv rw ⟨_, _, der_dp rl hp.1 rx, der_dp rl hp.2 ry, plain_shaped hp.1, plain_shaped hp.2, ?_⟩
    rw [eqv_eqB 64 64 _ _ hp.1 hp.2]
    exact k.here rl rep_bl
  · exact k.elim
theorem od_ne (hu : X.A.units + 64 < cLine) : OpD X (compareOp .NotEq) neD := by
  intro pins s σ H v w u u' Q I rv rw h
  obtain ⟨x, y, P, F, μ, S, E, rl, rx, ry, k⟩ := h
  unfold neD at k
  split at k
  · exact op_ne pins s σ H _ _ _ _ Q I rv rw ⟨by rw [rx.str, ry.str]; rfl, by rw [rx.str, ry.str, dec_str]; exact k.here rl rep_bl⟩
  split at k
  · rename_i hp
    simp only [Bool.and_eq_true] at hp
    refine op_neD hu pins s σ H _ _ _ _ Q I rv rw ⟨_, _, der_dp rl hp.1 rx, der_dp rl hp.2 ry, plain_shaped hp.1, plain_shaped hp.2, ?_⟩
    rw [eqv_eqB 64 64 _ _ hp.1 hp.2]
    exact k.here rl rep_bl
  · exact k.elim
def isNon : D → Bool
  | .non => true
  | _ => false
def isND (x y : D) : M D := fun S => if isNon y then .ok (.bl (isNon x)) S else .stuck
def notND (x y : D) : M D := fun S => if isNon y then .ok (.bl (!isNon x)) S else .stuck
theorem rep_ref {g : G} {F : Hp} {μ : List Addr} {d : D} {v : V} (h : Rep g F μ d v) : decide (v = .non) = isNon d := by
  cases d <;> simp only [Rep] at h <;> first
    | (subst h; rfl)
    | (obtain ⟨a, _, rfl, _⟩ := h; rfl)
    | (obtain ⟨a, _, _, _, rfl, _⟩ := h; rfl)
    | (obtain ⟨a, _, rfl⟩ := h; rfl)
theorem isNon_rep {g : G} {F : Hp} {μ : List Addr} {d : D} {v : V} (h : Rep g F μ d v) (e : isNon d = true) : v = .non := by
  rw [← rep_ref h] at e
  exact of_decide_eq_true e
theorem od_isN : OpD X (compareOp .Is) isND := by
  intro pins s σ H v w u u' Q I rv rw h
  obtain ⟨x, y, P, F, μ, S, E, rl, rx, ry, k⟩ := h
  unfold isND at k
  split at k
  · rename_i e
    refine op_isN pins s σ H _ _ _ _ Q I rv rw ⟨isNon_rep ry e, ?_⟩
    rw [rep_ref rx]
    exact k.here rl rep_bl
  · exact k.elim
theorem od_notN : OpD X (compareOp .IsNot) notND := by
  intro pins s σ H v w u u' Q I rv rw h
  obtain ⟨x, y, P, F, μ, S, E, rl, rx, ry, k⟩ := h
  unfold notND at k
  split at k
  · rename_i e
    refine op_notN pins s σ H _ _ _ _ Q I rv rw ⟨isNon_rep ry e, ?_⟩
    rw [rep_ref rx]
    exact k.here rl rep_bl
  · exact k.elim
/-- in over a list; over a tuple -/
theorem op_inTD (hu : X.A.units + 65 < cLine) : OpR X (compareOp .In) (fun x y H Q => ∃ d ds, Dp X.K H x d ∧ Dp X.K H y (.tuple ds) ∧ SeqAt.shaped d = true ∧ SeqAt.shaped (.tuple ds) = true ∧ Q (.bl (ds.any fun z => PyData.eqv z d)) H) := by
  intro pins s σ H x y v u Q I rx ry h
  obtain ⟨d, ds, hd, he, sd, se, q⟩ := h
  obtain ⟨as, r1⟩ := Dp.reads I d x v hd rx
  obtain ⟨bs, r2⟩ := Dp.reads I (.tuple ds) y u he ry
  exact SeqAt.in_tuple_reads r2 r1 (SeqAt.canLay_of_shaped se) (SeqAt.canLay_of_shaped sd) (by have := SeqAt.depth_of_shaped sd; omega) ⟨.bl _, H, I, rfl, q⟩
theorem op_niTD (hu : X.A.units + 65 < cLine) : OpR X (compareOp .NotIn) (fun x y H Q => ∃ d ds, Dp X.K H x d ∧ Dp X.K H y (.tuple ds) ∧ SeqAt.shaped d = true ∧ SeqAt.shaped (.tuple ds) = true ∧ Q (.bl (!ds.any fun z => PyData.eqv z d)) H) := by
  intro pins s σ H x y v u Q I rx ry h
  obtain ⟨d, ds, hd, he, sd, se, q⟩ := h
  obtain ⟨as, r1⟩ := Dp.reads I d x v hd rx
  obtain ⟨bs, r2⟩ := Dp.reads I (.tuple ds) y u he ry
  exact SeqAt.notIn_tuple_reads r2 r1 (SeqAt.canLay_of_shaped se) (SeqAt.canLay_of_shaped sd) (by have := SeqAt.depth_of_shaped sd; omega) ⟨.bl _, H, I, rfl, q⟩
theorem seq_dp {g : G} {P F : Hp} {μ : List Addr} {S : Store} {H : Hp} (r : Rel g P F μ S H) {d : D} {l : List D} {v : V} (e : seqOf d S = some l) (h : plains 63 l = true) (p : Rep g F μ d v) :
    Dp g.K H v (.list (toPys l)) ∨ Dp g.K H v (.tuple (toPys l)) := by
  obtain ⟨a, xs, rfl, hs, hr⟩ := seqOf_rep r e p
  rcases hs with hs | hs
  · exact .inl (.lst hs (plains_dp r 63 l h hr))
  · exact .inr (.tup hs (plains_dp r 63 l h hr))
theorem od_in (hu : X.A.units + 65 < cLine) : OpD X (compareOp .In) inD := by
  intro pins s σ H v w u u' Q I rv rw h
  obtain ⟨x, y, P, F, μ, S, E, rl, rx, ry, k⟩ := h
  unfold inD at k
  split at k
  · rename_i l e
    split at k
    · rename_i hp
      simp only [Bool.and_eq_true] at hp
      obtain ⟨s1, s2⟩ := plains_shaped hp.2
      rcases seq_dp rl e hp.2 ry with q | q
      · refine op_inD hu pins s σ H _ _ _ _ Q I rv rw ⟨_, _, der_dp rl hp.1 rx, q, plain_shaped hp.1, s1, ?_⟩
        rw [eqv_any hp.1 hp.2]
        exact k.here rl rep_bl
      · refine op_inTD hu pins s σ H _ _ _ _ Q I rv rw ⟨_, _, der_dp rl hp.1 rx, q, plain_shaped hp.1, s2, ?_⟩
        rw [eqv_any hp.1 hp.2]
        exact k.here rl rep_bl
    · exact k.elim
  · split at k
    · split at k
      · rename_i c q
        exact op_in_sign pins s σ H _ _ _ _ Q I rv rw ⟨c, _, by rw [rx.str, oneOf_eq q], ry.str, k.here rl rep_bl⟩
      · exact k.elim
    · exact k.elim
theorem od_ni (hu : X.A.units + 65 < cLine) : OpD X (compareOp .NotIn) niD := by
  intro pins s σ H v w u u' Q I rv rw h
  obtain ⟨x, y, P, F, μ, S, E, rl, rx, ry, k⟩ := h
  unfold niD inD at k
  split at k
  · rename_i l e
    split at k
    · rename_i hp
      simp only [Bool.and_eq_true] at hp
      obtain ⟨s1, s2⟩ := plains_shaped hp.2
      rcases seq_dp rl e hp.2 ry with q | q
      · refine op_notInD hu pins s σ H _ _ _ _ Q I rv rw ⟨_, _, der_dp rl hp.1 rx, q, plain_shaped hp.1, s1, ?_⟩
        rw [eqv_any hp.1 hp.2]
        exact k.here rl rep_bl
      · refine op_niTD hu pins s σ H _ _ _ _ Q I rv rw ⟨_, _, der_dp rl hp.1 rx, q, plain_shaped hp.1, s2, ?_⟩
        rw [eqv_any hp.1 hp.2]
        exact k.here rl rep_bl
    · exact k.elim
  · split at k
    · split at k
      · rename_i c q
        exact op_notIn_sign pins s σ H _ _ _ _ Q I rv rw ⟨c, _, by rw [rx.str, oneOf_eq q], ry.str, k.here rl rep_bl⟩
      · exact k.elim
    · exact k.elim
end
end DL

/-! The data layer, 5: places, slices, built-in functions. -/
namespace DL
open PySem PySem.Spec PyProof.Rows L2

/-! ### x[i] -/
theorem Reps.atI {g : G} {F : Hp} {μ : List Addr} {ds : List D} {vs : List V} {i : Int} {d : D} (h : Reps g F μ ds vs) (e : L2.atI ds i = some d) : ∃ v, L2.atI vs i = some v ∧ Rep g F μ d v := by
  unfold L2.atI at e ⊢
  rw [← h.length]
  cases q : ixN ds.length i with
  | none => rw [q] at e; cases e
  | some j =>
    rw [q] at e
    exact h.get e
def ixD (x y : D) : M D := fun S => match y with
  | .int i => match seqOf x S with
    | some l => match L2.atI l i with
      | some d => .ok d S
      | none => .stuck
    | none => match x with
      | .str z => match L2.atI z.cps.toList i with
        | some c => if z.length ≤ sizeLine then .ok (.str ⟨#[c]⟩) S else .stuck
        | none => .stuck
      | _ => .stuck
  | _ => .stuck
section
variable {X : Cx} {W : WX} {a b : Expr} {fa fb : EM} {pos : Pos}
theorem d_ix (ha : DE X W a fa) (hb : DE X W b fb) (hs : PlainIx b := by exact fun _ _ => rfl) : DE X W (.Subscript a b pos) (mOp ixD fa fb) := by
  refine PE.weak (pe_ix ix_seq ha hb hs) fun σ H Q h => ?_
  obtain ⟨P, ρ, F, μ, S, en, rl, k⟩ := h
  refine tD.run en rl (Fin.imp (Fin.bind (rep := repD (gX X)) k) (fun v H1 ⟨x, F1, μ1, S1, g1, r1, p1, k1⟩ => ?_) fun _ _ _ z => z)
  refine tD.run (en.mono g1) r1 (Fin.imp (Fin.bind (rep := repD (gX X)) k1) (fun w H2 ⟨y, F2, μ2, S2, g2, r2, p2, k2⟩ => ?_) fun _ _ _ z => z)
  have px := p1.mono g2
  unfold ixD at k2
  split at k2
  · split at k2
    · rename_i i _ l e
      split at k2
      · rename_i d q
        obtain ⟨a', xs, ea, hs', hr⟩ := seqOf_rep r2 e px
        obtain ⟨v', h1, h2⟩ := hr.atI q
        rcases hs' with hs' | hs'
        · exact .inl ⟨a', xs, i, v', ea, p2.int, hs', h1, k2.here r2 h2⟩
        · exact .inr (.inl ⟨a', xs, i, v', ea, p2.int, hs', h1, k2.here r2 h2⟩)
      · exact k2.elim
    · split at k2
      · split at k2
        · rename_i c q
          split at k2
          · rename_i hl
            exact .inr (.inr ⟨_, _, c, px.str, p2.int, hl, q, k2.here r2 rep_str⟩)
          · exact k2.elim
        · exact k2.elim
      · exact k2.elim
  · exact k2.elim
end

/-! ### slices -/
abbrev PM := Env → M (Option Int)
def mNoP : PM := fun _ S => .ok none S
def mPart (f : EM) : PM := fun ρ S => (f ρ S).bind fun d S => match d with
  | .int i => .ok (some i) S
  | _ => .stuck
abbrev repO : Hp → List Addr → Option Int → Option Int → Prop := fun _ _ a b => a = b
def tDO (g : G) (W : WX) (f : PM) : TO := fun σ H Q => ∃ P ρ F μ S, EnvR g F μ ρ σ ∧ Rel g P F μ S H ∧ Fin repO g P F μ (f ρ S) Q (fun c d H' => W c d σ H')
abbrev DO (X : Cx) (W : WX) (e : Option Expr) (f : PM) : Prop := PO X e (tDO (gX X) W f)
def cutD (xs : List D) (lo hi : Option Int) : List D := (xs.drop (HT.sIx xs.length 0 lo)).take (HT.sIx xs.length xs.length hi - HT.sIx xs.length 0 lo)
theorem Reps.cut {g : G} {F : Hp} {μ : List Addr} {ds : List D} {vs : List V} (h : Reps g F μ ds vs) (lo hi : Option Int) : Reps g F μ (cutD ds lo hi) (cutV vs lo hi) := by
  unfold cutD cutV
  rw [← h.length]
  exact (h.drop _).take _
def slD (x : D) (lo hi : Option Int) : M D := fun S => match x with
  | .tup l => .ok (.tup (cutD l lo hi)) S
  | .str z => if z.length ≤ sizeLine then .ok (.str (cutS z lo hi)) S else .stuck
  | x => match lstOf x S with
    | some l => .ok (.lst (cutD l lo hi)) S
    | none => .stuck
def mSl (fe : EM) (fl fh : PM) : EM := fun ρ S => (fe ρ S).bind fun x S => (fl ρ S).bind fun l S => (fh ρ S).bind fun h S => slD x l h S
theorem cutD_whole {xs : List D} {lo hi : Option Int} (h : HT.sIx xs.length 0 lo = 0 ∧ HT.sIx xs.length xs.length hi = xs.length) : cutD xs lo hi = xs := by
  unfold cutD
  rw [h.1, h.2]
  simp
section
variable {X : Cx} {W : WX} {e : Expr} {fe : EM} {lo hi : Option Expr} {fl fh : PM} {pos p2 : Pos}
theorem do_none : DO X W none mNoP := by
  refine ⟨fun pins s σ H Q I h => ?_⟩
  obtain ⟨P, ρ, F, μ, S, en, rl, k⟩ := h
  exact po_none.run pins s σ H Q I (k.here rl rfl)
theorem do_some (h : DE X W e fe) : DO X W (some e) (mPart fe) := by
  refine ⟨fun pins s σ H Q I hw => ?_⟩
  refine (po_some h).run pins s σ H Q I ?_
  obtain ⟨P, ρ, F, μ, S, en, rl, k⟩ := hw
  refine tD.run en rl (Fin.imp (Fin.bind (rep := repD (gX X)) k) (fun v H1 ⟨x, F1, μ1, S1, g1, r1, p1, k1⟩ => ?_) fun _ _ _ z => z)
  cases x <;> first | exact k1.elim | skip
  exact ⟨_, p1.int, k1.here r1 rfl⟩
/-- a part of a tuple -/
theorem sl_tupN : SlR X (fun x lo hi H Q => ∃ a xs, x = .ref a ∧ SqT X.K H a xs ∧ (HT.sIx xs.length 0 lo = 0 ∧ HT.sIx xs.length xs.length hi = xs.length → Q (.ref a) H) ∧ ∀ (p : Addr) (ob : Obj), H p = none → ob.dict = none → Q (.ref p) (upd H p (.frz ob (.tup (cutV xs lo hi))))) := by
  intro pins s σ H x v vl vu lo hi sl Q I rx hs pl pu ⟨a, xs, e, hx, q1, q2⟩
  by_cases hw : HT.sIx xs.length 0 lo = 0 ∧ HT.sIx xs.length xs.length hi = xs.length
  · exact sl_tupA pins s σ H x v vl vu lo hi sl Q I rx hs pl pu ⟨a, xs, e, hx, q1, fun z => absurd hw z⟩
  · subst e
    cases rx
    obtain ⟨its, r, ht, hz⟩ := I.tuple hx
    have hlen : its.toArray.size = xs.length := List.size_toArray .. ▸ r.length.symm
    refine ⟨"tuple", _, PyProof.Rows.slot_tuple_getitem.lookup, ht.typeIs, HT.getItem_tuple_cut ht hs pl pu (hlen ▸ hw) ?_ (hlen ▸ hz)⟩
    rw [hlen]
    exact ⟨.ref s.heap.objs.size, _, tup_laid (t' := s.toks) I ((r.drop _).take _) (Nat.le_trans (cutV_length xs lo hi) hz), rfl, q2 _ _ (I.hok.fresh (Nat.le_refl _)) rfl⟩
/-- tuple(l) -/
theorem call_tupN : CallR X (.type "tuple") (fun xs H Q => ∃ p ys, xs = [.ref p] ∧ SqL X.K H p ys ∧ ∀ (l : Addr) (ob : Obj), H l = none → ob.dict = none → Q (.ref l) (upd H l (.frz ob (.tup ys)))) := by
  intro pins s σ H xs us Q I r ⟨p, ys, e, hq, q⟩
  subst e
  obtain ⟨u, rfl, rx⟩ := vals1 r
  cases rx
  obtain ⟨its, r', pl, hz⟩ := I.list hq
  refine call_tuple_list pl.isList (fun h' kp => ?_) (by have := r'.length; simp only [List.size_toArray]; omega)
  have I1 : Inv X pins σ H { s with heap := h' } := I.kept (t' := s.toks) kp
  exact ⟨.ref h'.objs.size, _, tup_laid (t' := s.toks) I1 r' hz, rfl, q _ _ (I1.hok.fresh (Nat.le_refl _)) rfl⟩
theorem d_sl (he : DE X W e fe) (hl : DO X W lo fl) (hh : DO X W hi fh) : DE X W (.Subscript e (.Slice lo hi none p2) pos) (mSl fe fl fh) := by
  refine PE.weak (pe_slice (sl_tupN.or (sl_list.or sl_str)) he hl hh) fun σ H Q ⟨P, ρ, F, μ, S, en, rl, k⟩ => ?_
  refine tD.run en rl (Fin.imp (Fin.bind (rep := repD (gX X)) k) (fun v H1 ⟨x, F1, μ1, S1, g1, r1, p1, k1⟩ => ?_) fun _ _ _ z => z)
  refine ⟨P, ρ, F1, μ1, S1, en.mono g1, r1, Fin.imp (Fin.bind (rep := repO) k1) (fun l H2 ⟨l', F2, μ2, S2, g2, r2, p2, k2⟩ => ?_) fun _ _ _ z => z⟩
  refine ⟨P, ρ, F2, μ2, S2, (en.mono g1).mono g2, r2, Fin.imp (Fin.bind (rep := repO) k2) (fun h H3 ⟨h', F3, μ3, S3, g3, r3, p3, k3⟩ => ?_) fun _ _ _ z => z⟩
  cases p2
  cases p3
  have px := (p1.mono g2).mono g3
  unfold slD at k3
  split at k3
  · obtain ⟨a, xs, ea, hs, hr⟩ := px.tup r3
    have hl := hr.length
    refine .inl ⟨a, xs, ea, hs, fun hw => ?_, fun p ob hp ho => k3.newT r3 (hr.cut l h) hp ho⟩
    rw [cutD_whole (by rw [hl]; exact hw)] at k3
    exact k3.here r3 (by rw [← ea]; exact px)
  · split at k3
    · rename_i hl
      exact .inr (.inr ⟨_, px.str, hl, k3.here r3 rep_str⟩)
    · exact k3.elim
  · split at k3
    · rename_i ll q
      obtain ⟨a, xs, ea, hs, hr⟩ := lstOf_rep r3 q px
      exact .inr (.inl ⟨a, xs, ea, hs, fun p hp => k3.newL r3 (hr.cut l h) hp⟩)
    · exact k3.elim
/-- xs[::-1] -/
def revD (x : D) : M D := fun S => match lstOf x S with
  | some l => .ok (.lst l.reverse) S
  | none => .stuck
theorem d_rev {k : Nat} {p1 p2 p3 : Pos} (he : DE X W e fe) : DE X W (.Subscript e (.Slice none none (some (.UnaryOp .USub (.Constant (.int 1) k p1) p2)) p3) pos) (mUn revD fe) := by
  refine PE.weak (pe_revL he) fun σ H Q ⟨P, ρ, F, μ, S, en, rl, k⟩ => ?_
  refine tD.run en rl (Fin.imp (Fin.bind (rep := repD (gX X)) k) (fun v H1 ⟨x, F1, μ1, S1, g1, r1, p1, k1⟩ => ?_) fun _ _ _ z => z)
  unfold revD at k1
  split at k1
  · rename_i l q
    obtain ⟨a, xs, ea, hs, hr⟩ := lstOf_rep r1 q p1
    exact ⟨a, xs, ea, hs, fun p hp => k1.newL r1 hr.reverse hp⟩
  · exact k1.elim
end

/-! ### built-in functions and types, called -/
def CallD (X : Cx) (f : Value) (m : List D → M D) : Prop := CallR X f (fun vs H Q => ∃ ds P F μ S E, Rel (gX X) P F μ S H ∧ Reps (gX X) F μ ds vs ∧ Fin (repD (gX X)) (gX X) P F μ (m ds S) Q E)
def mCB (m : List D → M D) (fa : AM) : EM := fun ρ S => (fa ρ S).bind m
section
variable {X : Cx} {W : WX} {x : Str} {p pos : Pos} {e : Expr} {es : List Expr} {fa : AM} {id T : String} {m : List D → M D}
theorem cb_run : ∀ σ H Q, tD (gX X) W (mCB m fa) σ H Q → tCB (fun vs H Q => ∃ ds P F μ S E, Rel (gX X) P F μ S H ∧ Reps (gX X) F μ ds vs ∧ Fin (repD (gX X)) (gX X) P F μ (m ds S) Q E) (tDA (gX X) W fa) σ H Q := fun σ H Q ⟨P, ρ, F, μ, S, en, rl, k⟩ =>
  tDA.run en rl (Fin.imp (Fin.bind (rep := repA (gX X)) k) (fun v H1 ⟨ds, F1, μ1, S1, g1, r1, p1, k1⟩ => ⟨ds, P, F1, μ1, S1, _, r1, p1, k1⟩) fun _ _ _ z => z)
theorem d_callB (hc : CallD X (.builtin id) m) (hm : X.mg x = none) (ha : DA X W (e :: es) fa) (hg : Gl X x := by rfl) (hv : bootBuiltins x = some (.builtin id) := by decide +kernel) (hn : x ≠ "__name__" := by decide) (hdb : (x == ("__debug__" : Str)) = false := by decide)
    (he : starEach (e :: es) X.env = (false, eval e X.env) :: starEach es X.env := by rfl) (hpl : (backTo pos (starEach es X.env)).any (·.1) = false := by rfl) : DE X W (.Call (.Name x p) (e :: es) [] pos) (mCB m fa) :=
  PE.weak (pe_callB hc hg hm hv ha hn hdb he hpl) cb_run
theorem d_callT (hc : CallD X (.type T) m) (hm : X.mg x = none) (ha : DA X W (e :: es) fa) (hg : Gl X x := by rfl) (hv : bootBuiltins x = some (.type T) := by decide +kernel) (hn : x ≠ "__name__" := by decide) (hdb : (x == ("__debug__" : Str)) = false := by decide)
    (he : starEach (e :: es) X.env = (false, eval e X.env) :: starEach es X.env := by rfl) (hpl : (backTo pos (starEach es X.env)).any (·.1) = false := by rfl) : DE X W (.Call (.Name x p) (e :: es) [] pos) (mCB m fa) :=
  PE.weak (pe_callTy hc hg hm hv ha hn hdb he hpl) cb_run
end
/-- one argument -/
def one (m : D → M D) : List D → M D := fun ds S => match ds with
  | [d] => m d S
  | _ => .stuck
def two (m : D → D → M D) : List D → M D := fun ds S => match ds with
  | [x, y] => m x y S
  | _ => .stuck
@[simp] theorem one_eq (m : D → M D) (d : D) (S : Store) : one m [d] S = m d S := rfl
@[simp] theorem two_eq (m : D → D → M D) (x y : D) (S : Store) : two m [x, y] S = m x y S := rfl
theorem one_fin {g : G} {P F : Hp} {μ : List Addr} {S : Store} {E : XK} {m : D → M D} {ds : List D} {vs : List V} {Q : VK} (k : Fin (repD g) g P F μ (one m ds S) Q E) (p : Reps g F μ ds vs) : ∃ d v, vs = [v] ∧ Rep g F μ d v ∧ Fin (repD g) g P F μ (m d S) Q E := by
  unfold one at k
  split at k
  · rename_i d
    simp only [Reps] at p
    obtain ⟨v, _, rfl, h1, rfl⟩ := p
    exact ⟨d, v, rfl, h1, k⟩
  · exact k.elim
theorem two_fin {g : G} {P F : Hp} {μ : List Addr} {S : Store} {E : XK} {m : D → D → M D} {ds : List D} {vs : List V} {Q : VK} (k : Fin (repD g) g P F μ (two m ds S) Q E) (p : Reps g F μ ds vs) : ∃ d e v w, vs = [v, w] ∧ Rep g F μ d v ∧ Rep g F μ e w ∧ Fin (repD g) g P F μ (m d e S) Q E := by
  unfold two at k
  split at k
  · rename_i d e
    simp only [Reps] at p
    obtain ⟨v, _, rfl, h1, w, _, rfl, h2, rfl⟩ := p
    exact ⟨d, e, v, w, rfl, h1, h2, k⟩
  · exact k.elim
def lenD (x : D) : M D := fun S => match seqOf x S with
  | some l => .ok (.int l.length) S
  | none => match x with
    | .str z => if z.length ≤ sizeLine then .ok (.int z.length) S else .stuck
    | _ => .stuck
def absD : D → M D
  | .int i, S => .ok (.int (if i < 0 then -i else i)) S
  | _, _ => .stuck
def minD : D → D → M D
  | .int i, .int j, S => .ok (.int (if j < i then j else i)) S
  | _, _, _ => .stuck
def maxD : D → D → M D
  | .int i, .int j, S => .ok (.int (if j > i then j else i)) S
  | _, _, _ => .stuck
def intD : D → M D
  | .int i, S => .ok (.int i) S
  | .bl b, S => .ok (.int (b2 b)) S
  | .str z, S => match PySem.intText? z with
    | some n => if z.length ≤ 640 then .ok (.int n) S else .stuck
    | none => .stuck
  | _, _ => .stuck
def strD : D → M D
  | .int i, S => if i.natAbs.log2 < 1920 then .ok (.str (toString i)) S else .stuck
  | _, _ => .stuck
/-- list(x), tuple(x) -/
def listD (x : D) : M D := fun S => match seqOf x S with
  | some l => .ok (.lst l) S
  | none => .stuck
def tupleD (x : D) : M D := fun S => match x with
  | .wt _ => .stuck
  | x => match seqOf x S with
    | some l => .ok (.tup l) S
    | none => .stuck
def blOf : D → Option Bool
  | .bl b => some b
  | _ => none
def blsOf : List D → Option (List Bool)
  | [] => some []
  | d :: ds => match blOf d, blsOf ds with
    | some b, some bs => some (b :: bs)
    | _, _ => none
theorem blsOf_rep {g : G} {F : Hp} {μ : List Addr} : ∀ {ds : List D} {bs : List Bool} {vs : List V}, blsOf ds = some bs → Reps g F μ ds vs → vs = bs.map V.bl
  | [], _, _, e, p => by
    cases e
    simp only [Reps] at p
    rw [p]; rfl
  | d :: ds, bs, vs, e, p => by
    simp only [Reps] at p
    obtain ⟨v, vs, rfl, p1, p2⟩ := p
    unfold blsOf at e
    split at e
    · rename_i b bs' q1 q2
      cases e
      cases d <;> first | (cases q1; done) | skip
      cases q1
      rw [p1.bl, blsOf_rep q2 p2]
      rfl
    · cases e
def allD (x : D) : M D := fun S => match lstOf x S with
  | some l => match blsOf l with
    | some bs => .ok (.bl (bs.all id)) S
    | none => .stuck
  | none => .stuck
def anyD (x : D) : M D := fun S => match lstOf x S with
  | some l => match blsOf l with
    | some bs => .ok (.bl (bs.any id)) S
    | none => .stuck
  | none => .stuck
section
variable {X : Cx}
theorem cd_len : CallD X (.builtin "len") (one lenD) := by
  intro pins s σ H vs us Q I rv h
  obtain ⟨ds, P, F, μ, S, E, rl, rx, k⟩ := h
  obtain ⟨d, v, rfl, p, k⟩ := one_fin k rx
  unfold lenD at k
  split at k
  · rename_i l e
    obtain ⟨a, xs, ea, hs, hr⟩ := seqOf_rep rl e p
    refine call_len pins s σ H _ us Q I rv ⟨v, l.length, rfl, ?_, k.here rl rep_int⟩
    subst ea
    rcases hs with hs | hs
    · exact .inl ⟨xs, hs, hr.length⟩
    · exact .inr ⟨xs, hs, hr.length⟩
  · split at k
    · split at k
      · rename_i hl
        refine call_len pins s σ H _ us Q I rv ⟨v, _, rfl, ?_, k.here rl rep_int⟩
        rw [p.str]
        exact ⟨hl, rfl⟩
      · exact k.elim
    · exact k.elim
theorem cd_abs : CallD X (.builtin "abs") (one absD) := by
  intro pins s σ H vs us Q I rv h
  obtain ⟨ds, P, F, μ, S, E, rl, rx, k⟩ := h
  obtain ⟨d, v, rfl, p, k⟩ := one_fin k rx
  unfold absD at k
  split at k
  · exact call_abs pins s σ H _ us Q I rv ⟨_, by rw [p.int], k.here rl rep_int⟩
  · exact k.elim
theorem cd_min (hc : X.calm = true) : CallD X (.builtin "min") (two minD) := by
  intro pins s σ H vs us Q I rv h
  obtain ⟨ds, P, F, μ, S, E, rl, rx, k⟩ := h
  obtain ⟨d, e, v, w, rfl, p, q, k⟩ := two_fin k rx
  unfold minD at k
  split at k
  · exact call_min2 hc pins s σ H _ us Q I rv ⟨_, _, by rw [p.int, q.int], k.here rl rep_int⟩
  · exact k.elim
theorem cd_max (hc : X.calm = true) : CallD X (.builtin "max") (two maxD) := by
  intro pins s σ H vs us Q I rv h
  obtain ⟨ds, P, F, μ, S, E, rl, rx, k⟩ := h
  obtain ⟨d, e, v, w, rfl, p, q, k⟩ := two_fin k rx
  unfold maxD at k
  split at k
  · exact call_max2 hc pins s σ H _ us Q I rv ⟨_, _, by rw [p.int, q.int], k.here rl rep_int⟩
  · exact k.elim
theorem cd_int : CallD X (.type "int") (one intD) := by
  intro pins s σ H vs us Q I rv h
  obtain ⟨ds, P, F, μ, S, E, rl, rx, k⟩ := h
  obtain ⟨d, v, rfl, p, k⟩ := one_fin k rx
  unfold intD at k
  split at k
  · exact call_int1 pins s σ H _ us Q I rv (.inl ⟨_, by rw [p.int], k.here rl rep_int⟩)
  · exact call_int1 pins s σ H _ us Q I rv (.inr ⟨_, by rw [p.bl], k.here rl rep_int⟩)
  · split at k
    · rename_i n q
      split at k
      · rename_i hl
        exact call_int_str pins s σ H _ us Q I rv ⟨_, n, by rw [p.str], q, hl, k.here rl rep_int⟩
      · exact k.elim
    · exact k.elim
  · exact k.elim
theorem cd_str : CallD X (.type "str") (one strD) := by
  intro pins s σ H vs us Q I rv h
  obtain ⟨ds, P, F, μ, S, E, rl, rx, k⟩ := h
  obtain ⟨d, v, rfl, p, k⟩ := one_fin k rx
  unfold strD at k
  split at k
  · split at k
    · rename_i hz
      exact call_str_int pins s σ H _ us Q I rv ⟨_, by rw [p.int], hz, k.here rl rep_str⟩
    · exact k.elim
  · exact k.elim
theorem cd_list : CallD X (.type "list") (one listD) := by
  intro pins s σ H vs us Q I rv h
  obtain ⟨ds, P, F, μ, S, E, rl, rx, k⟩ := h
  obtain ⟨d, v, rfl, p, k⟩ := one_fin k rx
  unfold listD at k
  split at k
  · rename_i l e
    obtain ⟨a, xs, ea, hs, hr⟩ := seqOf_rep rl e p
    exact call_list_of pins s σ H _ us Q I rv ⟨a, xs, by rw [ea], hs, fun l hl => k.newL rl hr hl⟩
  · exact k.elim
theorem cd_tuple : CallD X (.type "tuple") (one tupleD) := by
  intro pins s σ H vs us Q I rv h
  obtain ⟨ds, P, F, μ, S, E, rl, rx, k⟩ := h
  obtain ⟨d, v, rfl, p, k⟩ := one_fin k rx
  unfold tupleD at k
  split at k
  · exact k.elim
  split at k
  · rename_i l e
    cases d with
    | tup l' =>
      cases e
      obtain ⟨a, xs, ea, hs, hr⟩ := p.tup rl
      exact call_tuple_of pins s σ H _ us Q I rv ⟨a, xs, by rw [ea], .inr ⟨hs, k.here rl (by rw [← ea]; exact p)⟩⟩
    | lst l' =>
      cases e
      obtain ⟨a, xs, ea, hs, hr⟩ := p.lst rl
      exact call_tupN pins s σ H _ us Q I rv ⟨a, xs, by rw [ea], hs, fun l ob hl ho => k.newT rl hr hl ho⟩
    | ref n =>
      obtain ⟨a, xs, ea, hs, hr⟩ := lstOf_rep rl (show lstOf (.ref n) S = some l from e) p
      exact call_tupN pins s σ H _ us Q I rv ⟨a, xs, by rw [ea], hs, fun l ob hl ho => k.newT rl hr hl ho⟩
    | wt l' => exact ((by assumption : ∀ (z : List D), D.wt l' = D.wt z → False) _ rfl).elim
    | _ => cases e
  · exact k.elim
theorem cd_all (hc : X.calm = true) : CallD X (.builtin "all") (one allD) := by
  intro pins s σ H vs us Q I rv h
  obtain ⟨ds, P, F, μ, S, E, rl, rx, k⟩ := h
  obtain ⟨d, v, rfl, p, k⟩ := one_fin k rx
  unfold allD at k
  split at k
  · rename_i l e
    obtain ⟨a, xs, ea, hs, hr⟩ := lstOf_rep rl e p
    split at k
    · rename_i bs q
      have := blsOf_rep q hr
      exact cr_all hc pins s σ H _ us Q I rv ⟨a, bs, by rw [ea], by rw [← this]; exact hs, k.here rl rep_bl⟩
    · exact k.elim
  · exact k.elim
theorem cd_any (hc : X.calm = true) : CallD X (.builtin "any") (one anyD) := by
  intro pins s σ H vs us Q I rv h
  obtain ⟨ds, P, F, μ, S, E, rl, rx, k⟩ := h
  obtain ⟨d, v, rfl, p, k⟩ := one_fin k rx
  unfold anyD at k
  split at k
  · rename_i l e
    obtain ⟨a, xs, ea, hs, hr⟩ := lstOf_rep rl e p
    split at k
    · rename_i bs q
      have := blsOf_rep q hr
      exact cr_any hc pins s σ H _ us Q I rv ⟨a, bs, by rw [ea], by rw [← this]; exact hs, k.here rl rep_bl⟩
    · exact k.elim
  · exact k.elim
mutual
theorem plain_noDict : ∀ (d : D), (toPy d).hasDict = false
  | .non => rfl
  | .bl _ => rfl
  | .int _ => rfl
  | .str _ => rfl
  | .tup l => by simp only [toPy, PyData.hasDict]; exact plains_noDict l
  | .wt l => rfl
  | .lst l => by simp only [toPy, PyData.hasDict]; exact plains_noDict l
  | .obj .. => rfl
  | .exc .. => rfl
  | .ref .. => rfl
theorem plains_noDict : ∀ (ds : List D), PyData.hasDictAll (toPys ds) = false
  | [] => rfl
  | d :: ds => by simp only [toPys, PyData.hasDictAll, plain_noDict d, plains_noDict ds]; rfl
end
theorem plain_up : ∀ {n : Nat} {d : D}, plain n d = true → plain (n + 1) d = true := fun {n d} h => by
  have key : (∀ (d : D) (n : Nat), plain n d = true → plain (n + 1) d = true) := fun d => by
    refine D.rec (motive_1 := fun d => ∀ n, plain n d = true → plain (n + 1) d = true) (motive_2 := fun ds => ∀ n, plains n ds = true → plains (n + 1) ds = true) ?_ ?_ ?_ ?_ ?_ ?_ ?_ ?_ ?_ ?_ ?_ ?_ d
    · intro n _; rfl
    · intro b n _; rfl
    · intro i n _; rfl
    · intro x n h; simpa [plain] using h
    · intro l ih n h
      cases n with
      | zero => simp [plain] at h
      | succ n => simp only [plain] at h ⊢; exact ih n h
    · intro l _ n h; simp [plain] at h
    · intro l ih n h
      cases n with
      | zero => simp [plain] at h
      | succ n => simp only [plain] at h ⊢; exact ih n h
    · intro c ns ds _ n h; simp [plain] at h
    · intro c ns ds _ n h; simp [plain] at h
    · intro k n h; simp [plain] at h
    · intro n _; simp [plains]
    · intro d ds h1 h2 n h
      simp only [plains, Bool.and_eq_true] at h ⊢
      exact ⟨h1 n h.1, h2 n h.2⟩
  exact key d n h
end
end DL

/-! The data layer, 6: what is walked; for, while, comprehensions. -/
namespace DL
open PySem PySem.Spec PyProof.Rows L2

/-- the iterator J gives the items ds, while F stands -/
structure WalkD (g : G) (F : Hp) (μ : List Addr) (ds : List D) (J : It) : Prop where
  goes : ∀ (P F' : Hp) (μ' : List Addr) (S : Store) (H : Hp) (i : Nat), Gr F μ F' μ' → Rel g P F' μ' S H → i < ds.length → J.go i H
  stops : ∀ (P F' : Hp) (μ' : List Addr) (S : Store) (H : Hp), Gr F μ F' μ' → Rel g P F' μ' S H → J.stop ds.length H
  yields : ∀ (P F' : Hp) (μ' : List Addr) (S : Store) (H : Hp) (i : Nat) (d : D) (x : V) (H' : Hp), Gr F μ F' μ' → Rel g P F' μ' S H → ds[i]? = some d → J.yld i H x H' → ∃ F2, Gr F' μ' F2 μ' ∧ Rel g P F2 μ' S H' ∧ Rep g F2 μ' d x
abbrev IM := Env → M (List D)
abbrev repI (g : G) : Hp → List Addr → List D → It → Prop := fun F μ ds J => WalkD g F μ ds J
def tDI (g : G) (W : WX) (f : IM) : TI := fun σ H R => ∃ P ρ F μ S, EnvR g F μ ρ σ ∧ Rel g P F μ S H ∧ Fin (repI g) g P F μ (f ρ S) R (fun c d H' => W c d σ H')
abbrev DI (X : Cx) (W : WX) (tg e : Expr) (f : IM) : Prop := PI X tg e (tDI (gX X) W f)
theorem PI.weak {X : Cx} {tg e : Expr} {t t' : TI} (h : PI X tg e t) (w : ∀ σ H Q, t' σ H Q → t σ H Q) : PI X tg e t' := ⟨fun pins s σ H Q I k => h.run pins s σ H Q I (w σ H Q k)⟩
section
variable {g : G} {F : Hp} {μ : List Addr} {ds : List D} {xs : List V} {a : Addr}
theorem walkD_list (hs : SqL g.K F a xs) (hr : Reps g F μ ds xs) : WalkD g F μ ds (Itl g.K a) where
  goes := fun P F' μ' S H i g1 r hi => by
    have hi' : i < xs.length := by rw [← hr.length]; exact hi
    exact ⟨xs, xs[i], sqL_mono r.gr0 (sqL_mono g1 hs), by simp [hi']⟩
  stops := fun P F' μ' S H g1 r => ⟨xs, sqL_mono r.gr0 (sqL_mono g1 hs), Nat.le_of_eq hr.length.symm⟩
  yields := fun P F' μ' S H i d x H' g1 r e y => by
    obtain ⟨v, h1, h2⟩ := hr.get e
    have := y.2 xs (sqL_mono r.gr0 (sqL_mono g1 hs))
    rw [h1] at this; cases this
    rw [y.1]
    exact ⟨F', Gr.refl _ _, r, h2.mono g1⟩
theorem walkD_tup (hs : SqT g.K F a xs) (hr : Reps g F μ ds xs) : WalkD g F μ ds (Itt g.K a) where
  goes := fun P F' μ' S H i g1 r hi => by
    have hi' : i < xs.length := by rw [← hr.length]; exact hi
    exact ⟨xs, xs[i], sqT_mono r.gr0 (sqT_mono g1 hs), by simp [hi']⟩
  stops := fun P F' μ' S H g1 r => ⟨xs, sqT_mono r.gr0 (sqT_mono g1 hs), Nat.le_of_eq hr.length.symm⟩
  yields := fun P F' μ' S H i d x H' g1 r e y => by
    obtain ⟨v, h1, h2⟩ := hr.get e
    have := y.2 xs (sqT_mono r.gr0 (sqT_mono g1 hs))
    rw [h1] at this; cases this
    rw [y.1]
    exact ⟨F', Gr.refl _ _, r, h2.mono g1⟩
def rangeL (lo : Int) (n : Nat) : List D := (List.range n).map fun i => D.int (lo + (i : Nat))
theorem rangeL_get {lo : Int} {n i : Nat} {d : D} (h : (rangeL lo n)[i]? = some d) : d = .int (lo + (i : Nat)) := by
  unfold rangeL at h
  rw [List.getElem?_map] at h
  cases q : (List.range n)[i]? with
  | none => rw [q] at h; cases h
  | some j =>
    rw [q] at h
    have : j = i := by
      obtain ⟨hi, e⟩ := List.getElem?_eq_some_iff.mp q
      simpa using e.symm
    subst this
    cases h; rfl
theorem walkD_range {lo : Int} {n : Nat} : WalkD g F μ (rangeL lo n) (Itr lo n) where
  goes := fun P F' μ' S H i g1 r hi => by
    show i < n
    simpa [rangeL] using hi
  stops := fun P F' μ' S H g1 r => by
    show n ≤ (rangeL lo n).length
    simp [rangeL]
  yields := fun P F' μ' S H i d x H' g1 r e y => by
    rw [rangeL_get e, y.2, y.1]
    exact ⟨F', Gr.refl _ _, r, rep_int⟩
/-- a new pair a turn -/
theorem walkD_pair {J : It} {l : List (List D)} (hg : ∀ (F' : Hp) (H : Hp), (∀ a o, F a = some o → F' a = some o) → (∀ a o, F' a = some o → H a = some o) → (∀ i, i < l.length → J.go i H) ∧ J.stop l.length H ∧
      ∀ i x H' ds, l[i]? = some ds → J.yld i H x H' → ∃ T xs, x = .ref T ∧ H T = none ∧ H' = upd H T (.tup xs) ∧ Reps g F μ ds xs) : WalkD g F μ (l.map D.wt) J where
  goes := fun P F' μ' S H i g1 r hi => (hg F' H g1.f r.sub).1 i (by simpa using hi)
  stops := fun P F' μ' S H g1 r => by rw [List.length_map]; exact (hg F' H g1.f r.sub).2.1
  yields := fun P F' μ' S H i d x H' g1 r e y => by
    rw [List.getElem?_map] at e
    cases q : l[i]? with
    | none => rw [q] at e; cases e
    | some ds =>
      rw [q] at e
      cases e
      obtain ⟨T, xs, rfl, hT, rfl, hr⟩ := (hg F' H g1.f r.sub).2.2 i x H' ds q y
      obtain ⟨r1, g2⟩ := r.froz (o := .tup xs) hT
      exact ⟨_, g2, r1, by simp only [Rep]; exact ⟨T, xs, rfl, .inl (.inl upd_same), (hr.mono g1).mono g2⟩⟩
end
/-- enumerate -/
def enumL : Nat → List D → List (List D)
  | _, [] => []
  | n, d :: ds => [.int (n : Nat), d] :: enumL (n + 1) ds
theorem enumL_len : ∀ (n : Nat) (ds : List D), (enumL n ds).length = ds.length
  | _, [] => rfl
  | n, d :: ds => by simp [enumL, enumL_len (n + 1) ds]
theorem enumL_get : ∀ {n : Nat} {ds : List D} {i : Nat} {x : List D}, (enumL n ds)[i]? = some x → ∃ d, ds[i]? = some d ∧ x = [.int ((n + i : Nat) : Int), d]
  | n, [], i, x, h => by simp [enumL] at h
  | n, d :: ds, i, x, h => by
    cases i with
    | zero => simp [enumL] at h; exact ⟨d, rfl, by simp [← h]⟩
    | succ i =>
      simp only [enumL, List.getElem?_cons_succ] at h
      obtain ⟨e, h1, h2⟩ := enumL_get h
      exact ⟨e, by simpa using h1, by rw [h2, show n + 1 + i = n + (i + 1) by omega]⟩
def zipL : List D → List D → List (List D)
  | x :: xs, y :: ys => [x, y] :: zipL xs ys
  | _, _ => []
theorem zipL_len : ∀ (xs ys : List D), (zipL xs ys).length = min xs.length ys.length
  | [], _ => by simp [zipL]
  | _ :: _, [] => by simp [zipL]
  | x :: xs, y :: ys => by simp only [zipL, List.length_cons, zipL_len xs ys]; omega
theorem zipL_get : ∀ {xs ys : List D} {i : Nat} {z : List D}, (zipL xs ys)[i]? = some z → ∃ x y, xs[i]? = some x ∧ ys[i]? = some y ∧ z = [x, y]
  | [], _, i, z, h => by simp [zipL] at h
  | _ :: _, [], i, z, h => by simp [zipL] at h
  | x :: xs, y :: ys, i, z, h => by
    cases i with
    | zero => simp [zipL] at h; exact ⟨x, y, rfl, rfl, h.symm⟩
    | succ i =>
      simp only [zipL, List.getElem?_cons_succ] at h
      obtain ⟨a, b, h1, h2, h3⟩ := zipL_get h
      exact ⟨a, b, by simpa using h1, by simpa using h2, h3⟩
section
variable {g : G} {F : Hp} {μ : List Addr} {ds es : List D} {xs ys : List V} {a b : Addr}
theorem walkD_enum (hs : SqL g.K F a xs) (hr : Reps g F μ ds xs) : WalkD g F μ ((enumL 0 ds).map D.wt) (Ite g.K a) := by
  refine walkD_pair fun F' H h1 h2 => ?_
  have hx : SqL g.K H a xs := sqL_mono (μ := μ) (μ' := μ) ⟨fun c o e => h2 c o (h1 c o e), fun _ _ z => z⟩ hs
  have w : Walk (Ite g.K a) xs.length (fun H => SqL g.K H a xs) (YPair (fun i => some (.int (i : Nat))) (fun i => xs[i]?)) := walk_enum
  refine ⟨fun i hi => w.goes i H (by rw [← hr.length, ← enumL_len 0]; exact hi) hx, ?_, fun i x H' z e y => ?_⟩
  · rw [enumL_len, hr.length]; exact w.stops H hx
  · obtain ⟨d, e1, rfl⟩ := enumL_get e
    obtain ⟨v, e2, e3⟩ := hr.get e1
    obtain ⟨T, u, u', h3, h4, h5, h6, h7⟩ := w.yields i H x H' ((List.getElem?_eq_some_iff.mp e2).1) hx y
    cases h6
    have h7 : xs[i]? = some u' := h7
    rw [e2] at h7; cases h7
    refine ⟨T, _, h3, h4, h5, reps_cons ?_ (reps_cons e3 reps_nil)⟩
    rw [Nat.zero_add]; exact rep_int
theorem walkD_zipL (hs : SqL g.K F a xs) (hr : Reps g F μ ds xs) (hs2 : SqL g.K F b ys) (hr2 : Reps g F μ es ys) : WalkD g F μ ((zipL ds es).map D.wt) (Itz g.K a b) := by
  refine walkD_pair fun F' H h1 h2 => ?_
  have gr : Gr F μ H μ := ⟨fun c o e => h2 c o (h1 c o e), fun _ _ z => z⟩
  have hx := sqL_mono (g := g) gr hs
  have hy := sqL_mono (g := g) gr hs2
  have w := walk_zip (K := g.K) (a := a) (b := b) (xs := xs) (ys := ys) (n := (zipL ds es).length) (by rw [zipL_len, hr.length, hr2.length])
  refine ⟨fun i hi => w.goes i H hi ⟨hx, hy⟩, w.stops H ⟨hx, hy⟩, fun i x H' z e y => ?_⟩
  obtain ⟨d, d2, e1, e1', rfl⟩ := zipL_get e
  obtain ⟨v, e2, e3⟩ := hr.get e1
  obtain ⟨v2, e2', e3'⟩ := hr2.get e1'
  obtain ⟨T, u, u', h3, h4, h5, h6, h7⟩ := w.yields i H x H' ((List.getElem?_eq_some_iff.mp e).1) ⟨hx, hy⟩ y
  have h6 : xs[i]? = some u := h6
  have h7 : ys[i]? = some u' := h7
  rw [e2] at h6; cases h6
  rw [e2'] at h7; cases h7
  exact ⟨T, _, h3, h4, h5, reps_cons e3 (reps_cons e3' reps_nil)⟩
theorem walkD_zipT (hs : SqT g.K F a xs) (hr : Reps g F μ ds xs) (hs2 : SqT g.K F b ys) (hr2 : Reps g F μ es ys) : WalkD g F μ ((zipL ds es).map D.wt) (RZ.ItzT g.K a b) := by
  refine walkD_pair fun F' H h1 h2 => ?_
  have gr : Gr F μ H μ := ⟨fun c o e => h2 c o (h1 c o e), fun _ _ z => z⟩
  have hx := sqT_mono (g := g) gr hs
  have hy := sqT_mono (g := g) gr hs2
  refine ⟨fun i hi => ?_, ?_, fun i x H' z e y => ?_⟩
  · rw [zipL_len, hr.length, hr2.length] at hi
    have q1 : i < xs.length := by omega
    have q2 : i < ys.length := by omega
    exact ⟨xs, ys, xs[i], ys[i], hx, hy, by simp [q1], by simp [q2]⟩
  · exact ⟨xs, ys, hx, hy, by rw [zipL_len, hr.length, hr2.length]; omega⟩
  · obtain ⟨d, d2, e1, e1', rfl⟩ := zipL_get e
    obtain ⟨v, e2, e3⟩ := hr.get e1
    obtain ⟨v2, e2', e3'⟩ := hr2.get e1'
    obtain ⟨T, u, u', h3, h4, h5, h6, h7⟩ := y
    have h6 := h6 xs hx
    have h7 := h7 ys hy
    rw [e2] at h6; cases h6
    rw [e2'] at h7; cases h7
    exact ⟨T, _, h3, h4, h5, reps_cons e3 (reps_cons e3' reps_nil)⟩
end
/-- the items of a value -/
def itemsD : D → M (List D)
  | .tup l, S => .ok l S
  | .lst l, S => .ok l S
  | _, _ => .stuck
def mIt (fe : EM) : IM := fun ρ S => (fe ρ S).bind itemsD
def mRange1 (fa : EM) : IM := fun ρ S => (fa ρ S).bind fun d S => match d with
  | .int j => if -(2 ^ 62) ≤ j ∧ j < 2 ^ 62 then .ok (rangeL 0 j.toNat) S else .stuck
  | _ => .stuck
def mRange2 (fa fb : EM) : IM := fun ρ S => (fa ρ S).bind fun d S => (fb ρ S).bind fun e S => match d, e with
  | .int i, .int j => if -(2 ^ 62) ≤ i ∧ i < 2 ^ 62 ∧ -(2 ^ 62) ≤ j ∧ j < 2 ^ 62 then .ok (rangeL i (j - i).toNat) S else .stuck
  | _, _ => .stuck
def mEnum (fe : EM) : IM := fun ρ S => (fe ρ S).bind fun d S => match d with
  | .lst l => .ok ((enumL 0 l).map D.wt) S
  | _ => .stuck
def mZip (fa fb : EM) : IM := fun ρ S => (fa ρ S).bind fun d S => (fb ρ S).bind fun e S => match d, e with
  | .lst l, .lst k => .ok ((zipL l k).map D.wt) S
  | .tup l, .tup k => .ok ((zipL l k).map D.wt) S
  | _, _ => .stuck
section
variable {X : Cx} {W : WX} {tg e e2 : Expr} {fe fe2 : EM} {p pos tpos : Pos}
theorem di_seq (h : DE X W e fe) : DI X W tg e (mIt fe) := by
  refine ⟨fun pins s σ H R I k => ?_⟩
  obtain ⟨P, ρ, F, μ, S, en, rl, k⟩ := k
  cases q : fe ρ S with
  | stuck => simp only [mIt, q] at k; exact k.elim
  | exn x S1 =>
    refine (pi_list (tg := tg) h).run pins s σ H R I (tD.run en rl ?_)
    rw [q]
    simp only [mIt, q] at k
    exact k
  | ok d S1 =>
    cases d <;> first | (simp only [mIt, q] at k; exact k.elim) | skip
    · rename_i l
      simp only [mIt, q] at k
      refine (pi_tup (tg := tg) h).run pins s σ H R I (tD.run en rl ?_)
      rw [q]
      intro F' μ' H' v g1 r1 p1
      simp only [Rep] at p1
      obtain ⟨a, xs, ea, ⟨hs, _⟩, hr⟩ := p1
      exact ⟨a, ea, ⟨xs, sqT_mono (g := gX X) r1.gr0 hs⟩, k F' μ' H' _ g1 r1 (walkD_tup hs hr)⟩
    · rename_i l
      simp only [mIt, q] at k
      refine (pi_list (tg := tg) h).run pins s σ H R I (tD.run en rl ?_)
      rw [q]
      intro F' μ' H' v g1 r1 p1
      simp only [Rep] at p1
      obtain ⟨a, xs, ea, hs, hr⟩ := p1
      exact ⟨a, ea, ⟨xs, sqL_mono (g := gX X) r1.gr0 hs⟩, k F' μ' H' _ g1 r1 (walkD_list hs hr)⟩
theorem di_range1 (hm : X.mg "range" = none) (h : DE X W e fe) (hg : Gl X "range" := by rfl) (hs : starEach [e] X.env = [(false, eval e X.env)] := by rfl) : DI X W tg (.Call (.Name "range" p) [e] [] pos) (mRange1 fe) := by
  refine PI.weak (pi_range1 hg hm (pa_cons h pa_nil hs) hs) fun σ H R ⟨P, ρ, F, μ, S, en, rl, k⟩ => ?_
  refine tD.run en rl (Fin.imp (Fin.bind (rep := repD (gX X)) k) (fun v H1 ⟨d, F1, μ1, S1, g1, r1, p1, k1⟩ => ?_) fun _ _ _ z => z)
  cases d <;> first | exact k1.elim | skip
  rename_i j
  simp only at k1
  split at k1
  · rename_i hj
    exact ⟨j, by rw [p1.int], hj.1, hj.2, k1.here r1 walkD_range⟩
  · exact k1.elim
theorem di_range2 (hm : X.mg "range" = none) (h : DE X W e fe) (h2 : DE X W e2 fe2) (hg : Gl X "range" := by rfl) (hs : starEach [e, e2] X.env = [(false, eval e X.env), (false, eval e2 X.env)] := by rfl) (hs2 : starEach [e2] X.env = [(false, eval e2 X.env)] := by rfl) :
    DI X W tg (.Call (.Name "range" p) [e, e2] [] pos) (mRange2 fe fe2) := by
  refine PI.weak (pi_range2 hg hm (pa_cons h (pa_cons h2 pa_nil hs2) (by rw [hs, hs2])) hs hs2) fun σ H R ⟨P, ρ, F, μ, S, en, rl, k⟩ => ?_
  refine tD.run en rl (Fin.imp (Fin.bind (rep := repD (gX X)) k) (fun v H1 ⟨d, F1, μ1, S1, g1, r1, p1, k1⟩ => ?_) fun _ _ _ z => z)
  refine tD.run (en.mono g1) r1 (Fin.imp (Fin.bind (rep := repD (gX X)) k1) (fun v2 H2 ⟨d2, F2, μ2, S2, g2, r2, p2, k2⟩ => ?_) fun _ _ _ z => z)
  cases d with
  | int i =>
    cases d2 with
    | int j =>
      simp only at k2
      split at k2
      · rename_i hj
        exact ⟨i, j, by rw [p1.int, p2.int], hj, k2.here r2 walkD_range⟩
      · exact k2.elim
    | _ => exact k2.elim
  | _ => exact k2.elim
theorem di_enum {elts : List Expr} {kk : Nat} (hm : X.mg "enumerate" = none) (h : DE X W e fe) (hg : Gl X "enumerate" := by rfl) (hs : starEach [e] X.env = [(false, eval e X.env)] := by rfl) :
    DI X W (.Tuple elts kk tpos) (.Call (.Name "enumerate" p) [e] [] pos) (mEnum fe) := by
  refine PI.weak (pi_enum hg hm (pa_cons h pa_nil hs) hs) fun σ H R ⟨P, ρ, F, μ, S, en, rl, k⟩ => ?_
  refine tD.run en rl (Fin.imp (Fin.bind (rep := repD (gX X)) k) (fun v H1 ⟨d, F1, μ1, S1, g1, r1, p1, k1⟩ => ?_) fun _ _ _ z => z)
  cases d <;> first | exact k1.elim | skip
  simp only [Rep] at p1
  obtain ⟨a, xs, ea, hs, hr⟩ := p1
  exact ⟨a, xs, by rw [ea], sqL_mono (g := gX X) r1.gr0 hs, k1.here r1 (walkD_enum hs hr)⟩
theorem di_zip {elts : List Expr} {kk : Nat} (hm : X.mg "zip" = none) (h : DE X W e fe) (h2 : DE X W e2 fe2) (hg : Gl X "zip" := by rfl) (hs : starEach [e, e2] X.env = [(false, eval e X.env), (false, eval e2 X.env)] := by rfl) (hs2 : starEach [e2] X.env = [(false, eval e2 X.env)] := by rfl) (hz : (backTo pos (starEach [e2] X.env)).any (·.1) = false := by rfl) :
    DI X W (.Tuple elts kk tpos) (.Call (.Name "zip" p) [e, e2] [] pos) (mZip fe fe2) := by
  refine PI.weak (RZ.pi_zipA hg hm (pa_cons h (pa_cons h2 pa_nil hs2) (by rw [hs, hs2])) (by rw [hs, hs2]) hz) fun σ H R ⟨P, ρ, F, μ, S, en, rl, k⟩ => ?_
  refine tD.run en rl (Fin.imp (Fin.bind (rep := repD (gX X)) k) (fun v H1 ⟨d, F1, μ1, S1, g1, r1, p1, k1⟩ => ?_) fun _ _ _ z => z)
  refine tD.run (en.mono g1) r1 (Fin.imp (Fin.bind (rep := repD (gX X)) k1) (fun v2 H2 ⟨d2, F2, μ2, S2, g2, r2, p2, k2⟩ => ?_) fun _ _ _ z => z)
  have p1 := p1.mono g2
  cases d <;> cases d2 <;> first | exact k2.elim | skip
  · simp only [Rep] at p1 p2
    obtain ⟨a, xs, ea, ⟨hs, _⟩, hr⟩ := p1
    obtain ⟨b, ys, eb, ⟨hs', _⟩, hr'⟩ := p2
    exact ⟨a, b, xs, ys, by rw [ea, eb], .inr ⟨sqT_mono (g := gX X) r2.gr0 hs, sqT_mono (g := gX X) r2.gr0 hs', k2.here r2 (walkD_zipT hs hr hs' hr')⟩⟩
  · simp only [Rep] at p1 p2
    obtain ⟨a, xs, ea, hs, hr⟩ := p1
    obtain ⟨b, ys, eb, hs', hr'⟩ := p2
    exact ⟨a, b, xs, ys, by rw [ea, eb], .inl ⟨sqL_mono (g := gX X) r2.gr0 hs, sqL_mono (g := gX X) r2.gr0 hs', k2.here r2 (walkD_zipL hs hr hs' hr')⟩⟩
end

/-! ### for -/
def mForL (gm : GM) (fb : SM) : List D → Env → Store → O
  | [], ρ, S => .go .nx ρ S
  | d :: ds, ρ, S => match gm d ρ S with
    | none => .stuck
    | some x => match fb x.1 x.2 with
      | .go .nx ρ S => mForL gm fb ds ρ S
      | .go .ct ρ S => mForL gm fb ds ρ S
      | .go .bk ρ S => .go .nx ρ S
      | o => o
def mFor (fi : IM) (gm : GM) (fb : SM) : SM := fun ρ S => (fi ρ S).to ρ fun ds S => mForL gm fb ds ρ S
theorem ds_for {X : Cx} {W : WX} {tg iter : Expr} {body : List Stmt} {fi : IM} {gm : GM} {fb : SM} {pos : Pos} (hp : PassesOwn (model X.prog X.w) X.A X.env X.xe) (hc : X.calm = true) (hi : DI X W tg iter fi) (hg : DG X tg gm) (hb : DSs X W body fb)
    (hs : ∀ x, foldedSetIterable iter X.env x = pure x := by intro _; rfl) : DS X W (.For tg iter body [] pos) (mFor fi gm fb) := by
  refine PS.weak (ps_for hp hc hi hg hb hs) fun Dn σ H ⟨P, ρ, F, μ, S, en, rl, k⟩ => ?_
  refine ⟨P, ρ, F, μ, S, en, rl, Fin.imp (FinS.to (rep := repI (gX X)) en k) (fun J H1 ⟨ds, F1, μ1, S1, g1, r1, w, k1⟩ => ?_) fun _ _ _ z => z⟩
  refine ⟨fun i m σ H => m = ds.length - i ∧ i ≤ ds.length ∧ ∃ ρ F μ S, EnvR (gX X) F μ ρ σ ∧ Rel (gX X) P F μ S H ∧ Gr F1 μ1 F μ ∧ FinS (gX X) P F μ (mForL gm fb (ds.drop i) ρ S) Dn W, ⟨_, rfl, Nat.zero_le _, ρ, F1, μ1, S1, en.mono g1, r1, Gr.refl _ _, k1⟩, ?_⟩
  rintro i m σ2 H2 ⟨rfl, hi, ρ2, F2, μ2, S2, en2, r2, g2, k2⟩
  by_cases hlt : i < ds.length
  · refine .inr ⟨w.goes P F2 μ2 S2 H2 i g2 r2 hlt, _, fun σ' H' p' => ⟨ds.length - (i + 1), by omega, p'⟩, fun x H' y => ?_⟩
    obtain ⟨F3, g3, r3, rp⟩ := w.yields P F2 μ2 S2 H2 i ds[i] x H' g2 r2 (by simp [hlt]) y
    rw [List.drop_eq_getElem_cons hlt] at k2
    unfold mForL at k2
    cases q : gm ds[i] ρ2 S2 with
    | none => rw [q] at k2; exact k2.elim
    | some z =>
      rw [q] at k2
      refine ⟨ds[i], P, ρ2, F3, μ2, S2, z.1, z.2, en2.mono g3, r3, rp, q, fun F4 μ4 H4 σ4 g4 r4 en4 => ?_⟩
      refine tDS.run en4 r4 ?_
      have gg := (g3.trans g4)
      simp only at k2
      cases q2 : fb z.1 z.2 with
      | stuck => rw [q2] at k2; exact k2.elim
      | go fl ρ5 S5 =>
        rw [q2] at k2
        intro F5 μ5 H5 g5 r5
        cases fl with
        | nx => exact fun σ5 en5 => ⟨rfl, hlt, ρ5, F5, μ5, S5, en5, r5, (g2.trans gg).trans g5, FinS.gr (gg.trans g5) k2⟩
        | ct => exact fun σ5 en5 => ⟨rfl, hlt, ρ5, F5, μ5, S5, en5, r5, (g2.trans gg).trans g5, FinS.gr (gg.trans g5) k2⟩
        | bk => exact (FinS.gr (gg.trans g5) k2).here r5
        | rt d => exact (FinS.gr (gg.trans g5) k2).here r5
        | ex e => exact (FinS.gr (gg.trans g5) k2).here r5
  · have e : i = ds.length := by omega
    subst e
    rw [List.drop_length] at k2
    exact .inl ⟨w.stops P F2 μ2 S2 H2 g2 r2, k2.here r2 σ2 en2⟩

/-! ### while -/
/-- n turns at most -/
def mWhileN (c : BM) (b : SM) : Nat → Env → Store → Option O
  | 0, _, _ => none
  | n + 1, ρ, S => match c ρ S with
    | .ok true S => match b ρ S with
      | .go .nx ρ S => mWhileN c b n ρ S
      | .go .ct ρ S => mWhileN c b n ρ S
      | .go .bk ρ S => some (.go .nx ρ S)
      | o => some o
    | .ok false S => some (.go .nx ρ S)
    | .exn e S => some (.go (.ex e) ρ S)
    | .stuck => some .stuck
open Classical in
noncomputable def mWhile (c : BM) (b : SM) : SM := fun ρ S => if h : ∃ n o, mWhileN c b n ρ S = some o then (Classical.choose_spec h).choose else .stuck
theorem mWhileN_more {c : BM} {b : SM} : ∀ {n m : Nat} {ρ : Env} {S : Store} {o : O}, mWhileN c b n ρ S = some o → n ≤ m → mWhileN c b m ρ S = some o
  | 0, _, _, _, _, h, _ => by cases h
  | n + 1, 0, _, _, _, _, hm => by omega
  | n + 1, m + 1, ρ, S, o, h, hm => by
    unfold mWhileN at h ⊢
    cases q : c ρ S with
    | stuck => rw [q] at h; exact h
    | exn e S1 => rw [q] at h; exact h
    | ok t S1 =>
      rw [q] at h
      cases t with
      | false => exact h
      | true =>
        simp only at h ⊢
        cases q2 : b ρ S1 with
        | stuck => rw [q2] at h; exact h
        | go fl ρ2 S2 =>
          rw [q2] at h
          cases fl with
          | nx => exact mWhileN_more h (by omega)
          | ct => exact mWhileN_more h (by omega)
          | bk => exact h
          | rt d => exact h
          | ex e => exact h
theorem mWhile_of {c : BM} {b : SM} {n : Nat} {ρ : Env} {S : Store} {o : O} (h : mWhileN c b n ρ S = some o) : mWhile c b ρ S = o := by
  unfold mWhile
  have hx : ∃ n o, mWhileN c b n ρ S = some o := ⟨n, o, h⟩
  rw [dif_pos hx]
  have h1 := (Classical.choose_spec hx).choose_spec
  have h2 := mWhileN_more h (Nat.le_max_left n (Classical.choose hx))
  have h3 := mWhileN_more h1 (Nat.le_max_right n (Classical.choose hx))
  rw [h2] at h3
  exact (Option.some.inj h3).symm
theorem mWhile_get {c : BM} {b : SM} {ρ : Env} {S : Store} (h : mWhile c b ρ S ≠ .stuck) : ∃ n, mWhileN c b n ρ S = some (mWhile c b ρ S) := by
  by_cases hx : ∃ n o, mWhileN c b n ρ S = some o
  · obtain ⟨n, o, e⟩ := hx
    exact ⟨n, by rw [mWhile_of e]; exact e⟩
  · exact absurd (by unfold mWhile; rw [dif_neg hx]) h
/-- one turn -/
theorem mWhile_eq (c : BM) (b : SM) (ρ : Env) (S : Store) : mWhile c b ρ S = (c ρ S).to ρ fun t S => if t then (match b ρ S with
    | .go .nx ρ S => mWhile c b ρ S
    | .go .ct ρ S => mWhile c b ρ S
    | .go .bk ρ S => .go .nx ρ S
    | o => o) else .go .nx ρ S := by
  have up : ∀ (ρ2 : Env) (S2 : Store) (o : O), (∀ n o', mWhileN c b n ρ2 S2 = some o' → mWhileN c b (n + 1) ρ S = some o') → (∀ n o', mWhileN c b (n + 1) ρ S = some o' → mWhileN c b n ρ2 S2 = some o') → mWhile c b ρ S = mWhile c b ρ2 S2 := fun ρ2 S2 o h1 h2 => by
    by_cases hx : ∃ n o, mWhileN c b n ρ2 S2 = some o
    · obtain ⟨n, o, e⟩ := hx
      rw [mWhile_of e, mWhile_of (h1 n o e)]
    · have hy : ¬ ∃ n o, mWhileN c b n ρ S = some o := fun ⟨n, o, e⟩ => by
        cases n with
        | zero => cases e
        | succ n => exact hx ⟨n, o, h2 n o e⟩
      unfold mWhile
      rw [dif_neg hx, dif_neg hy]
  cases q : c ρ S with
  | stuck => exact mWhile_of (n := 1) (by unfold mWhileN; rw [q]; rfl)
  | exn e S1 => exact mWhile_of (n := 1) (by unfold mWhileN; rw [q]; rfl)
  | ok t S1 =>
    cases t with
    | false => exact mWhile_of (n := 1) (by unfold mWhileN; rw [q]; rfl)
    | true =>
      simp only [R.to_ok, if_true]
      cases q2 : b ρ S1 with
      | stuck => exact mWhile_of (n := 1) (by unfold mWhileN; rw [q]; simp only [q2])
      | go fl ρ2 S2 =>
        cases fl with
        | nx => exact up ρ2 S2 .stuck (fun n o' e => by unfold mWhileN; rw [q]; simp only [q2]; exact e) (fun n o' e => by unfold mWhileN at e; rw [q] at e; simp only [q2] at e; exact e)
        | ct => exact up ρ2 S2 .stuck (fun n o' e => by unfold mWhileN; rw [q]; simp only [q2]; exact e) (fun n o' e => by unfold mWhileN at e; rw [q] at e; simp only [q2] at e; exact e)
        | bk => exact mWhile_of (n := 1) (by unfold mWhileN; rw [q]; simp only [q2])
        | rt d => exact mWhile_of (n := 1) (by unfold mWhileN; rw [q]; simp only [q2])
        | ex e => exact mWhile_of (n := 1) (by unfold mWhileN; rw [q]; simp only [q2])
theorem ds_while {X : Cx} {W : WX} {c : Expr} {body : List Stmt} {fc : BM} {fb : SM} {pos : Pos} (hp : PassesOwn (model X.prog X.w) X.A X.env X.xe) (hc : DB X W c fc) (hb : DSs X W body fb) : DS X W (.While c body [] pos) (mWhile fc fb) := by
  refine PS.weak (ps_while hp hc hb) fun Dn σ H ⟨P, ρ, F, μ, S, en, rl, k⟩ => ?_
  have hn : mWhile fc fb ρ S ≠ .stuck := fun z => by rw [z] at k; exact k.elim
  obtain ⟨n, e⟩ := mWhile_get hn
  refine ⟨fun m σ H => ∃ ρ F μ S o, EnvR (gX X) F μ ρ σ ∧ Rel (gX X) P F μ S H ∧ mWhileN fc fb m ρ S = some o ∧ FinS (gX X) P F μ o Dn W, ⟨n, ρ, F, μ, S, _, en, rl, e, k⟩, ?_⟩
  rintro m σ1 H1 ⟨ρ1, F1, μ1, S1, o, en1, r1, e1, k1⟩
  cases m with
  | zero => cases e1
  | succ m =>
    unfold mWhileN at e1
    refine tDB.run en1 r1 ?_
    cases q : fc ρ1 S1 with
    | stuck => rw [q] at e1; cases e1; exact k1.elim
    | exn x S2 =>
      rw [q] at e1; cases e1
      exact fun F' μ' H' c d g1 g2 g3 => k1 F' μ' H' g1 g2 σ1 c d (en1.mono g1) g3
    | ok t S2 =>
      rw [q] at e1
      intro F2 μ2 H2 t' g2 r2 p2
      cases p2
      cases t with
      | false =>
        cases e1
        exact iteF ((FinS.gr g2 k1).here r2 σ1 (en1.mono g2))
      | true =>
        simp only at e1
        refine iteT ⟨fun σ' H' => ∃ ρ F μ S o, EnvR (gX X) F μ ρ σ' ∧ Rel (gX X) P F μ S H' ∧ mWhileN fc fb m ρ S = some o ∧ FinS (gX X) P F μ o Dn W, fun σ' H' z => ⟨m, Nat.lt_succ_self m, z⟩, tDS.run (en1.mono g2) r2 ?_⟩
        cases q2 : fb ρ1 S2 with
        | stuck => rw [q2] at e1; cases e1; exact k1.elim
        | go fl ρ3 S3 =>
          rw [q2] at e1
          intro F3 μ3 H3 g3 r3
          cases fl with
          | nx => exact fun σ3 en3 => ⟨ρ3, F3, μ3, S3, o, en3, r3, e1, FinS.gr (g2.trans g3) k1⟩
          | ct => exact fun σ3 en3 => ⟨ρ3, F3, μ3, S3, o, en3, r3, e1, FinS.gr (g2.trans g3) k1⟩
          | bk => cases e1; exact (FinS.gr (g2.trans g3) k1).here r3
          | rt d => cases e1; exact (FinS.gr (g2.trans g3) k1).here r3
          | ex x => cases e1; exact (FinS.gr (g2.trans g3) k1).here r3

/-! ### comprehensions -/
abbrev W0 : WX := fun _ _ _ _ => False
def wipeD (ρ : Env) : List Nat → Env
  | [] => ρ
  | v :: vs => (wipeD ρ vs).set v none
theorem EnvR.wipe {g : G} {F : Hp} {μ : List Addr} {ρ : Env} {σ : L2.St} (h : EnvR g F μ ρ σ) : ∀ vs : List Nat, EnvR g F μ (wipeD ρ vs) (L2.wipe σ vs)
  | [] => h
  | v :: vs => by
    have ih := EnvR.wipe h vs
    refine ⟨by simp [wipeD, L2.wipe, ih.len], fun i d e => ?_⟩
    unfold wipeD at e
    unfold L2.wipe
    by_cases hv : v = i
    · subst hv
      by_cases hl : v < (wipeD ρ vs).length
      · rw [List.getElem?_set_self hl] at e; cases e
      · rw [List.getElem?_eq_none (by simpa using hl)] at e; cases e
    · rw [List.getElem?_set_ne hv] at e
      obtain ⟨w, h1, h2⟩ := ih.at_ i d e
      exact ⟨w, by rw [List.getElem?_set_ne hv]; exact h1, h2⟩
/-- targets that store in the slots vs alone -/
def tDGw (g : G) (vs : List Nat) (f : GM) : TG := fun v σ H Q => ∃ d P ρ F μ S ρ' S', EnvR g F μ ρ σ ∧ Rel g P F μ S H ∧ Rep g F μ d v ∧ f d ρ S = some (ρ', S') ∧ ∀ F' μ' H' σ', Gr F μ F' μ' → Rel g P F' μ' S' H' → EnvR g F' μ' ρ' σ' → L2.wipe σ' vs = L2.wipe σ vs → Q σ' H'
def tDGsw (g : G) (vs : List Nat) (f : List D → Env → Store → Option (Env × Store)) : TGs := fun ws σ H Q => ∃ ds P ρ F μ S ρ' S', EnvR g F μ ρ σ ∧ Rel g P F μ S H ∧ Reps g F μ ds ws ∧ f ds ρ S = some (ρ', S') ∧ ∀ F' μ' H' σ', Gr F μ F' μ' → Rel g P F' μ' S' H' → EnvR g F' μ' ρ' σ' → L2.wipe σ' vs = L2.wipe σ vs → Q σ' H'
abbrev DGw (X : Cx) (vs : List Nat) (e : Expr) (f : GM) : Prop := PG X e (tDGw (gX X) vs f)
abbrev DGsw (X : Cx) (vs : List Nat) (es : List Expr) (f : List D → Env → Store → Option (Env × Store)) : Prop := PGs X es (tDGsw (gX X) vs f)
theorem wipe_set {σ : L2.St} {i : Nat} {x : Option V} : ∀ {vs : List Nat}, i ∈ vs → L2.wipe (σ.set i x) vs = L2.wipe σ vs
  | v :: vs, h => by
    unfold L2.wipe
    by_cases hv : i ∈ vs
    · rw [wipe_set hv]
    · have e : v = i := by
        rcases List.mem_cons.mp h with e | e
        · exact e.symm
        · exact absurd e hv
      subst e
      have key : ∀ ws : List Nat, v ∉ ws → L2.wipe (σ.set v x) ws = (L2.wipe σ ws).set v x := by
        intro ws
        induction ws with
        | nil => intro _; rfl
        | cons w ws ih =>
          intro hw
          unfold L2.wipe
          rw [ih fun z => hw (List.mem_cons_of_mem _ z)]
          exact List.set_comm _ _ (fun z => hw (by rw [z]; exact List.mem_cons_self))
      rw [key vs hv, List.set_set]
section
variable {X : Cx} {vs : List Nat} {pos : Pos} {gm : GM}
theorem dgw_name (i : Nat) {x : Str} (hv : i ∈ vs) (hN : X.N.Nodup) (hi : X.N[i]? = some x := by rfl) (hx : Loc X.env.scope x := by first | exact .inl rfl | exact .inr rfl) (hf : X.fn x = true ∨ X.env.scope.names.lookup x = some .local := by first | exact .inl rfl | exact .inr rfl) : DGw X vs (.Name x pos) (gN i) :=
  PG.weak (pg_name hN hi hx hf) fun v σ H Q ⟨d, P, ρ, F, μ, S, ρ', S', en, rl, p, e, k⟩ => by
    cases e
    exact k F μ H _ (Gr.refl _ _) rl (en.set p) (wipe_set hv)
theorem dgsw_nil : DGsw X vs [] gNilM := PGs.weak pgs_nil fun v σ H Q ⟨ds, P, ρ, F, μ, S, ρ', S', en, rl, p, e, k⟩ => by
  cases ds with
  | cons _ _ => cases e
  | nil =>
    cases e
    simp only [Reps] at p
    exact ⟨p, k F μ H σ (Gr.refl _ _) rl en rfl⟩
theorem dgsw_cons {e : Expr} {es : List Expr} {r : List D → Env → Store → Option (Env × Store)} (h1 : DGw X vs e gm) (h2 : DGsw X vs es r)
    (hs : (assignEach (e :: es) X.env).map (·.2) = assign e X.env :: (assignEach es X.env).map (·.2) := by rfl) : DGsw X vs (e :: es) (gConsM gm r) :=
  PGs.weak (pgs_cons h1 h2 hs) fun v σ H Q ⟨ds, P, ρ, F, μ, S, ρ', S', en, rl, p, e, k⟩ => by
    cases ds with
    | nil => cases e
    | cons d ds =>
      simp only [Reps] at p
      obtain ⟨v, ws, rfl, p1, p2⟩ := p
      unfold gConsM at e
      cases q : gm d ρ S with
      | none => simp [q] at e
      | some x =>
        simp [q] at e
        refine ⟨v, ws, rfl, d, P, ρ, F, μ, S, x.1, x.2, en, rl, p1, q, fun F' μ' H' σ' g1 r1 en1 w1 => ?_⟩
        exact ⟨ds, P, x.1, F', μ', x.2, ρ', S', en1, r1, p2.mono g1, e, fun F2 μ2 H2 σ2 g2 r2 en2 w2 => k F2 μ2 H2 σ2 (g1.trans g2) r2 en2 (w2.trans w1)⟩
theorem dgw_tup {es : List Expr} {k n : Nat} {r : List D → Env → Store → Option (Env × Store)} (hc : X.calm = true) (h : DGsw X vs es r)
    (hn : (assignEach es X.env).length = n := by rfl) (hst : (assignEach es X.env).findIdx? (·.1) = none := by rfl) : DGw X vs (.Tuple es k pos) (gTupM n r) :=
  PG.weak (pg_or (pg_tup hc h hn hst) (pg_lst hc h hn hst)) fun v σ H Q ⟨d, P, ρ, F, μ, S, ρ', S', en, rl, p, e, k⟩ => by
    have sb : Gr F μ H μ := rl.gr0
    cases d <;> first | (cases e; done) | skip
    · rename_i l
      have e : (if l.length = n then r l ρ S else none) = some (ρ', S') := e
      split at e
      · rename_i hl
        simp only [Rep] at p
        obtain ⟨a, xs, rfl, ⟨hs, _⟩, hr⟩ := p
        exact .inl ⟨a, xs, rfl, sqT_mono (g := gX X) sb hs, hr.length.symm.trans hl, l, P, ρ, F, μ, S, ρ', S', en, rl, hr, e, k⟩
      · cases e
    · rename_i l
      have e : (if l.length = n then r l ρ S else none) = some (ρ', S') := e
      split at e
      · rename_i hl
        simp only [Rep] at p
        obtain ⟨a, xs, rfl, hs, hr⟩ := p
        exact .inl ⟨a, xs, rfl, sqT_mono (g := gX X) sb hs, hr.length.symm.trans hl, l, P, ρ, F, μ, S, ρ', S', en, rl, hr, e, k⟩
      · cases e
    · rename_i l
      have e : (if l.length = n then r l ρ S else none) = some (ρ', S') := e
      split at e
      · rename_i hl
        simp only [Rep] at p
        obtain ⟨a, xs, rfl, hs, hr⟩ := p
        exact .inr ⟨a, xs, rfl, sqL_mono (g := gX X) sb hs, hr.length.symm.trans hl, l, P, ρ, F, μ, S, ρ', S', en, rl, hr, e, k⟩
      · cases e
end
/-- nothing is raised here -/
def R.nx {α : Type} : R α → R α
  | .exn _ _ => .stuck
  | r => r
@[simp] theorem R.nx_ok {α : Type} (a : α) (S : Store) : (R.ok a S).nx = .ok a S := rfl
@[simp] theorem R.nx_stuck {α : Type} : (R.stuck : R α).nx = .stuck := rfl
theorem Fin.nx {α β : Type} {rep : Hp → List Addr → α → β → Prop} {g : G} {P F : Hp} {μ : List Addr} {r : R α} {Q : β → Hp → Prop} {E E' : XK} (h : Fin rep g P F μ r.nx Q E) : Fin rep g P F μ r Q E' := by
  cases r with
  | ok a S => exact h
  | exn e S => exact h.elim
  | stuck => exact h
def mYes : BM := fun _ S => .ok true S
def mLcL (gm : GM) (tt : BM) (te : EM) (ρ : Env) : List D → M (List D)
  | [], S => .ok [] S
  | d :: ds, S => match gm d ρ S with
    | none => .stuck
    | some x => (tt x.1 x.2).nx.bind fun b S => if b then (te x.1 S).nx.bind fun y S => (mLcL gm tt te ρ ds S).bind fun ys S => .ok (y :: ys) S else mLcL gm tt te ρ ds S
/-- what the new list becomes: frozen, or a place -/
def fzL (l : List D) : M D := fun S => .ok (.lst l) S
def plL (l : List D) : M D := fun S => .ok (.ref S.length) (S ++ [.lst l])
def FinL (g : G) (fin : List D → M D) : Prop := ∀ (P F : Hp) (μ : List Addr) (S : Store) (H : Hp) (p : Addr) (acc : List V) (accD : List D) (Q : VK) (E : XK), Rel g (upd P p (.lst acc)) F μ S H → P p = none → Reps g F μ accD acc → Fin (repD g) g P F μ (fin accD S) Q E → Q (.ref p) H
theorem finL_fz {g : G} : FinL g fzL := fun P F μ S H p acc accD Q E r nP pa k => by
  obtain ⟨r4, g4⟩ := r.unhide (P' := P) (o := .lst acc) upd_same (fun a o e => by rw [upd_ne (ne_of_none e nP)]; exact e) nP
  exact (Fin.gr g4 k).here r4 (by simp only [Rep]; exact ⟨p, acc, rfl, .inl (.inl upd_same), pa.mono g4⟩)
theorem finL_pl {g : G} : FinL g plL := fun P F μ S H p acc accD Q E r nP pa k => by
  have g0 : Gr F μ F (μ ++ [p]) := ⟨fun _ _ h => h, fun n q h => by
    have : n < μ.length := (List.getElem?_eq_some_iff.mp h).1
    rw [List.getElem?_append_left this]; exact h⟩
  obtain ⟨r4, g4, e4⟩ := r.place (P' := P) (u := .lst acc) (o := .lst accD) upd_same (fun a o e => by rw [upd_ne (ne_of_none e nP)]; exact e) nP ⟨acc, rfl, pa.mono g0⟩
  exact (Fin.gr g4 k).here r4 (by simp only [Rep]; exact ⟨p, e4, rfl⟩)
def mLcF (fin : List D → M D) (vs : List Nat) (fi : IM) (gm : GM) (tt : BM) (te : EM) : EM := fun ρ S => (fi ρ S).bind fun ds S => if ds.length ≤ sizeLine then (mLcL gm tt te (wipeD ρ vs) ds S).bind fin else .stuck
abbrev mLc := mLcF fzL
abbrev mLcN := mLcF plL
/-- the core: the loop of a comprehension by its mirror -/
theorem lc_run {g : G} {W : WX} {fin : List D → M D} (hfin : FinL g fin) {gm : GM} {tt : BM} {te : EM} {fi : IM} {vs : List Nat} : ∀ σ H Q, tD g W (mLcF fin vs fi gm tt te) σ H Q → tLc (tDI g W fi) (tDGw g vs gm) (tDB g W0 tt) (tD g W0 te) vs σ H Q := fun σ H Q ⟨P, ρ, F, μ, S, en, rl, k⟩ => by
  refine ⟨P, ρ, F, μ, S, en, rl, Fin.imp (Fin.bind (rep := repI g) k) (fun J H1 ⟨ds, F1, μ1, S1, g1, r1, w, k1⟩ => ?_) fun _ _ _ z => z⟩
  split at k1
  rotate_left
  · exact k1.elim
  rename_i hlen
  intro Dl hD
  have nP : P Dl = none := by
    cases e : P Dl with
    | none => rfl
    | some u => rw [(r1.priv Dl u e).1] at hD; cases hD
  refine ⟨fun i m H => m = ds.length - i ∧ i ≤ ds.length ∧ ∃ acc accD F μ S, Rel g (upd P Dl (.lst acc)) F μ S H ∧ Gr F1 μ1 F μ ∧ Reps g F μ accD acc ∧ acc.length ≤ i ∧
    Fin (repD g) g P F μ ((mLcL gm tt te (wipeD ρ vs) (ds.drop i) S).bind fun l S => fin (accD ++ l) S) Q (fun c d H' => W c d σ H'),
    ⟨_, rfl, Nat.zero_le _, [], [], F1, μ1, S1, r1.hide hD, Gr.refl _ _, reps_nil, Nat.zero_le _, k1⟩, ?_⟩
  rintro i m H2 ⟨rfl, hi, acc, accD, F2, μ2, S2, r2, g2, pa, hl, k2⟩
  by_cases hlt : i < ds.length
  · refine .inr ⟨w.goes _ F2 μ2 S2 H2 i g2 r2 hlt, _, fun H' p' => ⟨ds.length - (i + 1), by omega, p'⟩, fun x H' y => ?_⟩
    obtain ⟨F3, g3, r3, rp⟩ := w.yields _ F2 μ2 S2 H2 i ds[i] x H' g2 r2 (by simp [hlt]) y
    rw [List.drop_eq_getElem_cons hlt] at k2
    unfold mLcL at k2
    cases q : gm ds[i] (wipeD ρ vs) S2 with
    | none => rw [q] at k2; exact k2.elim
    | some z =>
      rw [q] at k2
      simp only at k2
      have enw : EnvR g F3 μ2 (wipeD ρ vs) (L2.wipe σ vs) := ((en.mono (g1.trans g2)).mono g3).wipe vs
      refine ⟨ds[i], _, wipeD ρ vs, F3, μ2, S2, z.1, z.2, enw, r3, rp, q, fun F4 μ4 H4 σ4 g4 r4 en4 w4 => ?_⟩
      refine ⟨?_, ?_⟩
      · rw [w4]
        have key : ∀ (σ : L2.St) (ws us : List Nat), (∀ u ∈ us, u ∈ ws) → L2.wipe (L2.wipe σ us) ws = L2.wipe σ ws := by
          intro σ ws us
          induction us with
          | nil => intro _; rfl
          | cons u us ih =>
            intro h
            show L2.wipe ((L2.wipe σ us).set u none) ws = _
            rw [wipe_set (h u List.mem_cons_self)]
            exact ih fun v hv => h v (List.mem_cons_of_mem _ hv)
        exact key σ vs vs fun _ h => h
      · cases qt : tt z.1 z.2 with
        | stuck => rw [qt] at k2; exact k2.elim
        | exn e S5 => rw [qt] at k2; exact k2.elim
        | ok b S5 =>
          rw [qt] at k2
          refine tDB.run en4 r4 ?_
          rw [qt]
          intro F5 μ5 H5 b' g5 r5 eb
          cases eb
          simp only [R.nx_ok, R.bind_ok] at k2
          have g25 := (g3.trans g4).trans g5
          cases b with
          | false =>
            refine iteF ⟨rfl, hlt, acc, accD, F5, μ5, S5, r5, g2.trans g25, pa.mono g25, Nat.le_succ_of_le hl, Fin.gr g25 ?_⟩
            simpa using k2
          | true =>
            simp only [if_true] at k2
            refine iteT ?_
            cases qe : te z.1 S5 with
            | stuck => rw [qe] at k2; exact k2.elim
            | exn e S6 => rw [qe] at k2; exact k2.elim
            | ok yv S6 =>
              rw [qe] at k2
              simp only [R.nx_ok, R.bind_ok] at k2
              refine tD.run (en4.mono g5) r5 ?_
              rw [qe]
              intro F6 μ6 H6 vy g6 r6 py
              have g26 := g25.trans g6
              refine ⟨acc, (r6.priv Dl _ upd_same).1, by have := Nat.lt_of_le_of_lt hl hlt; omega, rfl, hlt, acc ++ [vy], accD ++ [yv], F6, μ6, S6, ?_, g2.trans g26, (pa.mono g26).append (reps_cons py reps_nil), by rw [List.length_append, List.length_singleton]; omega, Fin.gr g26 ?_⟩
              · have := r6.hidden (o' := .lst (acc ++ [vy])) (upd_same (H := P) (a := Dl) (o := .lst acc))
                rw [upd_upd] at this
                exact this
              · have e : ((mLcL gm tt te (wipeD ρ vs) (ds.drop (i + 1)) S6).bind fun ys S => (R.ok (yv :: ys) S)).bind (fun l S => fin (accD ++ l) S) = (mLcL gm tt te (wipeD ρ vs) (ds.drop (i + 1)) S6).bind fun l S => fin ((accD ++ [yv]) ++ l) S := by
                  cases mLcL gm tt te (wipeD ρ vs) (ds.drop (i + 1)) S6 <;> simp
                rw [← e]
                exact k2
  · have e : i = ds.length := by omega
    subst e
    rw [List.drop_length] at k2
    simp only [mLcL, R.bind_ok, List.append_nil] at k2
    exact .inl ⟨w.stops _ F2 μ2 S2 H2 g2 r2, hfin P F2 μ2 S2 H2 Dl acc accD Q _ r2 nP pa k2⟩
section
variable {X : Cx} {W : WX} {elt tg iter : Expr} {ifs : List Expr} {scope : Scope} {own : List (Str × Nat)} {pos : Pos} {fi : IM} {gm : GM} {tt : BM} {te : EM}
abbrev DT (X : Cx) (W : WX) (es : List Expr) (f : BM) : Prop := PTs X es (tDB (gX X) W f)
theorem dt_nil {X : Cx} {W : WX} : DT X W [] mYes := by
  refine ⟨fun pins s σ H Q I h => ?_⟩
  obtain ⟨P, ρ, F, μ, S, en, rl, k⟩ := h
  exact pts_nil.run pins s σ H Q I (k.here rl rfl)
theorem dt_one {X : Cx} {W : WX} {e : Expr} {f : BM} (h : DB X W e f) : DT X W [e] f := pts_one h
theorem d_lc {fin : List D → M D} (hfin : FinL (gX X) fin) (hc : X.calm = true) (hN : X.N.Nodup) (hi : DI X W tg iter fi) (ok : BlkOk X.N X.env.scope scope own)
    (hg : ∀ (s : Shared) (H : Hp) (C : Addr) (cl : List (Str × Addr)) (fp : List Addr), DGw (X.blk s H scope (compEnvC scope cl C X.env) fp) (own.map (·.2)) tg gm) (ht : ∀ (s : Shared) (H : Hp) (C : Addr) (cl : List (Str × Addr)) (fp : List Addr), DT (X.blk s H scope (compEnvC scope cl C X.env) fp) W0 ifs tt)
    (he : ∀ (s : Shared) (H : Hp) (C : Addr) (cl : List (Str × Addr)) (fp : List Addr), DE (X.blk s H scope (compEnvC scope cl C X.env) fp) W0 elt te) (hs : ∀ x, foldedSetIterable iter X.env x = pure x := by intro _; rfl) :
    DE X W (.ListComp elt [⟨tg, iter, ifs, 0⟩] scope pos) (mLcF fin (own.map (·.2)) fi gm tt te) := PE.weak (pe_lc hc hN hi ok hg ht he hs) (lc_run hfin)
theorem ds_setLc {fin : List D → M D} (hfin : FinL (gX X) fin) (i : Nat) {y : Str} {py spos : Pos} (hc : X.calm = true) (hN : X.N.Nodup) (hi : DI X W tg iter fi) (ok : BlkOk X.N X.env.scope scope own)
    (hg : ∀ (s : Shared) (H : Hp) (C : Addr) (cl : List (Str × Addr)) (fp : List Addr), DGw (X.blk s H scope (compEnvC scope cl C X.env) fp) (own.map (·.2)) tg gm) (ht : ∀ (s : Shared) (H : Hp) (C : Addr) (cl : List (Str × Addr)) (fp : List Addr), DT (X.blk s H scope (compEnvC scope cl C X.env) fp) W0 ifs tt)
    (he : ∀ (s : Shared) (H : Hp) (C : Addr) (cl : List (Str × Addr)) (fp : List Addr), DE (X.blk s H scope (compEnvC scope cl C X.env) fp) W0 elt te)
    (hsw : swapsWith (.ListComp elt [⟨tg, iter, ifs, 0⟩] scope pos) (some (.Name y py)) spos.line X.env = pure true) (hy : X.N[i]? = some y := by rfl) (hyl : X.env.scope.names.lookup y = some .local := by rfl) (hs : ∀ x, foldedSetIterable iter X.env x = pure x := by intro _; rfl) :
    DS X W (.Assign [.Name y py] (.ListComp elt [⟨tg, iter, ifs, 0⟩] scope pos) spos) (mAsg (mLcF fin (own.map (·.2)) fi gm tt te) (gN i)) := by
  refine PS.weak (ps_setLc (g := tDGw (gX X) (own.map (·.2)) gm) (tt := tDB (gX X) W0 tt) (te := tD (gX X) W0 te) hc hN hy hyl hsw hi ok hg ht he hs) fun Dn σ H ⟨P, ρ, F, μ, S, en, rl, k⟩ => ?_
  refine lc_run hfin σ H _ (tD.run en rl (Fin.imp (FinS.to (rep := repD (gX X)) en k) (fun v H1 ⟨a, F1, μ1, S1, g1, r1, p1, k1⟩ => ?_) fun _ _ _ z => z))
  exact k1 F1 μ1 H1 (Gr.refl _ _) r1 _ ((en.mono g1).set p1)
end
end DL

/-! The data layer, 7: stores into lists, methods of lists, the end of a law. -/
namespace DL
open PySem PySem.Spec PyProof.Rows L2

/-! ### x[i] = e -/
def setIx (o i d : D) (S : Store) : Option Store := match o, i with
  | .ref n, .int k => match S[n]? with
    | some (.lst l) => match ixN l.length k with
      | some j => some (S.set n (.lst (l.set j d)))
      | none => none
    | _ => none
  | _, _ => none
def gSubM (fo fi : EM) : GM := fun d ρ S => match (fo ρ S).nx with
  | .ok o S1 => match (fi ρ S1).nx with
    | .ok i S2 => (setIx o i d S2).map fun S3 => (ρ, S3)
    | _ => none
  | _ => none
section
variable {X : Cx} {W : WX} {pos : Pos} {o i : Expr} {fo fi : EM}
theorem dg_sub (ho : DE X W o fo) (hi : DE X W i fi) (ha : ∀ v, assign (.Subscript o i pos) X.env v = (do
      let ov ← holding [v] (eval o X.env)
      let iv ← holding [v, ov] (eval i X.env)
      standAt pos
      holding [v, ov, iv] (setItem ov iv v)
      release [v, ov, iv] []) := by intro _; rfl) : DG X (.Subscript o i pos) (gSubM fo fi) :=
  PG.weak (pg_sub ho hi set_list ha) fun v σ H Q ⟨d, P, ρ, F, μ, S, ρ', S', en, rl, p, e, k⟩ => by
    unfold gSubM at e
    cases q : fo ρ S with
    | stuck => rw [q] at e; cases e
    | exn x S1 => rw [q] at e; cases e
    | ok x S1 =>
      rw [q] at e
      simp only [R.nx_ok] at e
      refine tD.run en rl ?_
      rw [q]
      intro F1 μ1 H1 vx g1 r1 p1
      cases q2 : fi ρ S1 with
      | stuck => rw [q2] at e; cases e
      | exn x S1 => rw [q2] at e; cases e
      | ok y S2 =>
        rw [q2] at e
        simp only [R.nx_ok] at e
        refine tD.run (en.mono g1) r1 ?_
        rw [q2]
        intro F2 μ2 H2 vy g2 r2 p2
        have px := p1.mono g2
        unfold setIx at e
        cases x with
        | ref n =>
          cases y with
          | int z =>
            simp only at e
            cases qs : S2[n]? with
            | none => rw [qs] at e; cases e
            | some ob =>
              rw [qs] at e
              cases ob with
              | lst l =>
                simp only at e
                cases qi : ixN l.length z with
                | none => rw [qi] at e; cases e
                | some j =>
                  rw [qi] at e
                  simp only [Option.map_some, Option.some.injEq, Prod.mk.injEq] at e
                  obtain ⟨rfl, rfl⟩ := e
                  obtain ⟨a, xs, rfl, hm, hH, hr⟩ := px.refL r2 qs
                  refine ⟨a, xs, z, j, rfl, p2.int, hH, by rw [← hr.length]; exact qi, ?_⟩
                  have gg := g1.trans g2
                  exact k F2 μ2 _ σ gg (r2.write qs (by intro z; cases z) hm ⟨_, rfl, hr.set j (p.mono gg)⟩) (en.mono gg)
              | _ => cases e
          | _ => cases e
        | _ => cases e
end

/-! ### methods of built-in types -/
/-- a method by values: the receiver's type, the mirror -/
def MetD (X : Cx) (T id : String) (ok : D → Store → Bool) (m : D → List D → M D) : Prop :=
  (∀ (P F : Hp) (μ : List Addr) (S : Store) (H : Hp) (d : D) (v : V), Rel (gX X) P F μ S H → Rep (gX X) F μ d v → ok d S = true → tyV X.K T v H) ∧
  MtR X id (fun v vs H Q => ∃ d ds P F μ S E, Rel (gX X) P F μ S H ∧ Rep (gX X) F μ d v ∧ Reps (gX X) F μ ds vs ∧ Fin (repD (gX X)) (gX X) P F μ (m d ds S) Q E)
def mMet (ok : D → Store → Bool) (m : D → List D → M D) (fo : EM) (fa : AM) : EM := fun ρ S => (fo ρ S).bind fun o S => if ok o S then (fa ρ S).bind fun ds S => m o ds S else .stuck
section
variable {X : Cx} {W : WX} {o e : Expr} {es : List Expr} {fo : EM} {fa : AM} {name : Str} {apos cpos : Pos} {T id : String} {ok : D → Store → Bool} {m : D → List D → M D}
theorem d_met (hm : MetD X T id ok m) (pa : PlainAttrs T) (slot : Slot T name id) (hty : typeOf (.builtin id) = pure (.type "method_descriptor")) (ho : DE X W o fo) (ha : DA X W (e :: es) fa)
    (hbase : attributeBase o name X.env (eval o X.env) = eval o X.env := by rfl)
    (hfew : ((backTo cpos (starEach (e :: es) X.env)).all (fun x => !x.1) && (backToKw cpos (keywordEach [] X.env)).all (fun x => x.1.isSome)
      && decide ((e :: es).length + ([] : List Keyword).length + (if ([] : List Keyword).isEmpty then 0 else 1) < 30)) = true := by rfl)
    (hline : (apos.endLine == cpos.line) = true := by rfl) (hs : starEach (e :: es) X.env = (false, eval e X.env) :: starEach es X.env := by rfl) (hplain : (backTo cpos (starEach es X.env)).any (·.1) = false := by rfl) :
    DE X W (.Call (.Attribute o name apos) (e :: es) [] cpos) (mMet ok m fo fa) := by
  refine PE.weak (pe_bm pa slot hty hm.2 ho ha hbase hfew hline hs hplain) fun σ H Q ⟨P, ρ, F, μ, S, en, rl, k⟩ => ?_
  refine tD.run en rl (Fin.imp (Fin.bind (rep := repD (gX X)) k) (fun v H1 ⟨x, F1, μ1, S1, g1, r1, p1, k1⟩ => ?_) fun _ _ _ z => z)
  split at k1
  · rename_i hk
    refine ⟨hm.1 P F1 μ1 S1 H1 x v r1 p1 hk, ?_⟩
    refine tDA.run (en.mono g1) r1 (Fin.imp (Fin.bind (rep := repA (gX X)) k1) (fun vs H2 ⟨ds, F2, μ2, S2, g2, r2, p2, k2⟩ => ?_) fun _ _ _ z => z)
    exact ⟨x, ds, P, F2, μ2, S2, _, r2, p1.mono g2, p2, k2⟩
  · exact k1.elim
theorem d_met0 (hm : MetD X T id ok m) (pa : PlainAttrs T) (slot : Slot T name id) (hty : typeOf (.builtin id) = pure (.type "method_descriptor")) (ho : DE X W o fo)
    (hbase : attributeBase o name X.env (eval o X.env) = eval o X.env := by rfl) (hline : (apos.endLine == cpos.line) = true := by rfl) : DE X W (.Call (.Attribute o name apos) [] [] cpos) (mMet ok m fo mNil) := by
  refine PE.weak (pe_bm0 pa slot hty hm.2 ho hbase hline) fun σ H Q ⟨P, ρ, F, μ, S, en, rl, k⟩ => ?_
  refine tD.run en rl (Fin.imp (Fin.bind (rep := repD (gX X)) k) (fun v H1 ⟨x, F1, μ1, S1, g1, r1, p1, k1⟩ => ?_) fun _ _ _ z => z)
  split at k1
  · rename_i hk
    exact ⟨hm.1 P F1 μ1 S1 H1 x v r1 p1 hk, x, [], P, F1, μ1, S1, _, r1, p1, reps_nil, k1⟩
  · exact k1.elim
end
def isL (d : D) (S : Store) : Bool := (lstOf d S).isSome
theorem isL_ty {g : G} {P F : Hp} {μ : List Addr} {S : Store} {H : Hp} {d : D} {v : V} (r : Rel g P F μ S H) (p : Rep g F μ d v) (e : isL d S = true) : tyV g.K "list" v H := by
  unfold isL at e
  obtain ⟨l, q⟩ := Option.isSome_iff_exists.mp e
  obtain ⟨a, xs, rfl, hs, _⟩ := lstOf_rep r q p
  exact .inl ⟨rfl, xs, hs⟩
/-- x.append(d), x at a place -/
def appendD (o : D) (ds : List D) : M D := fun S => match o, ds with
  | .ref n, [d] => match S[n]? with
    | some (.lst l) => if l.length < sizeLine then .ok .non (S.set n (.lst (l ++ [d]))) else .stuck
    | _ => .stuck
  | _, _ => .stuck
/-- x.extend(y) -/
def extendD (o : D) (ds : List D) : M D := fun S => match o, ds with
  | .ref n, [d] => match S[n]?, d with
    | some (.lst l), .lst k => if l.length + k.length ≤ sizeLine then .ok .non (S.set n (.lst (l ++ k))) else .stuck
    | _, _ => .stuck
  | _, _ => .stuck
/-- x.pop() -/
def popD (o : D) (ds : List D) : M D := fun S => match o, ds with
  | .ref n, [] => match S[n]? with
    | some (.lst l) => match l[l.length - 1]? with
      | some d => .ok d (S.set n (.lst l.dropLast))
      | none => .stuck
    | _ => .stuck
  | .ref n, [.int i] => match S[n]? with
    | some (.lst l) => match seqIndex? i l.length with
      | some j => match l[j]? with
        | some d => if -(2 ^ 63) ≤ i ∧ i < 2 ^ 63 then .ok d (S.set n (.lst (l.eraseIdx j))) else .stuck
        | none => .stuck
      | none => .stuck
    | _ => .stuck
  | _, _ => .stuck
theorem Reps.dropLast {g : G} {F : Hp} {μ : List Addr} {ds : List D} {vs : List V} (h : Reps g F μ ds vs) : Reps g F μ ds.dropLast vs.dropLast := by
  rw [List.dropLast_eq_take, List.dropLast_eq_take, h.length]
  exact h.take _
theorem Reps.eraseIdx {g : G} {F : Hp} {μ : List Addr} {ds : List D} {vs : List V} (h : Reps g F μ ds vs) (i : Nat) : Reps g F μ (ds.eraseIdx i) (vs.eraseIdx i) := by
  rw [List.eraseIdx_eq_take_drop_succ, List.eraseIdx_eq_take_drop_succ]
  exact (h.take _).append (h.drop _)
section
variable {X : Cx}
theorem md_append : MetD X "list" "list.append" isL appendD := by
  refine ⟨fun P F μ S H d v r p e => isL_ty r p e, ?_⟩
  intro pins s σ H x xs v us Q I rx rxs h
  obtain ⟨d, ds, P, F, μ, S, E, rl, p, ps, k⟩ := h
  unfold appendD at k
  split at k
  · rename_i n d
    split at k
    · rename_i l q
      split at k
      · rename_i hl
        obtain ⟨a, ys, rfl, hm, hH, hr⟩ := p.refL rl q
        simp only [Reps] at ps
        obtain ⟨w, _, rfl, pw, rfl⟩ := ps
        refine mt_append pins s σ H _ _ v us Q I rx rxs ⟨a, ys, w, rfl, rfl, hH, by rw [← hr.length]; exact hl, ?_⟩
        exact k.here (rl.write q (by intro z; cases z) hm ⟨_, rfl, hr.append (reps_cons pw reps_nil)⟩) rep_non
      · exact k.elim
    · exact k.elim
  · exact k.elim
theorem mt_extendQ : MtM X "list.extend" (fun x vs H Q => ∃ l b xs zs, x = .ref l ∧ vs = [.ref b] ∧ H l = some (.lst xs) ∧ H b = some (.lst zs) ∧ xs.length + zs.length ≤ sizeLine ∧ Q .non (upd H l (.lst (xs ++ zs)))) := mt_extend
theorem md_pop : MetD X "list" "list.pop" isL popD := by
  refine ⟨fun P F μ S H d v r p e => isL_ty r p e, ?_⟩
  intro pins s σ H x xs v us Q I rx rxs h
  obtain ⟨d, ds, P, F, μ, S, E, rl, p, ps, k⟩ := h
  unfold popD at k
  split at k
  · rename_i n
    split at k
    · rename_i l q
      split at k
      · rename_i d e
        obtain ⟨a, ys, rfl, hm, hH, hr⟩ := p.refL rl q
        simp only [Reps] at ps
        subst ps
        obtain ⟨y, h1, h2⟩ := hr.get e
        refine mt_pop pins s σ H _ _ v us Q I rx rxs ⟨a, ys, y, rfl, rfl, hH, by rw [← hr.length]; exact h1, ?_⟩
        exact k.here (rl.write q (by intro z; cases z) hm ⟨_, rfl, hr.dropLast⟩) h2
      · exact k.elim
    · exact k.elim
  · rename_i n i
    split at k
    · rename_i l q
      split at k
      · rename_i j ej
        split at k
        · rename_i d e
          split at k
          · rename_i hb
            obtain ⟨a, ys, rfl, hm, hH, hr⟩ := p.refL rl q
            simp only [Reps] at ps
            obtain ⟨w, _, rfl, pw, rfl⟩ := ps
            obtain ⟨y, h1, h2⟩ := hr.get e
            refine mt_popAt pins s σ H _ _ v us Q I rx rxs ⟨a, ys, i, j, y, rfl, by rw [pw.int], hH, hb.1, hb.2, by rw [← hr.length]; exact ej, h1, ?_⟩
            exact k.here (rl.write q (by intro z; cases z) hm ⟨_, rfl, hr.eraseIdx j⟩) h2
          · exact k.elim
        · exact k.elim
      · exact k.elim
    · exact k.elim
  · exact k.elim
end

/-! ### raise X('..') of an own class without __init__ -/
structure ExcF (K : PySem.W.Frag) (mg : Str → Option Value) (c : Str) : Prop where
  ex : ∃ C : Addr, mg c = some (.ref C) ∧ PySem.W.excIn K C [.type "ValueError", .type "Exception", .type "BaseException", .type "object"] "ValueError.__new__" = true ∧ PySem.W.keepIn K (.ref C) = true ∧
    PySem.W.subIn K (.ref C) (.type "BaseException") = some true ∧ PySem.W.typeIn K (.ref C) = some (.type "type")
def mRaise (c : Str) : SM := fun ρ S => .go (.ex (.exc c [] [])) ρ S
theorem ds_raise {X : Cx} {W : WX} {c m : Str} {j : Nat} {p p2 p3 pos : Pos} (hc : X.calm = true) (tk : Takes X W) (F : ExcF X.K X.mg c) (hg : Gl X c := by rfl) (hdb : (c == ("__debug__" : Str)) = false := by decide) :
    DS X W (.Raise (some (.Call (.Name c p) [.Constant (.str m) j p2] [] p3)) none pos) (mRaise c) := by
  obtain ⟨C, gC, q, kC, h1, h2⟩ := F.ex
  refine PS.weak (ps_raise hc tk (pmk_own PySem.F.excBase_ValueError q gC kC (raises_own h1 h2) hg hdb)) fun Dn σ H ⟨P, ρ, F, μ, S, en, rl, k⟩ => ?_
  exact k.here rl σ _ _ en ⟨c, [], [], C, [], rfl, gC, rfl, .inl ⟨rfl, rfl, rfl⟩, reps_nil, rfl⟩

/-! ### putting together -/
theorem cal_mk {P : Program} {w : World} {K : PySem.W.Frag} {mg : Str → Option Value} {base : Heap} {k n : Nat} {x qual : Str} {st : Stmt} {f : Addr} {fd : FuncData} {ps : List Str} {m : List D → M D} (hm : mg x = some (.ref f)) (F : Fun K x qual st f fd)
    (hb : ∀ (kV doc pm : Value) (an : Option Addr) (cdv ct : Value) (us : List Value), us.length = ps.length → bindArgs (PySem.W.fnOf x qual (defArgs st) (defBody st) (defScope st) .none kV doc pm an cdv ct) ⟨us, []⟩ = pure (ps.zip us))
    (hf : FnD P w K mg base k f fd ps m) (hn : ps.length = n := by rfl) : Cal P w K mg base k x n m := ⟨f, fd, ps, hm, F.kp, F.binds hb, hf, hn⟩
/-- a def as the top has left it -/
def DefK (K : PySem.W.Frag) (x : Str) (st : Stmt) : Prop := ∃ (f : Addr) (oc : Value) (od : Option Addr) (kV doc pm : Value) (an : Option Addr) (cdv ct : Value) (osl : Array (Option Value)),
  PySem.W.nsIn K mainGlobals x = some (some (.ref f)) ∧ K.lookup f = some ⟨oc, od, .func (PySem.W.fnOf x x (defArgs st) (defBody st) (defScope st) .none kV doc pm an cdv ct), osl⟩ ∧ PySem.W.codeIn K cdv x = true ∧ PySem.W.keepIn K (.ref f) = true ∧ (defArgs st).defaults = []
theorem defK {K : PySem.W.Frag} {x : Str} {st : Stmt} {f : Addr} {oc : Value} {od an : Option Addr} {kV doc pm cdv ct : Value} {osl : Array (Option Value)} (a : PySem.W.nsIn K mainGlobals x = some (some (.ref f)))
    (l : K.lookup f = some ⟨oc, od, .func (PySem.W.fnOf x x (defArgs st) (defBody st) (defScope st) .none kV doc pm an cdv ct), osl⟩) (c : PySem.W.codeIn K cdv x = true) (k : PySem.W.keepIn K (.ref f) = true) (d : (defArgs st).defaults = []) : DefK K x st := ⟨f, oc, od, kV, doc, pm, an, cdv, ct, osl, a, l, c, k, d⟩
theorem DefK.get {K : PySem.W.Frag} {h : Heap} {mg : Str → Option Value} {x : Str} {st : Stmt} (d : DefK K x st) (X : K.In h) (G : h.Ns mainGlobals mg) : ∃ f fd, mg x = some (.ref f) ∧ Fun K x x st f fd ∧
    ∃ (kV doc pm : Value) (an : Option Addr) (cdv ct : Value), fd = PySem.W.fnOf x x (defArgs st) (defBody st) (defScope st) .none kV doc pm an cdv ct := by
  obtain ⟨f, oc, od, kV, doc, pm, an, cdv, ct, osl, a, l, c, k, _⟩ := d
  exact ⟨f, _, PySem.W.mg_of X G a, fun_mk l c k, kV, doc, pm, an, cdv, ct, rfl⟩
def ExcK (K : PySem.W.Frag) (c : Str) : Prop := ∃ C : Addr, PySem.W.nsIn K mainGlobals c = some (some (.ref C)) ∧ PySem.W.excIn K C [.type "ValueError", .type "Exception", .type "BaseException", .type "object"] "ValueError.__new__" = true ∧ PySem.W.keepIn K (.ref C) = true ∧
    PySem.W.subIn K (.ref C) (.type "BaseException") = some true ∧ PySem.W.typeIn K (.ref C) = some (.type "type")
theorem excK {K : PySem.W.Frag} {c : Str} {C : Addr} (a : PySem.W.nsIn K mainGlobals c = some (some (.ref C))) (b : PySem.W.excIn K C [.type "ValueError", .type "Exception", .type "BaseException", .type "object"] "ValueError.__new__" = true) (k : PySem.W.keepIn K (.ref C) = true)
    (s : PySem.W.subIn K (.ref C) (.type "BaseException") = some true) (t : PySem.W.typeIn K (.ref C) = some (.type "type")) : ExcK K c := ⟨C, a, b, k, s, t⟩
theorem ExcK.exc {K : PySem.W.Frag} {h : Heap} {mg : Str → Option Value} {c : Str} (d : ExcK K c) (X : K.In h) (G : h.Ns mainGlobals mg) : ExcF K mg c := by
  obtain ⟨C, a, r⟩ := d
  exact ⟨C, PySem.W.mg_of X G a, r⟩
/-! ### the law -/
/-- what the law's mirror must say of every script -/
def LawD (m : List D → M D) : Prop := ∀ ns : List Int, ns.length ≤ 63 → (∀ z ∈ ns, Builtin.Int.intBits z ≤ 1048576) → ∃ S, m [.lst (ns.map D.int)] [] = .ok (.bl true) S
theorem law_callD {P : Program} {w : World} {K : PySem.W.Frag} {mg mb : Str → Option Value} {k : Nat} {fa a : Addr} {fd : FuncData} {x : Str} {m : List D → M D} {s₁ : Shared} {vs : List Value} {ns : List Int}
    (KX : K.In s₁.heap) (hns : s₁.heap.Ns mainGlobals mg) (hb : s₁.heap.Ns builtinsNs mb) (hbb : ∀ x : Str, x ≠ "__name__" → mb x = bootBuiltins x) (hlim : s₁.heap.NoLimit) (hnd : s₁.heap.NoDigits) (hg : s₁.gens = #[])
    (ha : s₁.heap.get? a = some { cls := .type "list", data := .seq vs.toArray }) (hi : IntsAre vs ns) (hl : ns.length ≤ sizeLine) (hr : Room k callerA)
    (Fn : ∀ base : Heap, K.In base → base.Ns mainGlobals mg → base.NoDigits → FnD P w K mg base k fa fd [x] m) (hbind : ∀ (s : Shared) (u : Value), BindsTo s fd ⟨[u], []⟩ [(x, u)])
    (hlaw : ∃ S, m [.lst (ns.map D.int)] [] = .ok (.bl true) S) :
    codeAny (model P w) callerA (.call (.ref fa) ⟨[.ref a], []⟩) (fun r s' => r = .ok (.ret (.bool true)) ∧ OldK s₁.heap s'.heap ∧ s'.os = s₁.os ∧ AllBare s'.gens) s₁ := by
  have rv := vals_ints hi
  have lenV := hi.length
  have core : ∀ H : Hp, Only H → SqL K H a (ns.map V.int) → HOk P w H s₁.heap → (∀ b, H b ≠ none → b = a) → (H a ≠ none → K.lookup a = none) →
      codeAny (model P w) callerA (.call (.ref fa) ⟨[.ref a], []⟩) (fun r s' => r = .ok (.ret (.bool true)) ∧ OldK s₁.heap s'.heap ∧ s'.os = s₁.os ∧ AllBare s'.gens) s₁ := by
    intro H hO hS hok hA hK
    have base_of : ∀ {b : Addr} {o : Obj}, s₁.heap.get? b = some o → H b = none → (hidT s₁.heap H).get? b = some o := fun e n => hidT_get e n
    have noA : ∀ {b : Addr} {o : Obj} {es : Array DictEntry} {ep : Nat}, s₁.heap.get? b = some o → o.data = .dict es ep → H b = none := fun {b o es ep} e d => by
      cases q : H b with
      | none => rfl
      | some u =>
        have e' : b = a := hA b (by rw [q]; simp)
        subst e'
        rw [ha] at e; cases e
        have d' : Data.seq vs.toArray _ = Data.dict es ep := d
        cases d'
    have nsK : ∀ {b : Addr} {m : Str → Option Value}, s₁.heap.Ns b m → (hidT s₁.heap H).Ns b m := fun {b m} ⟨o, es, ep, e, d, r⟩ => ⟨o, es, ep, base_of e (noA e d), d, r⟩
    have hKb : K.In (hidT s₁.heap H) := fun b o e => base_of (KX b o e) (by
      cases q : H b with
      | none => rfl
      | some u =>
        have e' : b = a := hA b (by rw [q]; simp)
        subst e'
        rw [hK (by rw [q]; simp)] at e; cases e)
    have hM : Mod K mg (hidT s₁.heap H) := ⟨hKb, nsK hns, ⟨mb, nsK hb, hbb⟩, let ⟨mc, h1, h2⟩ := hlim; ⟨mc, nsK h1, h2⟩⟩
    have e0 : Env0 P w K mg (hidT s₁.heap H) callerA [] s₁ H := ⟨rfl, hM, fun b o e => of_hidT e, Nat.le_of_eq (hidT_size _ _), trivial, fun b hb => absurd (show b ∈ ([] : List Addr) from hb) (by simp), hok, .of_eq hg⟩
    have sp : spD ⟨K, mg⟩ ([x] : List Str).length m [.ref a] H (fun v _ => v = .bl true) (fun _ _ _ => False) := by
      obtain ⟨S, e⟩ := hlaw
      refine ⟨rfl, [.lst (ns.map D.int)], fun _ => none, H, [], [], ⟨fun _ _ z => z, rfl, fun n o p z _ => by simp at z, fun m n p z _ => by simp at z, fun _ _ z => by cases z⟩, ?_, ?_⟩
      · refine reps_cons ?_ reps_nil
        simp only [Rep]
        exact ⟨a, _, rfl, hS, reps_ints ns⟩
      · rw [e]
        intro F' μ' H' v _ _ p
        exact p.bl
    refine codeAny_mono ((Fn _ hKb (nsK hns) (let ⟨mc, h1, h2⟩ := hnd; ⟨mc, nsK h1, h2⟩)).run callerA [] s₁ H ⟨[.ref a], []⟩ [.ref a] [.ref a] _ _ hr rfl e0 (hbind s₁ (.ref a)) (.cons rfl .nil) sp) fun r s' h => ?_
    cases r with
    | error e =>
      obtain ⟨_, _, _, _, _, _, _, _, _, _, _, _, z⟩ := h
      exact z.elim
    | ok fl =>
      cases fl with
      | next => exact False.elim h
      | brk => exact False.elim h
      | cont => exact False.elim h
      | ret u =>
        obtain ⟨v, H', os, bare, un, hok', r', q⟩ := h
        have q' : v = .bl true := q
        subst q'
        obtain rfl : u = Value.bool true := r'
        refine ⟨rfl, OldK.of_keep fun b o e => ?_, os, bare⟩
        cases q : H b with
        | none => exact un.keep b o e q (by intro z; exact absurd (show b ∈ ([] : List Addr) from z) (by simp)) (by simp)
        | some u =>
          rcases hO b with z | ⟨ob, xs, z⟩
          · rw [q] at z; cases z
          · have z2 := un.frzs b ob _ z
            obtain ⟨e1, _⟩ := hok b _ z
            obtain ⟨e2, _⟩ := hok' b _ z2
            rw [e] at e1; cases e1
            exact e2
  cases hk : K.lookup a with
  | some o =>
    have e := KX a o hk
    rw [ha] at e
    cases e
    refine core (fun _ => none) (fun _ => .inl rfl) (.inr ⟨_, vs.toArray, _, hk, rfl, rfl, rfl, by rw [List.size_toArray, lenV]; exact hl, by simpa using rv⟩) (fun b u z => by have z' : (none : Option HO) = some u := z; cases z') (fun b z => absurd rfl z) fun z => absurd rfl z
  | none =>
    refine core (fun b => if b = a then some (.frz { cls := .type "list", data := .seq vs.toArray } (.lst (ns.map V.int))) else none) (fun b => ?_) (.inl (.inr ⟨{ cls := .type "list", data := .seq vs.toArray }, if_pos rfl⟩)) (fun b u z => ?_) (fun b z => ?_) fun _ => hk
    · by_cases hb : b = a
      · exact .inr ⟨_, _, if_pos hb⟩
      · exact .inl (if_neg hb)
    · by_cases hb : b = a
      · have z' := (if_pos hb).symm.trans z
        cases z'
        subst hb
        exact ⟨ha, by rw [List.length_map]; exact hl, vs, _, rv, ha⟩
      · have z' := (if_neg hb).symm.trans z
        cases z'
    · by_cases hb : b = a
      · exact hb
      · exact absurd (if_neg hb) z
/-- the goal that k_head leaves -/
theorem walk_D {l : PySem.W.OpenLaw} {k : Nat} {q : Program} {loose : List Str} {XP : (Str → Option Value) → Heap → Prop} {YP : World → Heap → Prop} {d : DefRec} {K : Params → PySem.W.Frag} {x : Str} {m : List D → M D}
    (hn : l.most = some 63) (hdf : d.params.defaults = []) (hr : Room k callerA)
    (hY : ∀ (w : World) (h : Heap), YP w h → (K w.params).In h)
    (Fn : ∀ (w : World) (mg : Str → Option Value) (fa : Addr) (h : Heap), (K w.params).In h → h.Ns mainGlobals mg → mg d.name = some (.ref fa) →
      ∃ fd : FuncData, (∀ (s : Shared) (u : Value), BindsTo s fd ⟨[u], []⟩ [(x, u)]) ∧
        ∀ base : Heap, (K w.params).In base → base.Ns mainGlobals mg → base.NoDigits → FnD l.prog w (K w.params) mg base k fa fd [x] m)
    (hlaw : LawD m) : PySem.W.WalkO q loose XP YP l.row.toRowW d [] (fun f vs => PySem.call f vs) := by
  refine Att.attach_callB hn hdf fun w s₀ s₁ mg mb fa o pm cd doc a vs ns G Y ho hd hcd hmg hobj hints hlen hbits hg => ?_
  have KX := hY w _ Y
  obtain ⟨fd, hb, hF⟩ := Fn w mg fa _ KX G.T.g hmg
  exact law_callD KX G.T.g G.T.b G.T.builtins G.T.nolimit G.T.nodigits hg hobj hints (Nat.le_trans hlen (by decide)) hr hF hb (hlaw ns hlen hbits)
end DL

/-! The data layer, 8: methods of sequences, augmented assignments. -/
namespace DL
open PySem PySem.Spec PyProof.Rows L2

/-- a method by the receiver's data: its type may be one of several -/
def MetA (X : Cx) (name : Str) (ok : D → Store → Bool) (m : D → List D → M D) : Prop :=
  ∀ (P F : Hp) (μ : List Addr) (S : Store) (H : Hp) (d : D) (v : V) (pins : List (Addr × Obj)) (σ : L2.St) (s : Shared) (u : Value), Rel (gX X) P F μ S H → Rep (gX X) F μ d v → ok d S = true → Inv X pins σ H s → RelV v u →
    ∃ T id, PlainAttrs T ∧ Slot T name id ∧ typeOf (.builtin id) = pure (.type "method_descriptor") ∧ s.TypeIs u T ∧ (∀ a, u = .ref a → ∃ ob, s.heap.get? a = some ob ∧ ob.dict = none) ∧
      MtR X id (fun v vs H Q => ∃ ds P F μ S E, Rel (gX X) P F μ S H ∧ Rep (gX X) F μ d v ∧ Reps (gX X) F μ ds vs ∧ ok d S = true ∧ Fin (repD (gX X)) (gX X) P F μ (m d ds S) Q E)
def mMetA (ok : D → Store → Bool) (m : D → List D → M D) (fo : EM) (fa : AM) : EM := fun ρ S => (fo ρ S).bind fun o S => if ok o S then (fa ρ S).bind fun ds S => if ok o S then m o ds S else .stuck else .stuck
section
variable {X : Cx} {W : WX} {o e : Expr} {es : List Expr} {fo : EM} {fa : AM} {name : Str} {apos cpos : Pos} {ok : D → Store → Bool} {m : D → List D → M D}
theorem d_metA (hm : MetA X name ok m) (ho : DE X W o fo) (ha : DA X W (e :: es) fa) (hbase : attributeBase o name X.env (eval o X.env) = eval o X.env := by rfl)
    (hfew : ((backTo cpos (starEach (e :: es) X.env)).all (fun x => !x.1) && (backToKw cpos (keywordEach [] X.env)).all (fun x => x.1.isSome) && decide ((e :: es).length + ([] : List Keyword).length + (if ([] : List Keyword).isEmpty then 0 else 1) < 30)) = true := by rfl)
    (hline : (apos.endLine == cpos.line) = true := by rfl) (hs : starEach (e :: es) X.env = (false, eval e X.env) :: starEach es X.env := by rfl)
    (hplain : (backTo cpos (starEach es X.env)).any (·.1) = false := by rfl) : DE X W (.Call (.Attribute o name apos) (e :: es) [] cpos) (mMetA ok m fo fa) := by
  refine ⟨fun pins s σ H Q I ⟨P, ρ, F, μ, S, en, rl, k⟩ => ?_⟩
  refine wpAny_Call_method_late hbase hfew hline rfl (thn (ho.run pins s σ H _ I (tD.run en rl (Fin.imp (Fin.bind (rep := repD (gX X)) k) (fun v H1 z => z) fun _ _ _ z => z))) fun v s1 ⟨x, H1, I1, r1, d, F1, μ1, S1, g1, rl1, p1, k1⟩ => ?_)
  split at k1
  · rename_i hk
    obtain ⟨T, id, h1, h2, h3, h4, h5, h6⟩ := hm P F1 μ1 S1 H1 d x pins σ s1 v rl1 p1 hk I1 r1
    refine ⟨T, id, h1, h2, h3, h4, h5, ?_⟩
    have hA := ha.run cpos pins s1 σ H1 _ I1 (tDA.run (en.mono g1) rl1 (Fin.imp (Fin.bind (rep := repA (gX X)) k1) (fun vs H2 z => z) fun _ _ _ z => z))
    rw [hs] at hA ⊢
    refine Calls.callWith_builtin (Bool.or_eq_false_iff.mpr ⟨rfl, hplain⟩) (Calls.evalArgs_plain ?_)
    refine thn hA fun us s2 ⟨vs, H2, I2, r2, ds, F2, μ2, S2, g2, rl2, p2, k2⟩ => ?_
    split at k2
    · rename_i hk2
      exact h6 pins s2 σ H2 x vs v us Q I2 r1 r2 ⟨ds, P, F2, μ2, S2, _, rl2, p1.mono g2, p2, hk2, k2⟩
    · exact k2.elim
  · exact k1.elim
end
/-- a list or a tuple -/
def isQ (d : D) (S : Store) : Bool := match d with
  | .tup _ => true
  | d => isL d S
def isT : D → Bool
  | .tup _ => true
  | _ => false
def countD (o : D) (ds : List D) : M D := fun S => match ds with
  | [x] => match seqOf o S with
    | some l => if plain 64 (derD x S) && plains 63 l then .ok (.int ((l.countP fun z => eqB z (derD x S) : Nat) : Int)) S else .stuck
    | none => .stuck
  | _ => .stuck
def indexD (o : D) (ds : List D) : M D := fun S => match ds with
  | [x] => match seqOf o S with
    | some l => if plain 64 (derD x S) && plains 63 l then (match l.findIdx? fun z => eqB z (derD x S) with
      | some j => .ok (.int (j : Nat)) S
      | none => .stuck) else .stuck
    | none => .stuck
  | _ => .stuck
theorem eqv_count {x : D} : ∀ {l : List D}, plain 64 x = true → plains 63 l = true → ((toPys l).countP fun z => PyData.eqv z (toPy x)) = l.countP fun z => eqB z x
  | [], _, _ => rfl
  | y :: l, hx, h => by
    simp only [plains, Bool.and_eq_true] at h
    simp only [toPys, List.countP_cons, eqv_count (l := l) hx h.2, eqv_eqB 63 64 y x h.1 hx]
theorem eqv_find {x : D} : ∀ {l : List D}, plain 64 x = true → plains 63 l = true → ((toPys l).findIdx? fun z => PyData.eqv z (toPy x)) = l.findIdx? fun z => eqB z x
  | [], _, _ => rfl
  | y :: l, hx, h => by
    simp only [plains, Bool.and_eq_true] at h
    simp only [toPys, List.findIdx?_cons, eqv_find (l := l) hx h.2, eqv_eqB 63 64 y x h.1 hx]
theorem dn_obj {X : Cx} {pins : List (Addr × Obj)} {σ : L2.St} {H : Hp} {s : Shared} {a : Addr} (I : Inv X pins σ H s) (h : DN (gX X) H a) : ∃ o, s.heap.get? a = some o ∧ o.dict = none := by
  obtain ⟨o, h1, h2⟩ := h
  rcases h2 with ⟨u, h2⟩ | h2
  · exact ⟨o, (I.hok a _ h2).1, h1⟩
  · exact ⟨o, I.kIn a o h2, h1⟩
theorem isQ_cases {d : D} {S : Store} (h : isQ d S = true) : (∃ l, d = .tup l) ∨ isL d S = true := by
  unfold isQ at h
  split at h
  · exact .inl ⟨_, rfl⟩
  · exact .inr h
theorem isL_seq {d : D} {S : Store} (h : isL d S = true) : ∃ l, lstOf d S = some l ∧ seqOf d S = some l := by
  unfold isL at h
  obtain ⟨l, q⟩ := Option.isSome_iff_exists.mp h
  refine ⟨l, q, ?_⟩
  unfold seqOf
  split
  · cases q
  · cases q
  · exact q
section
variable {X : Cx}
/-- what the heap holds of a sequence of plain data -/
theorem seq_reads {pins : List (Addr × Obj)} {σ : L2.St} {s : Shared} {P F : Hp} {μ : List Addr} {S : Store} {H : Hp} {l : List D} {xs : List V} {its : List Value} {n : Nat} (I : Inv X pins σ H s) (r : Rel (gX X) P F μ S H) (h : plains 63 l = true) (hr : Reps (gX X) F μ l xs) (rv : Vals xs its) :
    ∃ as, ReadsAll s.heap its (toPys l) as := Dp.readsAll I _ _ its (plains_dp r 63 l h hr) rv
theorem met_seq {name : Str} {iL iT : String} {m : D → List D → M D} (sL : Slot "list" name iL) (tL : typeOf (.builtin iL) = pure (.type "method_descriptor")) (sT : Slot "tuple" name iT) (tT : typeOf (.builtin iT) = pure (.type "method_descriptor"))
    (hL : MtR X iL (fun v vs H Q => ∃ d ds P F μ S E, Rel (gX X) P F μ S H ∧ Rep (gX X) F μ d v ∧ Reps (gX X) F μ ds vs ∧ isL d S = true ∧ Fin (repD (gX X)) (gX X) P F μ (m d ds S) Q E))
    (hT : MtR X iT (fun v vs H Q => ∃ l ds P F μ S E, Rel (gX X) P F μ S H ∧ Rep (gX X) F μ (.tup l) v ∧ Reps (gX X) F μ ds vs ∧ Fin (repD (gX X)) (gX X) P F μ (m (.tup l) ds S) Q E)) :
    MetA X name isQ m := by
  intro P F μ S H d v pins σ s u rl p hk I rv
  rcases isQ_cases hk with ⟨l, rfl⟩ | hl
  · obtain ⟨a, xs, rfl, ⟨hs, hd⟩, hr⟩ := p.tupN rl
    cases rv
    obtain ⟨its, r, ht, hz⟩ := I.tuple hs
    refine ⟨"tuple", iT, PySem.F.plainAttrs_tuple, sT, tT, ht.typeIs, fun b e => ?_, ?_⟩
    · cases e
      exact dn_obj I hd
    · intro pins s σ H2 x xs2 v us Q I2 rx rxs ⟨ds, P', F', μ', S', E, rl2, p2, ps, hq, k⟩
      exact hT pins s σ H2 x xs2 v us Q I2 rx rxs ⟨l, ds, P', F', μ', S', E, rl2, p2, ps, k⟩
  · obtain ⟨h1, h2⟩ := tyV_is I rv (isL_ty rl p hl)
    refine ⟨"list", iL, PySem.F.plainAttrs_list, sL, tL, h1, h2, ?_⟩
    intro pins s σ H2 x xs2 v us Q I2 rx rxs ⟨ds, P', F', μ', S', E, rl2, p2, ps, hq, k⟩
    refine hL pins s σ H2 x xs2 v us Q I2 rx rxs ⟨d, ds, P', F', μ', S', E, rl2, p2, ps, ?_, k⟩
    rcases isQ_cases hq with ⟨l', e⟩ | hl'
    · rw [e] at hl
      cases hl
    · exact hl'
theorem lay_all {l : List D} (h : plains 63 l = true) : PyData.plainAll (toPys l) = true ∧ PyData.depthAll (toPys l) ≤ 63 := by
  obtain ⟨h1, h2⟩ := plains_lay 63 l h
  exact ⟨PyData.plainAll_of_canLay0 _ h1, h2⟩
theorem lay_one {d : D} (h : plain 64 d = true) : (toPy d).plain = true ∧ (toPy d).depth ≤ 64 := by
  obtain ⟨h1, h2⟩ := plain_lay 64 d h
  exact ⟨PyData.plain_of_canLay0 _ h1, h2⟩
theorem ma_count (hu : X.A.units + 65 < cLine) : MetA X "count" isQ countD := by
  refine met_seq PySem.F.slot_list_count PySem.F.type_list_count PySem.F.slot_tuple_count PySem.F.type_tuple_count ?_ ?_
  · intro pins s σ H x xs v us Q I rx rxs ⟨d, ds, P, F, μ, S, E, rl, p, ps, hl, k⟩
    obtain ⟨l, q1, q2⟩ := isL_seq hl
    unfold countD at k
    split at k
    · rename_i y
      rw [q2] at k
      simp only at k
      split at k
      · rename_i hp
        simp only [Bool.and_eq_true] at hp
        obtain ⟨a, ys, rfl, hs, hr⟩ := lstOf_rep rl q1 p
        cases rx
        simp only [Reps] at ps
        obtain ⟨w, _, rfl, pw, rfl⟩ := ps
        obtain ⟨uy, rfl, ry⟩ := rxs.one
        obtain ⟨bs, r1⟩ := Dp.reads I _ w uy (der_dp rl hp.1 pw) ry
        obtain ⟨its, rv, pl, hlen⟩ := I.list hs
        obtain ⟨as, r2⟩ := seq_reads (n := 0) I rl hp.2 hr rv
        obtain ⟨z1, z2⟩ := lay_all hp.2
        obtain ⟨z3, z4⟩ := lay_one hp.1
        refine SeqAt.count_list_data pl.isList (vs := its.toArray) r2 r1 z1 z3 (by omega) ?_
        rw [eqv_count hp.1 hp.2]
        exact ⟨.int _, H, I.tok _, ⟨_, rfl⟩, k.here rl rep_int⟩
      · exact k.elim
    · exact k.elim
  · intro pins s σ H x xs v us Q I rx rxs ⟨l, ds, P, F, μ, S, E, rl, p, ps, k⟩
    unfold countD at k
    split at k
    · rename_i y
      simp only [seqOf_tup] at k
      split at k
      · rename_i hp
        simp only [Bool.and_eq_true] at hp
        obtain ⟨a, ys, rfl, hs, hr⟩ := p.tup rl
        cases rx
        simp only [Reps] at ps
        obtain ⟨w, _, rfl, pw, rfl⟩ := ps
        obtain ⟨uy, rfl, ry⟩ := rxs.one
        obtain ⟨bs, r1⟩ := Dp.reads I _ w uy (der_dp rl hp.1 pw) ry
        obtain ⟨its, rv, pl, hlen⟩ := I.tuple hs
        obtain ⟨as, r2⟩ := seq_reads (n := 0) I rl hp.2 hr rv
        obtain ⟨z1, z2⟩ := lay_all hp.2
        obtain ⟨z3, z4⟩ := lay_one hp.1
        refine SeqAt.count_tuple_data (vs := its.toArray) pl r2 r1 z1 z3 (by omega) ?_
        rw [eqv_count hp.1 hp.2]
        exact ⟨.int _, H, I.tok _, ⟨_, rfl⟩, k.here rl rep_int⟩
      · exact k.elim
    · exact k.elim
theorem ma_index (hu : X.A.units + 65 < cLine) : MetA X "index" isQ indexD := by
  refine met_seq PySem.F.slot_list_index PySem.F.type_list_index PySem.F.slot_tuple_index PySem.F.type_tuple_index ?_ ?_
  · intro pins s σ H x xs v us Q I rx rxs ⟨d, ds, P, F, μ, S, E, rl, p, ps, hl, k⟩
    obtain ⟨l, q1, q2⟩ := isL_seq hl
    unfold indexD at k
    split at k
    · rename_i y
      rw [q2] at k
      simp only at k
      split at k
      · rename_i hp
        simp only [Bool.and_eq_true] at hp
        split at k
        · rename_i j ej
          rw [← eqv_find hp.1 hp.2] at ej
          obtain ⟨a, ys, rfl, hs, hr⟩ := lstOf_rep rl q1 p
          cases rx
          simp only [Reps] at ps
          obtain ⟨w, _, rfl, pw, rfl⟩ := ps
          obtain ⟨uy, rfl, ry⟩ := rxs.one
          obtain ⟨bs, r1⟩ := Dp.reads I _ w uy (der_dp rl hp.1 pw) ry
          obtain ⟨its, rv, ⟨⟨cls, dd, data, sls⟩, n, ho, hc, hdn, hdt⟩, hlen⟩ := I.list hs
          simp only at hc hdt
          subst hc hdt
          obtain ⟨as, r2⟩ := seq_reads (n := 0) I rl hp.2 hr rv
          obtain ⟨z1, z2⟩ := lay_all hp.2
          obtain ⟨z3, z4⟩ := lay_one hp.1
          obtain ⟨hj, hit, hno⟩ := SeqAt.hit_at (vs := its.toArray) r2 z1 ej
          have hsz : its.toArray.size ≤ sizeLine := by have := rv.length; simp only [List.size_toArray]; omega
          have hsl := sizeLine_eq
          exact call_meets PySem.F.slot_list_index ⟨_, ho, rfl⟩ PySem.F.entry_list_index (PySem.F.args_list_index_2 _ _) (SeqAt.list_indexAt a its.toArray n dd sls uy (fun u => PyData.eqv (SeqAt.readOf s.heap u) _) j hj (by omega) hit fun m hm hmj => hno m hm hmj)
            ⟨ho, SeqAt.items_plain (vs := its.toArray) r2 r1 z1 z3 (by omega), ⟨.int _, H, I.tok _, ⟨_, rfl⟩, k.here rl rep_int⟩⟩
        · exact k.elim
      · exact k.elim
    · exact k.elim
  · intro pins s σ H x xs v us Q I rx rxs ⟨l, ds, P, F, μ, S, E, rl, p, ps, k⟩
    unfold indexD at k
    split at k
    · rename_i y
      simp only [seqOf_tup] at k
      split at k
      · rename_i hp
        simp only [Bool.and_eq_true] at hp
        split at k
        · rename_i j ej
          rw [← eqv_find hp.1 hp.2] at ej
          obtain ⟨a, ys, rfl, hs, hr⟩ := p.tup rl
          cases rx
          simp only [Reps] at ps
          obtain ⟨w, _, rfl, pw, rfl⟩ := ps
          obtain ⟨uy, rfl, ry⟩ := rxs.one
          obtain ⟨bs, r1⟩ := Dp.reads I _ w uy (der_dp rl hp.1 pw) ry
          obtain ⟨its, rv, ⟨⟨cls, dd, data, sls⟩, ho, hc, n, hdt⟩, hlen⟩ := I.tuple hs
          simp only at hc hdt
          subst hc hdt
          obtain ⟨as, r2⟩ := seq_reads (n := 0) I rl hp.2 hr rv
          obtain ⟨z1, z2⟩ := lay_all hp.2
          obtain ⟨z3, z4⟩ := lay_one hp.1
          obtain ⟨hj, hit, hno⟩ := SeqAt.hit_at (vs := its.toArray) r2 z1 ej
          exact call_meets PySem.F.slot_tuple_index ⟨_, ho, rfl⟩ PySem.F.entry_tuple_index (PySem.F.args_tuple_index_2 _ _) (_root_.TI.tuple_indexAt a its.toArray n dd sls uy (fun u => PyData.eqv (SeqAt.readOf s.heap u) _) j hj hit fun m hm hmj => hno m hm hmj)
            ⟨ho, SeqAt.items_plain (vs := its.toArray) r2 r1 z1 z3 (by omega), ⟨.int _, H, I.tok _, ⟨_, rfl⟩, k.here rl rep_int⟩⟩
        · exact k.elim
      · exact k.elim
    · exact k.elim
end
end DL

/-! The data layer, 9: an exception that is caught and kept. -/
namespace DL
open PySem PySem.Spec PyProof.Rows L2

section
variable {X : Cx} {pins : List (Addr × Obj)} {σ : L2.St} {H : Hp} {s : Shared}
/-- an object that came since the entry is tracked from now on -/
theorem track {a : Addr} {ob : Obj} {o : HO} (I : Inv X pins σ H s) (ha : s.heap.get? a = some ob) (hn : H a = none) (h0 : X.s_0.heap.get? a = none) (hl : a ≠ X.env.locals) (hc : ∀ x c, X.env.cells.lookup x = some c → a ≠ c)
    (hp : ∀ p ∈ X.pn ++ pins, p.1 ≠ a) (new : ObjOk X.prog X.w (upd H a o) s.heap a o) : Inv X pins σ (upd H a o) s :=
  ⟨I.ok, I.os, I.bare, ⟨I.base.keep, I.base.slot, fun b u e n x => by
      rw [upd_ne (fun z => by rw [z, h0] at e; cases e)]; exact I.base.free b u e n x, I.base.there,
      fun b xs e => by rw [upd_ne (ne_of_none (I.base.tups b xs e) hn)]; exact I.base.tups b xs e,
      fun b u xs e => by rw [upd_ne (ne_of_none (I.base.frzs b u xs e) hn)]; exact I.base.frzs b u xs e,
      fun b ps e => by
        obtain ⟨m, z⟩ := I.base.tbls b ps e
        exact ⟨m, by rw [upd_ne (ne_of_none z hn)]; exact z⟩⟩,
    I.loc, I.cell, by rw [upd_ne (Ne.symm hl)]; exact I.free, fun x c e => by rw [upd_ne (Ne.symm (hc x c e))]; exact I.freeC x c e,
    fun p m => by
      obtain ⟨e1, e2, e3⟩ := I.pin p m
      exact ⟨e1, by rw [upd_ne (hp p m)]; exact e2, e3⟩, HOk.laidN I.hok (fun _ _ e => e) hn new, I.len⟩
end
/-- a clause that keeps its exception -/
def wKept (K : PySem.W.Frag) (c : Value) (i : Nat) (ts : Addr → Value → Option Addr → TS) (D : Ends) : WX := fun cls d σ H =>
  PySem.W.exmOne K cls c = some true ∧ ∃ C, cls = .ref C ∧ ∀ a, H a = none → ts a cls d { nx := fun σ' H' => D.nx (σ'.set i none) (upd H' a (XO C d a)), rt := fun _ _ => False, bk := fun _ _ => False, ct := fun _ _ => False } (σ.set i (some (.ref a))) H
section
variable {X : Cx} {x n : Str} {c : Value} {i : Nat} {body suite : List Stmt} {b0 : Stmt} {np pos ps2 : Pos} {tb : WX → TS} {ts : Addr → Value → Option Addr → TS}
theorem ps_try_kept (ex0 : X.ex = []) (stk : X.stack = X.env :: X.outer) (frm : X.env.frame = some X.env.locals) (nd : X.N.Nodup) (at_ : X.N[i]? = some n) (lc : X.env.kindOf n = some .local) (nm : Names X x c)
    (bd : ∀ (W : WX) (pn : List (Addr × Obj)) (xe : Value → Shared → Prop), L2.Takes (X.tr pn xe) W → PassesOwn (model X.prog X.w) X.A X.env xe → PSs (X.tr pn xe) body (tb W))
    (su : ∀ (a : Addr) (ob : Obj) (cls : Value) (d : Option Addr) (pn : List (Addr × Obj)), Zc cls d ob → (∃ vs, ob.data = .fields vs) → PSs (X.suite a ((a, ob) :: pn)) (b0 :: suite) (ts a cls d)) :
    PS X (.Try body [.ExceptHandler (some (.Name x np)) (some n) (b0 :: suite) ps2] [] [] pos) (fun D σ H => tb (wKept X.K c i ts D) D σ H) := by
  constructor
  intro pins s σ H D I hbody
  have okX := I.ok
  have frames : X.A.frames = some (X.env :: X.outer) := okX.frames.trans (congrArg some stk)
  apply wpAny_Try_except
  refine wpAny_mono ((bd (wKept X.K c i ts D) (X.pn ++ pins) (fun e t => wpAny (model X.prog X.w) X.A (noteFrame e X.env) (fun _ t2 => wpAny (model X.prog X.w) X.A (setFlight e none) (fun _ t3 => wpAny (model X.prog X.w) X.A
    (handleBy e X.env [.ExceptHandler (some (.Name x np)) (some n) (b0 :: suite) ps2]) (SP X pins D) X.xe t3) X.xe t2) X.xe t) (fun u t xx => ?_) PassesOwn.looking).run [] s σ H D (I.toTry _) hbody) (fun f t out => ?_) (fun e t z => z)
  case refine_1 =>
    obtain ⟨a, B, t0, pins1, σ1, H1, cls, d, rfl, Jt, below, ups, sk, fresh, ose, bare, hyes, C, hC, hgo⟩ := xx
    have J : Inv X pins σ1 H1 t0 := Jt.ofTry okX
    rw [show (X.tr (X.pn ++ pins) _).stack = X.env :: X.outer from stk] at sk
    have Ba : B.get? a = none := by
      rcases sk with k | k | k
      · exact k.2.1
      · exact k.2.1
      · exact k.2.1
    show wpAny _ _ (noteFrame (.ref a) X.env) _ _ _
    refine Sky.land Zc.steady frames frm sk fun hp fl up2 => ?_
    obtain ⟨ob, vs, get1, zc1, dat1⟩ := fl.there
    have notF : a ∉ frs (X.env :: X.outer) := fun m => by
      obtain ⟨_, o2, e2, nf⟩ := fl.2.2.1.mem m
      rw [get1] at e2; cases e2
      exact nf _ dat1
    have nL : a ≠ X.env.locals := fun z => notF (List.mem_filterMap.mpr ⟨X.env, List.mem_cons_self, by rw [frm, z]⟩)
    have nF : a ∉ X.fs := fun m => by
      obtain ⟨v, m1, m2⟩ := List.mem_filterMap.mp m
      exact notF (List.mem_filterMap.mpr ⟨v, List.mem_cons_of_mem _ m1, m2⟩)
    have t0a : t0.heap.get? a = none := by
      cases q : t0.heap.get? a with
      | none => rfl
      | some u => rw [below a u q (by show a ∉ frs X.stack; rw [stk]; exact notF)] at Ba; cases Ba
    have s0a : X.s_0.heap.get? a = none := by
      cases q : X.s_0.heap.get? a with
      | none => rfl
      | some u =>
        obtain ⟨u', q'⟩ := J.base.there a u q (by rw [ex0]; exact List.not_mem_nil)
        rw [t0a] at q'; cases q'
    have notP : ∀ p ∈ X.pn ++ pins, p.1 ≠ a := fun p m z => by
      have q := (J.pin p m).1
      rw [z, t0a] at q; cases q
    have notC : ∀ y cc, X.env.cells.lookup y = some cc → a ≠ cc := fun y cc e z => by
      obtain ⟨v, o, q, _⟩ := J.cell y cc e
      rw [← z, t0a] at q; cases q
    have J1 : Inv X pins σ1 H1 { t with heap := hp } := J.landed below fl.1 (ups.trans up2) ose bare
    have S1 := J1.suite get1 dat1 fresh nL nF
    refine wpAny_handleBy_cons (codeAny_handlers_test ?_) (fun q => nomatch q)
    have looks : PySem.W.Looks (model X.prog X.w) hp (typeOf (.ref a)) cls := fun A Q E st k q => wpAny_typeOf_ref (k _ _ get1) (by rw [zc1.1]; exact q)
    have fits := PySem.W.exm_one (M := model X.prog X.w) J1.kIn looks hyes
    have clause : ∀ {Q : Value → Shared → Prop} {E : Value → Shared → Prop}, Q c { t with heap := hp } → wpAny (model X.prog X.w) (X.A.mark (some (.ref a))) (eval (.Name x np) X.env) Q E { t with heap := hp } := fun {Q E} q => by
      obtain ⟨g1, g2, g3 | ⟨g3, g4, g5⟩⟩ := nm
      · exact ld_glob (X := X.suite a ((a, ob) :: (X.pn ++ pins))) S1 g1 g3 q g2
      · exact ld_blt (X := X.suite a ((a, ob) :: (X.pn ++ pins))) S1 g1 g3 g4 q g5 g2
    refine clause (fits.here (codeAny_handlers_suite_as ?_))
    refine HandSPX.lands_againZ fl fun hp2 fl2 up3 => ?_
    have J2 : Inv X pins σ1 H1 { t with heap := hp2 } := J.landed below fl2.1 ((ups.trans up2).trans up3) ose bare
    obtain ⟨ob2, vs2, get2, zc2, dat2⟩ := fl2.there
    refine store_ok (X := X.suite a ((a, ob2) :: (X.pn ++ pins))) (v := .ref a) (J2.suite get2 dat2 fresh nL nF) nd at_ (.inl lc) rfl (fun t5 S5 => ?_) (.inr lc)
    refine wpAny_mono ((su a ob2 cls d (X.pn ++ pins) zc2 ⟨_, dat2⟩).run [] t5 _ H1 _ S5 (hgo a fresh)) (fun f t6 out => ?_) (fun _ _ z => False.elim z)
    cases f with
    | next =>
      obtain ⟨σ6, H6, S6, q6⟩ := out
      obtain ⟨get6, free6, _⟩ := S6.pin (a, ob2) List.mem_cons_self
      refine gone_ok (track (o := XO C d a) (S6.unsuite okX) get6 free6 s0a nL notC notP ?_) nd at_ lc fun t7 J7 => ⟨_, _, J7, q6⟩
      exact ⟨⟨ob2, vs2, get6, hC ▸ zc2, dat2⟩, ⟨ob2, get6⟩, fun h1 h2 ⟨o, v, e, z, dd⟩ k => ⟨o, v, k o e, z, dd⟩⟩
    | brk => obtain ⟨_, _, _, z⟩ := out; exact False.elim z
    | cont => obtain ⟨_, _, _, z⟩ := out; exact False.elim z
    | ret u => obtain ⟨_, _, _, _, _, z⟩ := out; exact False.elim z
  case refine_2 =>
    cases f with
    | next =>
      obtain ⟨σ1, H1, J, q⟩ := out
      exact wpAny_execs_nil ⟨σ1, H1, J.ofTry okX, q⟩
    | brk => obtain ⟨σ1, H1, J, q⟩ := out; exact ⟨σ1, H1, J.ofTry okX, q⟩
    | cont => obtain ⟨σ1, H1, J, q⟩ := out; exact ⟨σ1, H1, J.ofTry okX, q⟩
    | ret u => obtain ⟨v, σ1, H1, J, r, q⟩ := out; exact ⟨v, σ1, H1, J.ofTry okX, r, q⟩
end
theorem EnvR.gone {g : G} {F : Hp} {μ : List Addr} {ρ : Env} {σ : L2.St} (h : EnvR g F μ ρ σ) (i : Nat) : EnvR g F μ (ρ.set i none) (σ.set i none) := EnvR.wipe h [i]
/-- try: b, except .. as n: y = n -/
def mTryK (cs : List Str) (i j : Nat) (b : SM) : SM := fun ρ S => match b ρ S with
  | .go (.ex (.exc c ns ds)) ρ' S' => if cs.contains c && decide (i < ρ'.length) then .go .nx (((ρ'.set i (some (.exc c ns ds))).set j (some (.exc c ns ds))).set i none) S' else .stuck
  | .go (.ex _) _ _ => .stuck
  | o => o
/-- the class x takes the exceptions of the classes cs -/
structure CatD (K : PySem.W.Frag) (mg : Str → Option Value) (x : Str) (cs : List Str) : Prop where
  ex : ∃ CS, mg x = some (.ref CS) ∧ ∀ c ∈ cs, ∃ C, mg c = some (.ref C) ∧ PySem.W.exmOne K (.ref C) (.ref CS) = some true
section
variable {X : Cx} {W : WX} {x n y : Str} {np pos ps2 p1 p2 p3 : Pos} {body : List Stmt} {fb : SM} {cs : List Str}
theorem ds_tryK (i j : Nat) (cd : CatD X.K X.mg x cs) (nd : X.N.Nodup)
    (bd : ∀ (W : WX) (pn : List (Addr × Obj)) (xe : Value → Shared → Prop), L2.Takes (X.tr pn xe) W → PassesOwn (model X.prog X.w) X.A X.env xe → DSs (X.tr pn xe) W body fb)
    (ex0 : X.ex = [] := by rfl) (stk : X.stack = X.env :: X.outer := by rfl) (frm : X.env.frame = some X.env.locals := by rfl) (hi : X.N[i]? = some n := by rfl) (hj : X.N[j]? = some y := by rfl)
    (lc : X.env.kindOf n = some .local := by rfl) (ln : Vis X.env.scope n := by first | exact .inl rfl | exact .inr rfl) (ly : X.env.scope.names.lookup y = some .local := by rfl)
    (g1 : Gl X x := by rfl) (g2 : (x == ("__debug__" : Str)) = false := by decide) (g3 : (n == ("__debug__" : Str)) = false := by decide) (g4 : (n == ("__classdict__" : Str)) = false := by decide)
    (hs : swapsWith (.Name n p2) (some (.Name y p1)) p3.line X.env = pure false := by rfl) :
    DS X W (.Try body [.ExceptHandler (some (.Name x np)) (some n) [.Assign [.Name y p1] (.Name n p2) p3] ps2] [] [] pos) (mTryK cs i j fb) := by
  obtain ⟨CS, hx, hcs⟩ := cd.ex
  refine PS.weak (ps_try_kept (c := .ref CS) (tb := fun W => tDS (gX X) W fb) (ts := fun a cls d D σ H => ∃ v, σ[i]? = some (some v) ∧ D.nx (σ.set j (some v)) H) ex0 stk frm nd hi lc ⟨g1, g2, .inl hx⟩ bd fun a ob cls d pn _ _ =>
    pss_one (PS.weak (ps_set (X := X.suite a ((a, ob) :: pn)) (i := j) nd hj (.inl ly) (pe_var hi ln g3 g4) hs (.inr ly)) fun D σ H ⟨v, h1, h2⟩ => ⟨v, h1, h2⟩)) fun D σ H ⟨P, ρ, F, μ, S, en, rl, k⟩ => ?_
  refine ⟨P, ρ, F, μ, S, en, rl, ?_⟩
  unfold mTryK at k
  cases q : fb ρ S with
  | stuck => rw [q] at k; exact k.elim
  | go fl ρ' S' =>
    rw [q] at k
    cases fl with
    | nx => exact k
    | bk => exact k
    | ct => exact k
    | rt d => exact k
    | ex e =>
      intro F' μ' H' gr r σ' cls dd en' xr
      obtain ⟨c, ns, ds, C, xs, rfl, hm, rfl, hd, hr, hl⟩ := xr
      simp only at k
      split at k
      · rename_i hc
        simp only [Bool.and_eq_true, List.contains_iff_mem, decide_eq_true_eq] at hc
        obtain ⟨C', hC', hex⟩ := hcs c hc.1
        have hm' : X.mg c = some (.ref C) := hm
        rw [hm'] at hC'; cases hC'
        refine ⟨hex, C, rfl, fun a ha => ⟨.ref a, ?_, ?_⟩⟩
        · rw [List.getElem?_set_self (by rw [← en'.len]; exact hc.2)]
        · obtain ⟨r1, gr1⟩ := r.froz (o := XO C dd a) ha
          have rp : Rep (gX X) (upd F' a (XO C dd a)) μ' (.exc c ns ds) (.ref a) := by
            simp only [Rep]
            exact ⟨a, C, dd, xs, rfl, hm, upd_same, xd_mono gr1 hd, hr.mono gr1, hl⟩
          exact k _ _ _ (gr.trans gr1) r1 _ ((((en'.mono gr1).set rp).set rp).gone i)
      · exact k.elim
end
end DL

/-! The data layer, 10: isinstance, the fields of an exception. -/
namespace DL
open PySem PySem.Spec PyProof.Rows L2

/-- the built-in type of a value -/
def tyT (d : D) (S : Store) : Option String := match d with
  | .non => some "NoneType"
  | .bl _ => some "bool"
  | .int _ => some "int"
  | .str _ => some "str"
  | .tup _ => some "tuple"
  | .wt _ => some "tuple"
  | .lst _ => some "list"
  | .ref n => match S[n]? with
    | some (.lst _) => some "list"
    | some (.dct _ _) => some "dict"
    | _ => none
  | _ => none
def subT (a T : String) : Bool := a == T || (a == "bool" && T == "int") || T == "object"
def isD (T : String) (tab : List (Str × Bool)) (d : D) : M D := fun S => match tyT d S with
  | some a => .ok (.bl (subT a T)) S
  | none => match d with
    | .exc c _ _ => match tab.lookup c with
      | some b => .ok (.bl b) S
      | none => .stuck
    | _ => .stuck
theorem kit_D {X : Cx} {pins : List (Addr × Obj)} {σ : L2.St} {s : Shared} {P F : Hp} {μ : List Addr} {S : Store} {H : Hp} {d : D} {v : V} {u : Value} {a : String} (I : Inv X pins σ H s) (r : Rel (gX X) P F μ S H) (p : Rep (gX X) F μ d v) (rv : RelV v u) (e : tyT d S = some a) :
    ∃ Z : Heap → Prop, PySem.W.KitX X.K u (.type a) Z ∧ Z s.heap ∧ u ≠ .builtin "__main__.__loader__#opaque" := by
  have tp : ∀ {q : Addr} {xs : List V}, SqT X.K H q xs → ∃ Z : Heap → Prop, PySem.W.KitX X.K (.ref q) (.type "tuple") Z ∧ Z s.heap ∧ (.ref q : Value) ≠ .builtin "__main__.__loader__#opaque" := fun {q xs} h => by
    obtain ⟨its, _, ⟨o, h1, h2, _⟩, _⟩ := I.tuple h
    exact ⟨_, PySem.W.kitx_tuple, ⟨o, h1, h2⟩, fun z => nomatch z⟩
  have ls : ∀ {q : Addr} {xs : List V}, SqL X.K H q xs → ∃ Z : Heap → Prop, PySem.W.KitX X.K (.ref q) (.type "list") Z ∧ Z s.heap ∧ (.ref q : Value) ≠ .builtin "__main__.__loader__#opaque" := fun {q xs} h => by
    obtain ⟨its, _, ⟨o, n, h1, h2, _⟩, _⟩ := I.list h
    exact ⟨_, PySem.W.kitx_list, ⟨o, h1, h2⟩, fun z => nomatch z⟩
  cases d with
  | non => cases e; rw [p.non] at rv; exact kit_of I rv (.base .non)
  | bl b => cases e; rw [p.bl] at rv; exact kit_of I rv (.base (.bl b))
  | int i => cases e; rw [p.int] at rv; exact kit_of I rv (.base (.int i))
  | str x => cases e; rw [p.str] at rv; exact kit_of I rv (.base (.str x))
  | tup l =>
    cases e
    obtain ⟨q, xs, rfl, hs, _⟩ := p.tup r
    cases rv; exact tp hs
  | wt l =>
    cases e
    obtain ⟨q, xs, rfl, hs, _⟩ := p.wt r
    cases rv; exact tp hs
  | lst l =>
    cases e
    obtain ⟨q, xs, rfl, hs, _⟩ := p.lst r
    cases rv; exact ls hs
  | ref n =>
    cases q : S[n]? with
    | none => simp [tyT, q] at e
    | some o =>
      cases o with
      | lst l =>
        simp [tyT, q] at e
        subst e
        obtain ⟨b, xs, rfl, _, hs, _⟩ := p.refL r q
        cases rv; exact ls (.of hs)
      | dct ks ds =>
        simp [tyT, q] at e
        subst e
        simp only [Rep] at p
        obtain ⟨b, h1, rfl⟩ := p
        rcases r.live n _ b q h1 with ⟨z, _⟩ | ⟨w, _, hw, xs, hx, _⟩
        · cases z
        · subst hx
          cases rv
          exact kit_of (x := .ref b) I rfl (.base (.dK hw))
      | ins _ _ _ => simp [tyT, q] at e
      | dead => simp [tyT, q] at e
  | obj _ _ _ => cases e
  | exc _ _ _ => cases e
/-- what the class of an exception must say -/
structure ExI (K : PySem.W.Frag) (C : Addr) : Prop where
  hc : (PySem.W.clsIn K C).isSome = true
  ga : PySem.W.findIn K (.ref C) "__getattribute__" = some (some (.builtin "BaseException.__getattribute__"))
  gt : PySem.W.findIn K (.ref C) "__getattr__" = some none
  sb : PySem.W.subIn K (.ref C) (.type "BaseException") = some true
  ca : PySem.W.findIn K (.ref C) "__class__" = some (some (.builtin "object.__class__"))
  sp : PySem.W.specialIn K (.builtin "object.__class__") "__get__" = some (some (.builtin "getset_descriptor.__get__"))
  tk : PySem.W.takesIn K (.builtin "object.__class__") = some true
  mo : PySem.W.mroIn K C (.type "object") = some true
  hd : PySem.W.hasDictIn K C = true
/-- isinstance(e, c) for the exceptions of the table -/
structure IsT (K : PySem.W.Frag) (mg : Str → Option Value) (cv : Value) (tab : List (Str × Bool)) : Prop where
  all : ∀ c b, tab.lookup c = some b → ∃ C, mg c = some (.ref C) ∧ ExI K C ∧ PySem.W.kitOne K (.ref C) cv = some b
theorem Reps.lookup {g : G} {F : Hp} {μ : List Addr} (f : Str) : ∀ {ns : List Str} {ds : List D} {xs : List V} {d : D}, Reps g F μ ds xs → (ns.zip ds).lookup f = some d → ∃ v, (ns.zip xs).lookup f = some v ∧ Rep g F μ d v
  | [], _, _, _, _, e => by simp at e
  | _ :: _, [], _, _, _, e => by simp at e
  | n :: ns, x :: ds, xs, d, h, e => by
    simp only [Reps] at h
    obtain ⟨v, vs, rfl, h1, h2⟩ := h
    simp only [List.zip_cons_cons, List.lookup_cons] at e ⊢
    cases q : f == n with
    | true =>
      rw [q] at e
      cases e
      exact ⟨v, rfl, h1⟩
    | false =>
      rw [q] at e
      exact Reps.lookup f h2 e
/-- an exception object in the heap -/
theorem exc_inst {X : Cx} {pins : List (Addr × Obj)} {σ : L2.St} {s : Shared} {P F : Hp} {μ : List Addr} {S : Store} {H : Hp} {c : Str} {ns : List Str} {ds : List D} {v : V} (I : Inv X pins σ H s) (r : Rel (gX X) P F μ S H) (p : Rep (gX X) F μ (.exc c ns ds) v) :
    ∃ a C ox od, v = .ref a ∧ X.mg c = some (.ref C) ∧ PySem.W.InstAt s.heap a ox C od ∧ ∀ f d, (ns.zip ds).lookup f = some d → ∃ (oo : Obj) (y : V) (w : Value), od = some oo ∧ PySem.W.lookIn f oo = some (some w) ∧ RelV y w ∧ Rep (gX X) F μ d y := by
  simp only [Rep] at p
  obtain ⟨a, C, dd, xs, rfl, hm, hx, hd, hr, hl⟩ := p
  obtain ⟨⟨ox, vs, e1, e2, e3⟩, _, _⟩ := I.hok a _ (r.sub _ _ hx)
  rcases hd with ⟨rfl, rfl, rfl⟩ | ⟨dx, rfl, hdx⟩
  · exact ⟨a, C, ox, none, rfl, hm, ⟨e1, e2.1, by unfold PySem.W.notCls; rw [e3], by rw [e2.2]; trivial⟩, fun f d e => by simp at e⟩
  · obtain ⟨mA, h1, h2⟩ := I.hok dx _ (r.sub _ _ hdx)
    obtain ⟨od, h3, h4⟩ := lookIn_ns h1
    refine ⟨a, C, ox, some od, rfl, hm, ⟨e1, e2.1, by unfold PySem.W.notCls; rw [e3], by rw [e2.2]; exact h3⟩, fun f d e => ?_⟩
    obtain ⟨y, h5, h6⟩ := hr.lookup f e
    obtain ⟨w, h7, h8⟩ := RelO.some_of (v := y) (o := mA f) (by rw [← h5]; exact h2 f)
    exact ⟨od, y, w, rfl, by rw [h4, h7], h8, h6⟩
section
variable {X : Cx} {W : WX} {e : Expr} {fe : EM} {T x : Str} {p p2 pos : Pos} {tab : List (Str × Bool)} {Tn : String}
theorem cd_is {cv : Value} {c : V} (hcv : ClsV c cv) (hT : cv = .type Tn) (hty : ∀ a ∈ ["NoneType", "bool", "int", "str", "tuple", "list", "dict"], kitB a Tn = some (subT a Tn)) (ht : IsT X.K X.mg cv tab) :
    CallR X (.builtin "isinstance") (fun vs H Q => ∃ d v P F μ S E, vs = [v, c] ∧ Rel (gX X) P F μ S H ∧ Rep (gX X) F μ d v ∧ Fin (repD (gX X)) (gX X) P F μ (isD Tn tab d S) Q E) := by
  intro pins s σ H vs us Q I rv ⟨d, v, P, F, μ, S, E, ev, rl, p, k⟩
  subst ev hT
  obtain ⟨u1, u2, rfl, r1, r2⟩ := vals2 rv
  have e2 := hcv.eq r2
  subst e2
  unfold isD at k
  cases q : tyT d S with
  | some a =>
    rw [q] at k
    have ha : a ∈ ["NoneType", "bool", "int", "str", "tuple", "list", "dict"] := by
      cases d <;> simp only [tyT] at q <;> first | (cases q; done) | (cases q; decide) | skip
      split at q <;> first | (cases q; decide) | cases q
    obtain ⟨Z, z1, z2, z3⟩ := kit_D I rl p r1 q
    exact PySem.W.kia_one z1 I.kIn z2 (kit_ty (hty a ha)) z3 fun tk => ⟨.bl _, H, I.tok tk, rfl, k.here rl rep_bl⟩
  | none =>
    rw [q] at k
    cases d <;> first | exact k.elim | skip
    rename_i cn ns ds
    simp only at k
    cases q2 : tab.lookup cn with
    | none => rw [q2] at k; exact k.elim
    | some b =>
      rw [q2] at k
      obtain ⟨C, hm, hC, hk⟩ := ht.all cn b q2
      obtain ⟨a, C', ox, od, rfl, hm', J, _⟩ := exc_inst I rl p
      rw [hm] at hm'; cases hm'
      cases r1
      exact PySem.W.kia_one (PySem.W.kitx_exc hC.hc hC.ga hC.gt hC.sb hC.ca hC.sp hC.tk hC.mo) I.kIn J hk (fun z => nomatch z) fun tk => ⟨.bl b, H, I.tok tk, rfl, k.here rl rep_bl⟩
/-- isinstance(e, T), T a built-in type -/
def mIs (Tn : String) (tab : List (Str × Bool)) (fe : EM) : EM := fun ρ S => (fe ρ S).bind (isD Tn tab)
theorem d_isB (hm : X.mg "isinstance" = none) (hmT : X.mg T = none) (hty : ∀ a ∈ ["NoneType", "bool", "int", "str", "tuple", "list", "dict"], kitB a Tn = some (subT a Tn)) (ht : IsT X.K X.mg (.type Tn) tab) (he : DE X W e fe)
    (hg : Gl X "isinstance" := by rfl) (hgT : Gl X T := by rfl) (hv : bootBuiltins T = some (.type Tn) := by decide +kernel) (hn : T ≠ "__name__" := by decide) (hdb : (T == ("__debug__" : Str)) = false := by decide)
    (h1 : starEach [e, .Name T p2] X.env = (false, eval e X.env) :: starEach [.Name T p2] X.env := by rfl) (h2 : starEach [.Name T p2] X.env = (false, eval (.Name T p2) X.env) :: starEach [] X.env := by rfl) (h3 : (backTo pos (starEach [.Name T p2] X.env)).any (·.1) = false := by rfl) :
    DE X W (.Call (.Name "isinstance" p) [e, .Name T p2] [] pos) (mIs Tn tab fe) := by
  have hT : PE X (.Name T p2) (tC (.ty Tn)) := ⟨fun pins s σ H Q I q => ld_blt I hgT hmT hv ⟨.ty Tn, H, I, rfl, q⟩ hn hdb⟩
  refine PE.weak (pe_callB (id := "isinstance") (cd_is (.ty Tn) rfl hty ht) hg hm (by decide +kernel) (pa_cons he (pa_cons hT pa_nil h2) h1) (by decide) (by decide) h1 h3) fun σ H Q ⟨P, ρ, F, μ, S, en, rl, k⟩ => ?_
  refine tD.run en rl (Fin.imp (Fin.bind (rep := repD (gX X)) k) (fun v H1 ⟨d, F1, μ1, S1, g1, r1, p1, k1⟩ => ?_) fun _ _ _ z => z)
  exact ⟨d, v, P, F1, μ1, S1, _, rfl, r1, p1, k1⟩
/-- isinstance(e, x), x an own class, e an exception -/
def isC (tab : List (Str × Bool)) (d : D) : M D := fun S => match d with
  | .exc c _ _ => match tab.lookup c with
    | some b => .ok (.bl b) S
    | none => .stuck
  | _ => .stuck
def mIsC (tab : List (Str × Bool)) (fe : EM) : EM := fun ρ S => (fe ρ S).bind (isC tab)
/-- the module's name x is an own class, and isinstance answers as the table says -/
structure IsCD (K : PySem.W.Frag) (mg : Str → Option Value) (x : Str) (tab : List (Str × Bool)) : Prop where
  ex : ∃ CS, mg x = some (.ref CS) ∧ IsT K mg (.ref CS) tab
theorem d_isC (hm : X.mg "isinstance" = none) (hx : IsCD X.K X.mg x tab) (he : DE X W e fe) (hg : Gl X "isinstance" := by rfl) (hgT : Gl X x := by rfl) (hdb : (x == ("__debug__" : Str)) = false := by decide)
    (h1 : starEach [e, .Name x p2] X.env = (false, eval e X.env) :: starEach [.Name x p2] X.env := by rfl) (h2 : starEach [.Name x p2] X.env = (false, eval (.Name x p2) X.env) :: starEach [] X.env := by rfl) (h3 : (backTo pos (starEach [.Name x p2] X.env)).any (·.1) = false := by rfl) :
    DE X W (.Call (.Name "isinstance" p) [e, .Name x p2] [] pos) (mIsC tab fe) := by
  obtain ⟨CS, hmx, ht⟩ := hx.ex
  have cr : CallR X (.builtin "isinstance") (fun vs H Q => ∃ d v P F μ S E, vs = [v, .ref CS] ∧ Rel (gX X) P F μ S H ∧ Rep (gX X) F μ d v ∧ Fin (repD (gX X)) (gX X) P F μ (isC tab d S) Q E) := by
    intro pins s σ H vs us Q I rv ⟨d, v, P, F, μ, S, E, ev, rl, p, k⟩
    subst ev
    obtain ⟨u1, u2, rfl, r1, r2⟩ := vals2 rv
    cases r2
    unfold isC at k
    cases d <;> first | exact k.elim | skip
    rename_i cn ns ds
    simp only at k
    cases q2 : tab.lookup cn with
    | none => rw [q2] at k; exact k.elim
    | some b =>
      rw [q2] at k
      obtain ⟨C, hm, hC, hk⟩ := ht.all cn b q2
      obtain ⟨a, C', ox, od, rfl, hm', J, _⟩ := exc_inst I rl p
      rw [hm] at hm'; cases hm'
      cases r1
      exact PySem.W.kia_one (PySem.W.kitx_exc hC.hc hC.ga hC.gt hC.sb hC.ca hC.sp hC.tk hC.mo) I.kIn J hk (fun z => nomatch z) fun tk => ⟨.bl b, H, I.tok tk, rfl, k.here rl rep_bl⟩
  refine PE.weak (pe_callB (id := "isinstance") cr hg hm (by decide +kernel) (pa_cons he (pa_cons (pe_glob hgT hmx (v := .ref CS) rfl hdb) pa_nil h2) h1) (by decide) (by decide) h1 h3) fun σ H Q ⟨P, ρ, F, μ, S, en, rl, k⟩ => ?_
  refine tD.run en rl (Fin.imp (Fin.bind (rep := repD (gX X)) k) (fun v H1 ⟨d, F1, μ1, S1, g1, r1, p1, k1⟩ => ?_) fun _ _ _ z => z)
  exact ⟨d, v, P, F1, μ1, S1, _, rfl, r1, p1, k1⟩
/-- e.f, e an exception with the field f -/
def xfD (f : Str) (d : D) : M D := fun S => match d with
  | .exc _ ns ds => match (ns.zip ds).lookup f with
    | some y => .ok y S
    | none => .stuck
  | _ => .stuck
def mXf (f : Str) (fe : EM) : EM := fun ρ S => (fe ρ S).bind (xfD f)
/-- the classes whose instances may be asked for f -/
structure XfD (K : PySem.W.Frag) (mg : Str → Option Value) (f : Str) (cs : List Str) : Prop where
  all : ∀ c ∈ cs, ∃ C, mg c = some (.ref C) ∧ ExI K C ∧ PySem.W.findIn K (.ref C) f = some none
def xfC (cs : List Str) (f : Str) (d : D) : M D := fun S => match d with
  | .exc c _ _ => if cs.contains c then xfD f d S else .stuck
  | _ => .stuck
def mXfC (cs : List Str) (f : Str) (fe : EM) : EM := fun ρ S => (fe ρ S).bind (xfC cs f)
theorem d_xf {f : Str} {cs : List Str} (hx : XfD X.K X.mg f cs) (he : DE X W e fe) (hb : attributeBase e f X.env (eval e X.env) = eval e X.env := by rfl) : DE X W (.Attribute e f pos) (mXfC cs f fe) := by
  refine ⟨fun pins s σ H Q I ⟨P, ρ, F, μ, S, en, rl, k⟩ => ?_⟩
  refine attr_of hb (thn (he.run pins s σ H _ I (tD.run en rl (Fin.imp (Fin.bind (rep := repD (gX X)) k) (fun v H1 z => z) fun _ _ _ z => z))) fun u s1 ⟨v, H1, I1, rv, d, F1, μ1, S1, g1, r1, p1, k1⟩ => ?_)
  unfold xfC at k1
  cases d <;> first | exact k1.elim | skip
  rename_i c ns ds
  simp only at k1
  split at k1
  · rename_i hc
    unfold xfD at k1
    simp only at k1
    cases q : (ns.zip ds).lookup f with
    | none => rw [q] at k1; exact k1.elim
    | some y =>
      rw [q] at k1
      obtain ⟨C, hm, hC, hno⟩ := hx.all c (List.contains_iff_mem.mp hc)
      obtain ⟨a, C', ox, od, rfl, hm', J, hf⟩ := exc_inst I1 r1 p1
      rw [hm] at hm'; cases hm'
      cases rv
      obtain ⟨oo, z, w, rfl, h1, h2, h3⟩ := hf f y q
      exact HandSPX.exc_get I1.kIn J hC.ga hC.gt hC.sb (PySem.W.findObj_own hC.hd hno rfl h1) (handed_of h2) ⟨z, H1, I1.tok _, h2, k1.here r1 h3⟩
  · exact k1.elim
end
end DL

/-! The data layer, 11: repr of numbers of up to 4,300 digits, also within lists and tuples. -/
namespace DL
open PySem PySem.Spec PyProof.Rows L2

mutual
def fewB : PyData → Bool
  | .none => true
  | .bool _ => true
  | .str _ => true
  | .int i => decide (i.natAbs < 10 ^ 4300)
  | .list xs => fewsB xs
  | .tuple xs => fewsB xs
  | .dict _ => false
def fewsB : List PyData → Bool
  | [] => true
  | x :: xs => fewB x && fewsB xs
end
section
variable {prog : Program} {w : World} {h0 : Heap}
theorem big_int {A : Around} {E : Value → Shared → Prop} {s : Shared} {i : Int} {t : Tok} {Q : Value → Shared → Prop} (hn : s.heap.NoDigits) (hi : i.natAbs < 10 ^ 4300) (hu : A.units < cLine) (h : Q (.str (toString i) s.toks) { s with toks := s.toks + 1 }) :
    wpAny (model prog w) A (pyReprObj (.int i t)) Q E s := by
  refine wpAny_pyReprObj_slot hu (typeIs_int s i t) PySem.F.slot_int_repr.toG (wpAny_call_entry PySem.F.slot_int_repr (typeIs_int s i t) PySem.F.entry_int_repr ?_ (PySem.F.args_int_repr_1 _))
  unfold Builtin.«int.__repr__»
  show wpAny _ _ (do let q ← Builtin.overDigitLimit? i; _) _ _ s
  exact wpAny_bind (overDigitLimit_any hn (fun _ => wpAny_bind (wpAny_mkStr (wpAny_pure ⟨_, rfl, _, _, rfl, h⟩) (int_text_fits10 hi))) (fun z => absurd hi (Nat.not_lt.mpr z)))
theorem big_leaf {i : Int} {t : Tok} (nd : h0.NoDigits) (hi : i.natAbs < 10 ^ 4300) (bs : List Addr) (n : Nat) : ReprK prog w bs h0 n (.int i t) (toString i) := by
  intro b hb A g E s Q hg hc hu hk hQ
  rw [pyReprUnder_leaf (v := .int i t) (by omega) (fun a e => nomatch e)]
  unfold pyRepr
  exact wpAny_bind (big_int (nd.keeps hk) hi (by omega) (wpAny_pure (hQ s.heap _ fun _ _ e => e)))
mutual
theorem bigK (nd : h0.NoDigits) : ∀ {v : Value} {d : PyData} {as : List Addr}, Reads h0 v d as → fewB d = true → d.shown.length ≤ sizeLine → ∃ bs, ReadAtMost h0 d.depth bs ∧ ReprK prog w bs h0 d.depth v d.shown
  | _, _, _, .none, _, _ => ⟨[], nofun, by rw [PyData.shown]; exact .of_is ReprIs.none _ _ _⟩
  | _, _, _, .bool b, _, _ => ⟨[], nofun, by rw [PyData.shown]; exact .of_is (ReprIs.bool b) _ _ _⟩
  | _, _, _, .int i t, hf, _ => ⟨[], nofun, by rw [PyData.shown]; exact big_leaf nd (by simpa [fewB] using hf) _ _⟩
  | _, _, _, .str x t, _, hz => ⟨[], nofun, by rw [PyData.shown] at hz ⊢; exact .of_is (ReprIs.str x t hz) _ _ _⟩
  | _, _, _, .list (a := a) (vs := vs) (xs := xs) h1 h2 h3 h4, hf, hz => by
    rw [PyData.shown] at hz
    obtain ⟨bs, b1, b2⟩ := bigsK nd h4 (by simpa [fewB] using hf) fun t m => Nat.le_trans (listText_mem_le m) hz
    have rd : Reads h0 (.ref a) (.list xs) _ := .list h1 h2 h3 h4
    have out : a ∉ bs := not_mem_of_deeper rd (by rw [PyData.depth]; omega) b1
    refine ⟨a :: bs, ReadAtMost.cons rd (by rw [PyData.depth]; omega) b1, ?_⟩
    rw [PyData.depth, PyData.shown]
    rcases vs with ⟨_ | ⟨y, l⟩⟩
    · cases (show ReadsAll h0 [] xs _ from h4)
      rw [PyData.shownAll, listText_nil]
      exact .listEmpty h1 h2 h3
    · exact .list h1 h2 h3 out (by simpa using b2.length_eq) fun i z e => b2.item i z (by simpa using e)
  | _, _, _, .tuple (a := a) (xs := xs) h1 h2 h3 h4, hf, hz => by
    rw [PyData.shown] at hz
    obtain ⟨bs, b1, b2⟩ := bigsK nd h4 (by simpa [fewB] using hf) fun t m => Nat.le_trans (tupleText_mem_le m) hz
    have rd : Reads h0 (.ref a) (.tuple xs) _ := .tuple h1 h2 h3 h4
    have out : a ∉ bs := not_mem_of_deeper rd (by rw [PyData.depth]; omega) b1
    refine ⟨a :: bs, ReadAtMost.cons rd (by rw [PyData.depth]; omega) b1, ?_⟩
    rw [PyData.depth, PyData.shown]
    exact .tuple h1 h2 h3 out b2
  | _, _, _, .dict .., hf, _ => by simp [fewB] at hf
theorem bigsK (nd : h0.NoDigits) : ∀ {vs : List Value} {ds : List PyData} {as : List Addr}, ReadsAll h0 vs ds as → fewsB ds = true → (∀ t ∈ PyData.shownAll ds, t.length ≤ sizeLine) →
    ∃ bs, ReadAtMost h0 (PyData.depthAll ds) bs ∧ ReprAllK prog w bs h0 (PyData.depthAll ds) vs (PyData.shownAll ds)
  | _, _, _, .nil, _, _ => ⟨[], nofun, by rw [PyData.shownAll]; exact .nil⟩
  | _, _, _, .cons (d := d) (ds := ds) r rs, hf, hz => by
    rw [PyData.shownAll] at hz
    simp only [fewsB, Bool.and_eq_true] at hf
    obtain ⟨b1, m1, k1⟩ := bigK nd r hf.1 (hz _ List.mem_cons_self)
    obtain ⟨b2, m2, k2⟩ := bigsK nd rs hf.2 fun t m => hz t (List.mem_cons_of_mem _ m)
    have le1 : d.depth ≤ PyData.depthAll (d :: ds) := by rw [PyData.depthAll]; exact Nat.le_max_left _ _
    have le2 : PyData.depthAll ds ≤ PyData.depthAll (d :: ds) := by rw [PyData.depthAll]; exact Nat.le_max_right _ _
    refine ⟨b1 ++ b2, (m1.mono le1).append (m2.mono le2), ?_⟩
    rw [PyData.shownAll]
    exact .cons ((k1.more fun b m => List.mem_append_left _ m).level_le le1) (k2.more_le (fun b m => List.mem_append_right _ m) le2)
end
/-- repr(v) -/
theorem big_repr {A : Around} {E : Value → Shared → Prop} {s : Shared} {Q : Value → Shared → Prop} {v : Value} {d : PyData} {as : List Addr} (r : Reads s.heap v d as) (nd : s.heap.NoDigits) (hf : fewB d = true) (hz : d.shown.length ≤ sizeLine) (hg : A.guards = some []) (hu : A.units + d.depth + 1 < cLine)
    (q : ∀ h' u tk, (∀ b o, s.heap.get? b = some o → h'.get? b = some o) → Q (.str d.shown u) { s with heap := h', toks := tk }) : wpAny (model prog w) A (call (.builtin "repr") [v]) Q E s := by
  cases r with
  | none => exact PySem.P.repr_of_none (q s.heap _ _ fun _ _ e => e)
  | bool b => exact PySem.P.repr_of_bool (q s.heap _ _ fun _ _ e => e)
  | int i t =>
    have hi : i.natAbs < 10 ^ 4300 := by simpa [fewB] using hf
    refine call_repr_slot (by omega) (typeIs_int s i t) PySem.F.slot_int_repr.toG (wpAny_call_entry PySem.F.slot_int_repr (typeIs_int s i t) PySem.F.entry_int_repr ?_ (PySem.F.args_int_repr_1 _))
    unfold Builtin.«int.__repr__»
    show wpAny _ _ (do let q ← Builtin.overDigitLimit? i; _) _ _ s
    exact wpAny_bind (overDigitLimit_any nd (fun _ => wpAny_bind (wpAny_mkStr (wpAny_pure ⟨_, rfl, _, _, rfl, q s.heap _ _ fun _ _ e => e⟩) (int_text_fits10 hi))) (fun z => absurd hi (Nat.not_lt.mpr z)))
  | str x t =>
    rw [PyData.shown] at hz
    exact PySem.P.repr_of_str (q s.heap _ _ fun _ _ e => e) hz
  | @list o a vs n xs bs0 h1 h2 h3 h4 =>
    rw [PyData.shown] at hz
    rw [PyData.depth] at hu
    obtain ⟨bs, b1, b2⟩ := bigsK (prog := prog) (w := w) nd h4 (by simpa [fewB] using hf) fun t m => Nat.le_trans (listText_mem_le m) hz
    have out := not_mem_of_deeper (.list h1 h2 h3 h4) (n := PyData.depthAll xs) (bs := bs) (by rw [PyData.depth]; omega) b1
    refine call_repr_slot (by omega) ⟨_, h1, h2⟩ PySem.F.slot_list_repr.toG ?_
    rcases vs with ⟨_ | ⟨y, l⟩⟩
    · cases (show ReadsAll s.heap [] xs _ from h4)
      rw [PyData.shown, PyData.shownAll, listText_nil] at q
      exact call_list_repr_empty ⟨_, h1, h2⟩ h1 h3 ⟨_, _, rfl, q s.heap _ _ fun _ _ e => e⟩
    · rw [PyData.shown] at q
      exact call_list_reprK h1 h2 h3 out (by simpa using b2.length_eq) (fun i z e => b2.item i z (by simpa using e)) hg (fun b _ => Clear.nil b) (by show A.units + 1 + _ < cLine; omega) (fun _ _ e => e) (fun h' u tk k => ⟨_, _, rfl, q h' u tk k⟩) hz
  | tuple h1 h2 h3 h4 =>
    rename_i xs
    rw [PyData.shown] at hz
    rw [PyData.depth] at hu
    obtain ⟨bs, b1, b2⟩ := bigsK (prog := prog) (w := w) nd h4 (by simpa [fewB] using hf) fun t m => Nat.le_trans (tupleText_mem_le m) hz
    have out := not_mem_of_deeper (.tuple h1 h2 h3 h4) (n := PyData.depthAll xs) (bs := bs) (by rw [PyData.depth]; omega) b1
    rw [PyData.shown] at q
    exact call_repr_slot (by omega) ⟨_, h1, h2⟩ PySem.F.slot_tuple_repr (call_tuple_reprK h1 h2 h3 out b2 hg (fun b _ => Clear.nil b) (by show A.units + 1 + _ < cLine; omega) (fun _ _ e => e) (fun h' u tk k => ⟨_, _, rfl, q h' u tk k⟩) hz)
  | dict => simp [fewB] at hf
end
/-- repr(x) -/
def reprD (x : D) : M D := fun S => if plain 63 (derD x S) && fewB (toPy (derD x S)) && decide ((toPy (derD x S)).shown.length ≤ sizeLine) then .ok (.str (toPy (derD x S)).shown) S else .stuck
theorem nd_here {X : Cx} {pins : List (Addr × Obj)} {σ : L2.St} {H : Hp} {s : Shared} (I : Inv X pins σ H s) (nd : X.base.NoDigits) : s.heap.NoDigits := nd.keeps I.bk
theorem cd_repr {X : Cx} (nd : X.base.NoDigits) (hg : X.A.guards = some []) (hu : X.A.units + 64 < cLine) : CallD X (.builtin "repr") (one reprD) := by
  intro pins s σ H vs us Q I rv ⟨ds, P, F, μ, S, E, rl, rx, k⟩
  obtain ⟨d, v, rfl, p, k⟩ := one_fin k rx
  unfold reprD at k
  split at k
  · rename_i hc
    simp only [Bool.and_eq_true, decide_eq_true_eq] at hc
    obtain ⟨⟨h1, h2⟩, h3⟩ := hc
    obtain ⟨u, rfl, ru⟩ := vals1 rv
    obtain ⟨as, rd⟩ := Dp.reads I _ v u (der_dp rl (plain_up h1) p) ru
    obtain ⟨_, hd⟩ := plain_lay 63 _ h1
    exact big_repr rd (nd_here I nd) h2 h3 hg (by omega) fun h' u tk hk => ⟨.str _, H, I.kept (t' := tk) hk, ⟨_, rfl⟩, k.here rl rep_str⟩
  · exact k.elim
end DL

/-! The data layer, 12: what the top tells of classes and names; augmented assignments; extend. -/
namespace DL
open PySem PySem.Spec PyProof.Rows L2

inductive Each {α : Type} (P : α → Prop) : List α → Prop where
  | nil : Each P []
  | cons {a : α} {l : List α} (h : P a) (t : Each P l) : Each P (a :: l)
theorem Each.mem {α : Type} {P : α → Prop} {l : List α} (e : Each P l) : ∀ a ∈ l, P a := by
  induction e with
  | nil => intro a h; simp at h
  | cons h t ih =>
    intro a m
    rcases List.mem_cons.mp m with rfl | m
    · exact h
    · exact ih a m
def NsK (K : PySem.W.Frag) (x : Str) (C : Addr) : Prop := PySem.W.nsIn K mainGlobals x = some (some (.ref C))
theorem nsK {K : PySem.W.Frag} {x : Str} {C : Addr} (h : PySem.W.nsIn K mainGlobals x = some (some (.ref C))) : NsK K x C := h
theorem NsK.eq {K : PySem.W.Frag} {x : Str} {C D : Addr} (a : NsK K x C) (b : NsK K x D) : C = D := by
  unfold NsK at a b
  rw [a] at b
  injection b with b
  injection b with b
  injection b
/-- an own exception class -/
def XcK (K : PySem.W.Frag) (c : Str) : Prop := ∃ C, NsK K c C ∧ ExI K C
theorem xcK {K : PySem.W.Frag} {c : Str} {C : Addr} (n : PySem.W.nsIn K mainGlobals c = some (some (.ref C))) (h2 : PySem.W.findIn K (.ref C) "__getattribute__" = some (some (.builtin "BaseException.__getattribute__"))) (h3 : PySem.W.findIn K (.ref C) "__getattr__" = some none)
    (h4 : PySem.W.subIn K (.ref C) (.type "BaseException") = some true) (h5 : PySem.W.findIn K (.ref C) "__class__" = some (some (.builtin "object.__class__"))) (h6 : PySem.W.specialIn K (.builtin "object.__class__") "__get__" = some (some (.builtin "getset_descriptor.__get__")))
    (h7 : PySem.W.takesIn K (.builtin "object.__class__") = some true) (h8 : PySem.W.mroIn K C (.type "object") = some true) (h9 : PySem.W.hasDictIn K C = true) : XcK K c := ⟨C, n, (by obtain ⟨cd, e, _⟩ := PySem.W.any_some h9; rw [e]; rfl), h2, h3, h4, h5, h6, h7, h8, h9⟩
/-- isinstance of an exception of the class p.1 by the class x, by the built-in type T -/
def IsPK (K : PySem.W.Frag) (x : Str) (p : Str × Bool) : Prop := ∃ CS C, NsK K x CS ∧ NsK K p.1 C ∧ PySem.W.kitOne K (.ref C) (.ref CS) = some p.2
def IsTK (K : PySem.W.Frag) (T : String) (p : Str × Bool) : Prop := ∃ C, NsK K p.1 C ∧ PySem.W.kitOne K (.ref C) (.type T) = some p.2
/-- an except clause -/
def CaPK (K : PySem.W.Frag) (x c : Str) : Prop := ∃ CS C, NsK K x CS ∧ NsK K c C ∧ PySem.W.exmOne K (.ref C) (.ref CS) = some true
/-- the field f of the class c's exceptions -/
def XfPK (K : PySem.W.Frag) (f c : Str) : Prop := ∃ C, NsK K c C ∧ PySem.W.findIn K (.ref C) f = some none
theorem isPK {K : PySem.W.Frag} {x c : Str} {b : Bool} {CS C : Addr} (h1 : PySem.W.nsIn K mainGlobals x = some (some (.ref CS))) (h2 : PySem.W.nsIn K mainGlobals c = some (some (.ref C))) (h3 : PySem.W.kitOne K (.ref C) (.ref CS) = some b) : IsPK K x (c, b) := ⟨CS, C, h1, h2, h3⟩
theorem isTK {K : PySem.W.Frag} {T : String} {c : Str} {b : Bool} {C : Addr} (h2 : PySem.W.nsIn K mainGlobals c = some (some (.ref C))) (h3 : PySem.W.kitOne K (.ref C) (.type T) = some b) : IsTK K T (c, b) := ⟨C, h2, h3⟩
theorem caPK {K : PySem.W.Frag} {x c : Str} {CS C : Addr} (h1 : PySem.W.nsIn K mainGlobals x = some (some (.ref CS))) (h2 : PySem.W.nsIn K mainGlobals c = some (some (.ref C))) (h3 : PySem.W.exmOne K (.ref C) (.ref CS) = some true) : CaPK K x c := ⟨CS, C, h1, h2, h3⟩
theorem xfPK {K : PySem.W.Frag} {f c : Str} {C : Addr} (h2 : PySem.W.nsIn K mainGlobals c = some (some (.ref C))) (h3 : PySem.W.findIn K (.ref C) f = some none) : XfPK K f c := ⟨C, h2, h3⟩
section
variable {K : PySem.W.Frag} {h : Heap} {mg : Str → Option Value}
theorem mem_lookup {tab : List (Str × Bool)} {c : Str} {b : Bool} (e : tab.lookup c = some b) : (c, b) ∈ tab := by
  induction tab with
  | nil => simp at e
  | cons p l ih =>
    obtain ⟨a, d⟩ := p
    simp only [List.lookup_cons] at e
    cases q : c == a with
    | true =>
      rw [q] at e
      cases e
      have : c = a := by simpa using q
      subst this
      exact List.mem_cons_self
    | false =>
      rw [q] at e
      exact List.mem_cons_of_mem _ (ih e)
theorem isCD_of (X : K.In h) (G : h.Ns mainGlobals mg) {x : Str} {tab : List (Str × Bool)} {CS : Addr} (hx : NsK K x CS) (hz : Each (XcK K) (tab.map (·.1))) (hp : Each (IsPK K x) tab) : IsCD K mg x tab :=
  ⟨CS, PySem.W.mg_of X G hx, ⟨fun c b e => by
    have m := mem_lookup e
    obtain ⟨C, n1, n2⟩ := hz.mem c (List.mem_map.mpr ⟨_, m, rfl⟩)
    obtain ⟨CS', C', n3, n4, n5⟩ := hp.mem _ m
    cases hx.eq n3
    cases n1.eq n4
    exact ⟨C, PySem.W.mg_of X G n1, n2, n5⟩⟩⟩
theorem isT_of (X : K.In h) (G : h.Ns mainGlobals mg) {T : String} {tab : List (Str × Bool)} (hz : Each (XcK K) (tab.map (·.1))) (hp : Each (IsTK K T) tab) : IsT K mg (.type T) tab :=
  ⟨fun c b e => by
    have m := mem_lookup e
    obtain ⟨C, n1, n2⟩ := hz.mem c (List.mem_map.mpr ⟨_, m, rfl⟩)
    obtain ⟨C', n4, n5⟩ := hp.mem _ m
    cases n1.eq n4
    exact ⟨C, PySem.W.mg_of X G n1, n2, n5⟩⟩
theorem isT_nil {T : String} : IsT K mg (.type T) [] := ⟨fun c b e => by simp at e⟩
theorem catD_of (X : K.In h) (G : h.Ns mainGlobals mg) {x : Str} {cs : List Str} {CS : Addr} (hx : NsK K x CS) (hp : Each (CaPK K x) cs) : CatD K mg x cs :=
  ⟨CS, PySem.W.mg_of X G hx, fun c m => by
    obtain ⟨CS', C, n3, n4, n5⟩ := hp.mem _ m
    cases hx.eq n3
    exact ⟨C, PySem.W.mg_of X G n4, n5⟩⟩
theorem xfD_of (X : K.In h) (G : h.Ns mainGlobals mg) {f : Str} {cs : List Str} (hz : Each (XcK K) cs) (hp : Each (XfPK K f) cs) : XfD K mg f cs :=
  ⟨fun c m => by
    obtain ⟨C, n1, n2⟩ := hz.mem c m
    obtain ⟨C', n3, n4⟩ := hp.mem c m
    cases n1.eq n3
    exact ⟨C, PySem.W.mg_of X G n1, n2, n4⟩⟩
/-- x, a second name of the def y -/
def SameK (K : PySem.W.Frag) (x y : Str) : Prop := ∃ f, NsK K x f ∧ NsK K y f
theorem sameK {x y : Str} {f : Addr} (a : PySem.W.nsIn K mainGlobals x = some (some (.ref f))) (b : PySem.W.nsIn K mainGlobals y = some (some (.ref f))) : SameK K x y := ⟨f, a, b⟩
theorem SameK.cal {P : Program} {w : World} {base : Heap} {k n : Nat} {x y : Str} {m : List D → M D} (s : SameK K x y) (X : K.In h) (G : h.Ns mainGlobals mg) (c : Cal P w K mg base k y n m) : Cal P w K mg base k x n m := by
  obtain ⟨f, n1, n2⟩ := s
  obtain ⟨f', fd, ps, h1, h2, h3, h4, h5⟩ := c.ex
  rw [PySem.W.mg_of X G n2] at h1
  cases h1
  exact ⟨f, fd, ps, PySem.W.mg_of X G n1, h2, h3, h4, h5⟩
/-- a constant of the module -/
def GlobV (K : PySem.W.Frag) (d : D) (u : Value) : Prop := ∃ v, RelV v u ∧ ∀ (g : G) (F : Hp) (μ : List Addr), g.K = K → Rep g F μ d v
inductive GlobVs (K : PySem.W.Frag) : List D → List Value → Prop where
  | nil : GlobVs K [] []
  | cons {d : D} {u : Value} {ds : List D} {us : List Value} (h : GlobV K d u) (t : GlobVs K ds us) : GlobVs K (d :: ds) (u :: us)
theorem globV_int {i : Int} {t : Tok} : GlobV K (.int i) (.int i t) := ⟨.int i, ⟨t, rfl⟩, fun _ _ _ _ => rep_int⟩
theorem globV_str {x : Str} {t : Tok} : GlobV K (.str x) (.str x t) := ⟨.str x, ⟨t, rfl⟩, fun _ _ _ _ => rep_str⟩
theorem globV_tup {ds : List D} {a : Addr} {us : List Value} {n : Nat} {sl : Array (Option Value)} (l : K.lookup a = some ⟨.type "tuple", none, .seq us.toArray n, sl⟩) (h : GlobVs K ds us) (hz : ds.length ≤ sizeLine) : GlobV K (.tup ds) (.ref a) := by
  have key : ∃ xs, Vals xs us ∧ xs.length = ds.length ∧ ∀ (g : G) (F : Hp) (μ : List Addr), g.K = K → Reps g F μ ds xs := by
    clear hz l
    induction h with
    | nil => exact ⟨[], .nil, rfl, fun _ _ _ _ => reps_nil⟩
    | cons h t ih =>
      obtain ⟨v, h1, h2⟩ := h
      obtain ⟨xs, h3, h4, h5⟩ := ih
      exact ⟨v :: xs, .cons h1 h3, by simp [h4], fun g F μ e => reps_cons (h2 g F μ e) (h5 g F μ e)⟩
  obtain ⟨xs, h1, h2, h3⟩ := key
  refine ⟨.ref a, rfl, fun g F μ e => ?_⟩
  simp only [Rep]
  subst e
  refine ⟨a, xs, rfl, ⟨.inr ⟨_, us.toArray, n, l, rfl, rfl, ?_, by simpa using h1⟩, ⟨_, rfl, .inr l⟩⟩, h3 g F μ rfl⟩
  have := h1.length
  simp; omega
def GlobK (K : PySem.W.Frag) (x : Str) (d : D) : Prop := ∃ u, PySem.W.nsIn K mainGlobals x = some (some u) ∧ GlobV K d u
theorem globK {x : Str} {d : D} {u : Value} (a : PySem.W.nsIn K mainGlobals x = some (some u)) (b : GlobV K d u) : GlobK K x d := ⟨u, a, b⟩
theorem GlobK.glob {x : Str} {d : D} (k : GlobK K x d) (X : K.In h) (G : h.Ns mainGlobals mg) : GlobD ⟨K, mg⟩ x d := by
  obtain ⟨u, a, v, r, p⟩ := k
  exact ⟨v, u, PySem.W.mg_of X G a, r, fun F μ => p _ F μ rfl⟩
end
/-- a + b, a list that will change -/
def addN (x y : D) : M D := fun S => match lstOf x S, lstOf y S with
  | some a, some b => if a.length + b.length ≤ sizeLine then .ok (.ref S.length) (S ++ [.lst (a ++ b)]) else .stuck
  | _, _ => .stuck
theorem od_addN {X : Cx} : OpD X (binaryOp .Add) addN := by
  intro pins s σ H v w u u' Q I rv rw ⟨x, y, P, F, μ, S, E, rl, rx, ry, k⟩
  unfold addN at k
  split at k
  · rename_i a b ea eb
    split at k
    · rename_i hc
      obtain ⟨a', xs, e1, h1, p1⟩ := lstOf_rep rl ea rx
      obtain ⟨b', ys, e2, h2, p2⟩ := lstOf_rep rl eb ry
      have l1 := p1.length
      have l2 := p2.length
      exact op_catQ pins s σ H _ _ _ _ Q I rv rw ⟨a', b', xs, ys, e1, e2, h1, h2, by omega, fun p hp => k.newR rl (p1.append p2) hp⟩
    · exact k.elim
  · exact k.elim
end DL

/-! The data layer, 13: dicts at places: comprehensions, d[k]. -/
namespace DL
open PySem PySem.Spec PyProof.Rows L2

def keyOf : D → Option Key
  | .int i => some (.inl i)
  | .str x => some (.inr x)
  | _ => none
theorem keyOf_rep {g : G} {F : Hp} {μ : List Addr} {d : D} {k : Key} {v : V} (e : keyOf d = some k) (h : Rep g F μ d v) : v = kV k := by
  cases d <;> cases e
  · exact h.int
  · exact h.str
/-- the value of a key -/
def getK : List Key → List D → Key → Option D
  | n :: ks, d :: ds, k => if n = k then some d else getK ks ds k
  | _, _, _ => none
theorem getK_rep {g : G} {F : Hp} {μ : List Addr} {k : Key} : ∀ {ks : List Key} {ds : List D} {xs : List V} {d : D}, Reps g F μ ds xs → getK ks ds k = some d → ∃ v, valV (ks.zip xs) k = some v ∧ Rep g F μ d v
  | [], _, _, _, _, e => by simp [getK] at e
  | _ :: _, [], _, _, _, e => by simp [getK] at e
  | n :: ks, x :: ds, xs, d, h, e => by
    simp only [Reps] at h
    obtain ⟨v, vs, rfl, h1, h2⟩ := h
    unfold getK at e
    split at e
    · rename_i q
      cases e
      exact ⟨v, valV_pos q, h1⟩
    · rename_i q
      obtain ⟨w, h3, h4⟩ := getK_rep (ks := ks) h2 e
      exact ⟨w, (valV_neg (p := (n, v)) q).trans h3, h4⟩
def dgetD (x y : D) : M D := fun S => match x with
  | .ref n => match S[n]? with
    | some (.dct ks ds) => match keyOf y with
      | some k => match getK ks ds k with
        | some d => .ok d S
        | none => .stuck
      | none => .stuck
    | _ => .stuck
  | _ => .stuck
section
variable {X : Cx} {W : WX} {a b : Expr} {fa fb : EM} {pos : Pos}
theorem d_dget (hu : X.A.units + 65 < cLine) (ha : DE X W a fa) (hb : DE X W b fb) (hs : NoSl b := by exact fun _ _ => rfl) : DE X W (.Subscript a b pos) (mOp dgetD fa fb) := by
  refine PE.weak (pe_dget (by omega) ha hb hs) fun σ H Q ⟨P, ρ, F, μ, S, en, rl, k⟩ => ?_
  refine tD.run en rl (Fin.imp (Fin.bind (rep := repD (gX X)) k) (fun v H1 ⟨x, F1, μ1, S1, g1, r1, p1, k1⟩ => ?_) fun _ _ _ z => z)
  refine tD.run (en.mono g1) r1 (Fin.imp (Fin.bind (rep := repD (gX X)) k1) (fun w H2 ⟨y, F2, μ2, S2, g2, r2, p2, k2⟩ => ?_) fun _ _ _ z => z)
  have px := p1.mono g2
  unfold dgetD at k2
  cases x <;> first | exact k2.elim | skip
  rename_i nn
  simp only at k2
  split at k2
  · rename_i ks ds q
    split at k2
    · rename_i key qk
      split at k2
      · rename_i d qd
        simp only [Rep] at px
        obtain ⟨p, h1, rfl⟩ := px
        rcases r2.live _ _ p q h1 with ⟨z, _⟩ | ⟨u, _, hu', hob⟩
        · cases z
        · obtain ⟨xs, hx, hr, hl⟩ := hob
          subst hx
          obtain ⟨v', h2, h3⟩ := getK_rep hr qd
          exact ⟨p, v', rfl, by rw [keyOf_rep qk p2, ← h2]; exact DGet.k hu', k2.here r2 h3⟩
      · exact k2.elim
    · exact k2.elim
  · exact k2.elim
end
/-- the loop of a dict comprehension -/
def mDcA (gm : GM) (tt : BM) (tk tv : EM) (ρ : Env) : List D → List Key → List D → M (List Key × List D)
  | [], ks, vs, S => .ok (ks, vs) S
  | d :: ds, ks, vs, S => match gm d ρ S with
    | none => .stuck
    | some x => (tt x.1 x.2).nx.bind fun b S => if b then (tk x.1 S).nx.bind fun kd S => (tv x.1 S).nx.bind fun vd S => match keyOf kd with
      | some k => if ks.any (fun q => decide (q = k)) then .stuck else mDcA gm tt tk tv ρ ds (ks ++ [k]) (vs ++ [vd]) S
      | none => .stuck
      else mDcA gm tt tk tv ρ ds ks vs S
def mDc (vs : List Nat) (fi : IM) (gm : GM) (tt : BM) (tk tv : EM) : EM := fun ρ S => (fi ρ S).bind fun ds S => if ds.length ≤ sizeLine then (mDcA gm tt tk tv (wipeD ρ vs) ds [] [] S).bind fun r S => .ok (.ref S.length) (S ++ [.dct r.1 r.2]) else .stuck
theorem putK_new {ks : List Key} {xs : List V} {k : Key} {v : V} (hl : ks.length = xs.length) (h : k ∉ ks) : putK (ks.zip xs) k v = (ks ++ [k]).zip (xs ++ [v]) := by
  unfold putK
  have : ((ks.zip xs).any fun kv => decide (kv.1 = k)) = false := by
    rw [List.any_eq_false]
    intro p hp
    have := List.of_mem_zip hp
    simp only [decide_eq_true_eq]
    intro e
    exact h (e ▸ this.1)
  rw [this, if_neg Bool.false_ne_true, List.zip_append hl]
  rfl
theorem dc_run {g : G} {W : WX} {gm : GM} {tt : BM} {tk tv : EM} {fi : IM} {vs : List Nat} : ∀ σ H Q, tD g W (mDc vs fi gm tt tk tv) σ H Q → tDc (tDI g W fi) (tDGw g vs gm) (tDB g W0 tt) (tD g W0 tk) (tD g W0 tv) vs σ H Q := fun σ H Q ⟨P, ρ, F, μ, S, en, rl, k⟩ => by
  refine ⟨P, ρ, F, μ, S, en, rl, Fin.imp (Fin.bind (rep := repI g) k) (fun J H1 ⟨ds, F1, μ1, S1, g1, r1, w, k1⟩ => ?_) fun _ _ _ z => z⟩
  split at k1
  rotate_left
  · exact k1.elim
  rename_i hlen
  intro Dl hD
  have nP : P Dl = none := by
    cases e : P Dl with
    | none => rfl
    | some u => rw [(r1.priv Dl u e).1] at hD; cases hD
  refine ⟨fun i m H => m = ds.length - i ∧ i ≤ ds.length ∧ ∃ ks acc accD F μ S, Rel g (upd P Dl (.dK (ks.zip acc))) F μ S H ∧ Gr F1 μ1 F μ ∧ Reps g F μ accD acc ∧ ks.length = acc.length ∧ acc.length ≤ i ∧
    Fin (repD g) g P F μ ((mDcA gm tt tk tv (wipeD ρ vs) (ds.drop i) ks accD S).bind fun r S => .ok (.ref S.length) (S ++ [.dct r.1 r.2])) Q (fun c d H' => W c d σ H'),
    ⟨ds.length, by simp, Nat.zero_le _, [], [], [], F1, μ1, S1, r1.hide hD, Gr.refl _ _, reps_nil, rfl, Nat.zero_le _, by simpa using k1⟩, ?_⟩
  rintro i m H2 ⟨rfl, hi, ks, acc, accD, F2, μ2, S2, r2, g2, pa, hkl, hl, k2⟩
  by_cases hlt : i < ds.length
  · refine .inr ⟨w.goes _ F2 μ2 S2 H2 i g2 r2 hlt, _, fun H' p' => ⟨ds.length - (i + 1), by omega, p'⟩, fun x H' y => ?_⟩
    obtain ⟨F3, g3, r3, rp⟩ := w.yields _ F2 μ2 S2 H2 i ds[i] x H' g2 r2 (by simp [hlt]) y
    rw [List.drop_eq_getElem_cons hlt] at k2
    unfold mDcA at k2
    cases q : gm ds[i] (wipeD ρ vs) S2 with
    | none => rw [q] at k2; exact k2.elim
    | some z =>
      rw [q] at k2
      simp only at k2
      have enw : EnvR g F3 μ2 (wipeD ρ vs) (L2.wipe σ vs) := ((en.mono (g1.trans g2)).mono g3).wipe vs
      refine ⟨ds[i], _, wipeD ρ vs, F3, μ2, S2, z.1, z.2, enw, r3, rp, q, fun F4 μ4 H4 σ4 g4 r4 en4 w4 => ?_⟩
      refine ⟨?_, ?_⟩
      · rw [w4]
        have key : ∀ (σ : L2.St) (ws us : List Nat), (∀ u ∈ us, u ∈ ws) → L2.wipe (L2.wipe σ us) ws = L2.wipe σ ws := by
          intro σ ws us
          induction us with
          | nil => intro _; rfl
          | cons u us ih =>
            intro h
            show L2.wipe ((L2.wipe σ us).set u none) ws = _
            rw [wipe_set (h u List.mem_cons_self)]
            exact ih fun v hv => h v (List.mem_cons_of_mem _ hv)
        exact key σ vs vs fun _ h => h
      · cases qt : tt z.1 z.2 with
        | stuck => rw [qt] at k2; exact k2.elim
        | exn e S5 => rw [qt] at k2; exact k2.elim
        | ok b S5 =>
          rw [qt] at k2
          refine tDB.run en4 r4 ?_
          rw [qt]
          intro F5 μ5 H5 b' g5 r5 eb
          cases eb
          simp only [R.nx_ok, R.bind_ok] at k2
          have g25 := (g3.trans g4).trans g5
          cases b with
          | false =>
            refine iteF ⟨rfl, hlt, ks, acc, accD, F5, μ5, S5, r5, g2.trans g25, pa.mono g25, hkl, Nat.le_succ_of_le hl, Fin.gr g25 ?_⟩
            simpa using k2
          | true =>
            simp only [if_true] at k2
            refine iteT ?_
            cases qe : tk z.1 S5 with
            | stuck => rw [qe] at k2; exact k2.elim
            | exn e S6 => rw [qe] at k2; exact k2.elim
            | ok kd S6 =>
              rw [qe] at k2
              simp only [R.nx_ok, R.bind_ok] at k2
              refine tD.run (en4.mono g5) r5 ?_
              rw [qe]
              intro F6 μ6 H6 vk g6 r6 pk
              cases qv : tv z.1 S6 with
              | stuck => rw [qv] at k2; exact k2.elim
              | exn e S7 => rw [qv] at k2; exact k2.elim
              | ok vd S7 =>
                rw [qv] at k2
                simp only [R.nx_ok, R.bind_ok] at k2
                refine tD.run ((en4.mono g5).mono g6) r6 ?_
                rw [qv]
                intro F7 μ7 H7 vv g7 r7 pv
                cases qk : keyOf kd with
                | none => rw [qk] at k2; exact k2.elim
                | some key =>
                  rw [qk] at k2
                  simp only at k2
                  split at k2
                  · exact k2.elim
                  · rename_i hnew
                    have hn : key ∉ ks := fun m => hnew (List.any_eq_true.mpr ⟨key, m, decide_eq_true rfl⟩)
                    have g27 := (g25.trans g6).trans g7
                    refine ⟨ks.zip acc, key, keyOf_rep qk pk, (r7.priv Dl _ upd_same).1, by rw [List.length_zip]; have := Nat.lt_of_le_of_lt hl hlt; omega, rfl, hlt, ks ++ [key], acc ++ [vv], accD ++ [vd], F7, μ7, S7, ?_, g2.trans g27, (pa.mono g27).append (reps_cons pv reps_nil), by simp [hkl], by rw [List.length_append, List.length_singleton]; omega, Fin.gr g27 k2⟩
                    have := r7.hidden (o' := .dK ((ks ++ [key]).zip (acc ++ [vv]))) (upd_same (H := P) (a := Dl) (o := .dK (ks.zip acc)))
                    rw [upd_upd] at this
                    rw [putK_new hkl hn]
                    exact this
  · have e : i = ds.length := by omega
    subst e
    rw [List.drop_length] at k2
    simp only [mDcA, R.bind_ok] at k2
    refine .inl ⟨w.stops _ F2 μ2 S2 H2 g2 r2, ?_⟩
    have g0 : Gr F2 μ2 F2 (μ2 ++ [Dl]) := ⟨fun _ _ h => h, fun n q h => by
      have : n < μ2.length := (List.getElem?_eq_some_iff.mp h).1
      rw [List.getElem?_append_left this]; exact h⟩
    obtain ⟨r4, g4, e4⟩ := r2.place (P' := P) (u := .dK (ks.zip acc)) (o := .dct ks accD) upd_same (fun a o e => by rw [upd_ne (ne_of_none e nP)]; exact e) nP ⟨acc, rfl, pa.mono g0, by rw [hkl, ← pa.length]⟩
    exact (Fin.gr g4 k2).here r4 (by simp only [Rep]; exact ⟨Dl, e4, rfl⟩)
section
variable {X : Cx} {W : WX} {kx vx tg iter : Expr} {ifs : List Expr} {scope : Scope} {own : List (Str × Nat)} {pos : Pos} {fi : IM} {gm : GM} {tt : BM} {tk tv : EM}
theorem d_dc (hc : X.calm = true) (hN : X.N.Nodup) (hi : DI X W tg iter fi) (ok : BlkOk X.N X.env.scope scope own)
    (hg : ∀ (s : Shared) (H : Hp) (C : Addr) (cl : List (Str × Addr)) (fp : List Addr), DGw (X.blk s H scope (compEnvC scope cl C X.env) fp) (own.map (·.2)) tg gm) (ht : ∀ (s : Shared) (H : Hp) (C : Addr) (cl : List (Str × Addr)) (fp : List Addr), DT (X.blk s H scope (compEnvC scope cl C X.env) fp) W0 ifs tt)
    (hk : ∀ (s : Shared) (H : Hp) (C : Addr) (cl : List (Str × Addr)) (fp : List Addr), DE (X.blk s H scope (compEnvC scope cl C X.env) fp) W0 kx tk)
    (he : ∀ (s : Shared) (H : Hp) (C : Addr) (cl : List (Str × Addr)) (fp : List Addr), DE (X.blk s H scope (compEnvC scope cl C X.env) fp) W0 vx tv) (hs : ∀ x, foldedSetIterable iter X.env x = pure x := by intro _; rfl) :
    DE X W (.DictComp kx vx [⟨tg, iter, ifs, 0⟩] scope pos) (mDc (own.map (·.2)) fi gm tt tk tv) := PE.weak (pe_dc hc hN hi ok hg ht hk he hs) dc_run
end
end DL

/-! The data layer, 14: walks over a list at a place (it must stand, turn for turn). -/
namespace DL
open PySem PySem.Spec PyProof.Rows L2

open Classical in
noncomputable def mLcLS (n : Nat) (l : List D) (gm : GM) (tt : BM) (te : EM) (ρ : Env) : List D → M (List D)
  | [], S => if S[n]? = some (.lst l) then .ok [] S else .stuck
  | d :: ds, S => if S[n]? = some (.lst l) then (match gm d ρ S with
    | none => .stuck
    | some x => (tt x.1 x.2).nx.bind fun b S => if b then (te x.1 S).nx.bind fun y S => (mLcLS n l gm tt te ρ ds S).bind fun ys S => .ok (y :: ys) S else mLcLS n l gm tt te ρ ds S) else .stuck
/-- the place of a list -/
def placeD (d : D) : M (Nat × List D) := fun S => match d with
  | .ref n => match S[n]? with
    | some (.lst l) => .ok (n, l) S
    | _ => .stuck
  | _ => .stuck
noncomputable def mLcS (fin : List D → M D) (vs : List Nat) (fe : EM) (gm : GM) (tt : BM) (te : EM) : EM := fun ρ S => (fe ρ S).bind fun d S => (placeD d S).bind fun z S => if z.2.length ≤ sizeLine then (mLcLS z.1 z.2 gm tt te (wipeD ρ vs) z.2 S).bind fin else .stuck
theorem placeD_eq {d : D} {S : Store} (h : placeD d S ≠ .stuck) : ∃ n l, d = .ref n ∧ S[n]? = some (.lst l) ∧ placeD d S = .ok (n, l) S := by
  unfold placeD at h ⊢
  cases d <;> first | exact absurd rfl h | skip
  rename_i n
  simp only at h ⊢
  cases q : S[n]? with
  | none => rw [q] at h; exact absurd rfl h
  | some o =>
    cases o with
    | lst l => exact ⟨n, l, rfl, q, rfl⟩
    | ins _ _ _ => rw [q] at h; exact absurd rfl h
    | dct _ _ => rw [q] at h; exact absurd rfl h
    | dead => rw [q] at h; exact absurd rfl h
theorem place_at {g : G} {P F F' : Hp} {μ μ' : List Addr} {S : Store} {H : Hp} {n : Nat} {l : List D} {a : Addr} (r : Rel g P F' μ' S H) (gr : Gr F μ F' μ') (hm : μ[n]? = some a) (e : S[n]? = some (.lst l)) : ∃ xs, SqL g.K H a xs ∧ Reps g F' μ' l xs := by
  rcases r.live n _ a e (gr.m _ _ hm) with ⟨z, _⟩ | ⟨u, _, hu, xs, hx, hr⟩
  · cases z
  · subst hx
    exact ⟨xs, .of hu, hr⟩
theorem lcS_run {g : G} {W : WX} {fin : List D → M D} (hfin : FinL g fin) {gm : GM} {tt : BM} {te fe : EM} {vs : List Nat} : ∀ σ H Q, tD g W (mLcS fin vs fe gm tt te) σ H Q → tLc (iList g.K (tD g W fe)) (tDGw g vs gm) (tDB g W0 tt) (tD g W0 te) vs σ H Q := fun σ H Q ⟨P, ρ, F, μ, S, en, rl, k⟩ => by
  refine tD.run en rl (Fin.imp (Fin.bind (rep := repD g) k) (fun v H1 ⟨d, F1, μ1, S1, g1, r1, p1, k1⟩ => ?_) fun _ _ _ z => z)
  by_cases hst : placeD d S1 = .stuck
  · rw [hst] at k1; exact k1.elim
  obtain ⟨n, l, rfl, hS, hp⟩ := placeD_eq hst
  rw [hp] at k1
  simp only [R.bind_ok] at k1
  obtain ⟨a, xs0, rfl, hm, hH, hr0⟩ := p1.refL r1 hS
  split at k1
  rotate_left
  · exact k1.elim
  rename_i hlen
  refine ⟨a, rfl, ⟨xs0, .of hH⟩, ?_⟩
  intro Dl hD
  have nP : P Dl = none := by
    cases e : P Dl with
    | none => rfl
    | some u => rw [(r1.priv Dl u e).1] at hD; cases hD
  refine ⟨fun i m H => m = l.length - i ∧ i ≤ l.length ∧ ∃ acc accD F μ S, Rel g (upd P Dl (.lst acc)) F μ S H ∧ Gr F1 μ1 F μ ∧ Reps g F μ accD acc ∧ acc.length ≤ i ∧
    Fin (repD g) g P F μ ((mLcLS n l gm tt te (wipeD ρ vs) (l.drop i) S).bind fun ys S => fin (accD ++ ys) S) Q (fun c d H' => W c d σ H'),
    ⟨_, rfl, Nat.zero_le _, [], [], F1, μ1, S1, r1.hide hD, Gr.refl _ _, reps_nil, Nat.zero_le _, by simpa using k1⟩, ?_⟩
  rintro i m H2 ⟨rfl, hi, acc, accD, F2, μ2, S2, r2, g2, pa, hl, k2⟩
  by_cases hlt : i < l.length
  · rw [List.drop_eq_getElem_cons hlt] at k2
    unfold mLcLS at k2
    by_cases hS2 : S2[n]? = some (.lst l)
    rotate_left
    · rw [if_neg hS2] at k2; exact k2.elim
    rw [if_pos hS2] at k2
    obtain ⟨xs, hsq, hr⟩ := place_at r2 g2 hm hS2
    obtain ⟨v, hv, hrep⟩ := hr.get (show l[i]? = some l[i] by simp [hlt])
    refine .inr ⟨⟨xs, v, hsq, hv⟩, _, fun H' p' => ⟨l.length - (i + 1), by omega, p'⟩, fun x H' y => ?_⟩
    obtain ⟨rfl, y⟩ := y
    have hx := y xs hsq
    rw [hv] at hx
    cases hx
    cases q : gm l[i] (wipeD ρ vs) S2 with
    | none => rw [q] at k2; exact k2.elim
    | some z =>
      rw [q] at k2
      simp only at k2
      have enw : EnvR g F2 μ2 (wipeD ρ vs) (L2.wipe σ vs) := (en.mono (g1.trans g2)).wipe vs
      refine ⟨l[i], _, wipeD ρ vs, F2, μ2, S2, z.1, z.2, enw, r2, hrep, q, fun F4 μ4 H4 σ4 g4 r4 en4 w4 => ⟨?_, ?_⟩⟩
      · rw [w4]
        have key : ∀ (σ : L2.St) (ws us : List Nat), (∀ u ∈ us, u ∈ ws) → L2.wipe (L2.wipe σ us) ws = L2.wipe σ ws := by
          intro σ ws us
          induction us with
          | nil => intro _; rfl
          | cons u us ih =>
            intro h
            show L2.wipe ((L2.wipe σ us).set u none) ws = _
            rw [wipe_set (h u List.mem_cons_self)]
            exact ih fun v hv => h v (List.mem_cons_of_mem _ hv)
        exact key σ vs vs fun _ h => h
      · cases qt : tt z.1 z.2 with
        | stuck => rw [qt] at k2; exact k2.elim
        | exn e S5 => rw [qt] at k2; exact k2.elim
        | ok b S5 =>
          rw [qt] at k2
          refine tDB.run en4 r4 ?_
          rw [qt]
          intro F5 μ5 H5 b' g5 r5 eb
          cases eb
          simp only [R.nx_ok, R.bind_ok] at k2
          have g25 := g4.trans g5
          cases b with
          | false =>
            refine iteF ⟨rfl, hlt, acc, accD, F5, μ5, S5, r5, g2.trans g25, pa.mono g25, Nat.le_succ_of_le hl, Fin.gr g25 ?_⟩
            simpa using k2
          | true =>
            simp only [if_true] at k2
            refine iteT ?_
            cases qe : te z.1 S5 with
            | stuck => rw [qe] at k2; exact k2.elim
            | exn e S6 => rw [qe] at k2; exact k2.elim
            | ok yv S6 =>
              rw [qe] at k2
              simp only [R.nx_ok, R.bind_ok] at k2
              refine tD.run (en4.mono g5) r5 ?_
              rw [qe]
              intro F6 μ6 H6 vy g6 r6 py
              have g26 := g25.trans g6
              refine ⟨acc, (r6.priv Dl _ upd_same).1, by have := Nat.lt_of_le_of_lt hl hlt; omega, rfl, hlt, acc ++ [vy], accD ++ [yv], F6, μ6, S6, ?_, g2.trans g26, (pa.mono g26).append (reps_cons py reps_nil), by rw [List.length_append, List.length_singleton]; omega, Fin.gr g26 ?_⟩
              · have := r6.hidden (o' := .lst (acc ++ [vy])) (upd_same (H := P) (a := Dl) (o := .lst acc))
                rw [upd_upd] at this
                exact this
              · have e : ((mLcLS n l gm tt te (wipeD ρ vs) (l.drop (i + 1)) S6).bind fun ys S => (R.ok (yv :: ys) S)).bind (fun ys S => fin (accD ++ ys) S) = (mLcLS n l gm tt te (wipeD ρ vs) (l.drop (i + 1)) S6).bind fun ys S => fin ((accD ++ [yv]) ++ ys) S := by
                  cases mLcLS n l gm tt te (wipeD ρ vs) (l.drop (i + 1)) S6 <;> simp
                rw [← e]
                exact k2
  · have e : i = l.length := by omega
    subst e
    rw [List.drop_length] at k2
    unfold mLcLS at k2
    by_cases hS2 : S2[n]? = some (.lst l)
    rotate_left
    · rw [if_neg hS2] at k2; exact k2.elim
    rw [if_pos hS2] at k2
    simp only [R.bind_ok, List.append_nil] at k2
    obtain ⟨xs, hsq, hr⟩ := place_at r2 g2 hm hS2
    exact .inl ⟨⟨xs, hsq, Nat.le_of_eq hr.length.symm⟩, hfin P F2 μ2 S2 H2 Dl acc accD Q _ r2 nP pa k2⟩
section
variable {X : Cx} {W : WX} {elt tg iter : Expr} {ifs : List Expr} {scope : Scope} {own : List (Str × Nat)} {pos : Pos} {fe : EM} {gm : GM} {tt : BM} {te : EM}
theorem d_lcS {fin : List D → M D} (hfin : FinL (gX X) fin) (hc : X.calm = true) (hN : X.N.Nodup) (hi : DE X W iter fe) (ok : BlkOk X.N X.env.scope scope own)
    (hg : ∀ (s : Shared) (H : Hp) (C : Addr) (cl : List (Str × Addr)) (fp : List Addr), DGw (X.blk s H scope (compEnvC scope cl C X.env) fp) (own.map (·.2)) tg gm) (ht : ∀ (s : Shared) (H : Hp) (C : Addr) (cl : List (Str × Addr)) (fp : List Addr), DT (X.blk s H scope (compEnvC scope cl C X.env) fp) W0 ifs tt)
    (he : ∀ (s : Shared) (H : Hp) (C : Addr) (cl : List (Str × Addr)) (fp : List Addr), DE (X.blk s H scope (compEnvC scope cl C X.env) fp) W0 elt te) (hs : ∀ x, foldedSetIterable iter X.env x = pure x := by intro _; rfl) :
    DE X W (.ListComp elt [⟨tg, iter, ifs, 0⟩] scope pos) (mLcS fin (own.map (·.2)) fe gm tt te) := PE.weak (pe_lc hc hN (pi_list hi) ok hg ht he hs) (lcS_run hfin)
end
theorem Reps.rep {g : G} {F : Hp} {μ : List Addr} {ds : List D} {xs : List V} (h : Reps g F μ ds xs) : ∀ k : Nat, Reps g F μ (List.replicate k ds).flatten (List.replicate k xs).flatten
  | 0 => reps_nil
  | k + 1 => by
    rw [List.replicate_succ, List.replicate_succ, List.flatten_cons, List.flatten_cons]
    exact h.append (Reps.rep h k)
/-- [a, ..] * k, k written -/
def mRep (k : Int) (fa : AM) : EM := fun ρ S => (fa ρ S).bind fun l S => if l.length ≤ sizeLine ∧ -(2 ^ 63) ≤ k ∧ k < 2 ^ 63 ∧ l.length * k.toNat ≤ sizeLine then .ok (.lst (List.replicate k.toNat l).flatten) S else .stuck
theorem d_rep {X : Cx} {W : WX} {es : List Expr} {fa : AM} {k : Int} {j} {p1 p2 pos : Pos} (h : DA X W es fa) : DE X W (.BinOp (.List es p1) .Mult (.Constant (.int k) j p2) pos) (mRep k fa) := by
  refine PE.weak (pe_op op_rep (pe_lst h) pe_int) fun σ H Q ⟨P, ρ, F, μ, S, en, rl, q⟩ => ?_
  refine tDA.run en rl (Fin.imp (Fin.bind (rep := repA (gX X)) q) (fun vs H1 ⟨a, F1, μ1, S1, g1, r1, p1, k1⟩ => ?_) fun _ _ _ z => z)
  split at k1
  · rename_i hc
    have hl := p1.length
    refine ⟨by rw [← hl]; exact hc.1, fun p hp => ⟨p, k, vs, rfl, rfl, upd_same, hc.2.1, hc.2.2.1, by rw [← hl]; exact hc.2.2.2, fun p' hp' => ?_⟩⟩
    exact k1.newL (r1.more (o := .lst vs) hp) (p1.rep k.toNat) hp'
  · exact k1.elim
end DL

/-! The data layer, 15: sorted of tuples of ints; comprehensions with two clauses. -/
namespace DL
open PySem PySem.Spec PyProof.Rows L2

/-! ### sorted -/
def intOf : D → Option Int
  | .int i => some i
  | _ => none
def intsOfD : List D → Option (List Int)
  | [] => some []
  | d :: ds => match intOf d, intsOfD ds with
    | some i, some is => some (i :: is)
    | _, _ => none
def faceOf : D → Option (List Int)
  | .tup l => intsOfD l
  | _ => none
def facesOf : List D → Option (List (List Int))
  | [] => some []
  | d :: ds => match faceOf d, facesOf ds with
    | some f, some fs => some (f :: fs)
    | _, _ => none
def faceD (f : List Int) : D := .tup (f.map .int)
def sameLen : List (List Int) → Bool
  | [] => true
  | f :: fs => decide (1 ≤ f.length) && fs.all fun g => g.length == f.length
def leF (a b : List Int) : Bool := !HT.lexLt b a
def sortF (l : List (List Int)) : List (List Int) := l.mergeSort leF
def sortedD (x : D) : M D := fun S => match lstOf x S with
  | some l => match facesOf l with
    | some fs => if sameLen fs then .ok (.lst ((sortF fs).map faceD)) S else .stuck
    | none => .stuck
  | none => .stuck
theorem intsOfD_eq : ∀ {ds : List D} {is : List Int}, intsOfD ds = some is → ds = is.map D.int
  | [], _, e => by cases e; rfl
  | d :: ds, is, e => by
    unfold intsOfD at e
    split at e
    · rename_i i is' q1 q2
      cases e
      cases d <;> first | (cases q1; done) | skip
      cases q1
      rw [intsOfD_eq q2]; rfl
    · cases e
theorem facesOf_eq : ∀ {ds : List D} {fs : List (List Int)}, facesOf ds = some fs → ds = fs.map faceD
  | [], _, e => by cases e; rfl
  | d :: ds, fs, e => by
    unfold facesOf at e
    split at e
    · rename_i f fs' q1 q2
      cases e
      cases d <;> first | (cases q1; done) | skip
      rw [facesOf_eq q2, List.map_cons, faceD, intsOfD_eq q1]
    · cases e
theorem intsOfD_map : ∀ is : List Int, intsOfD (is.map D.int) = some is
  | [] => rfl
  | i :: is => by simp [intsOfD, intOf, intsOfD_map is]
theorem facesOf_map : ∀ fs : List (List Int), facesOf (fs.map faceD) = some fs
  | [] => rfl
  | f :: fs => by
    rw [List.map_cons, facesOf, facesOf_map fs, faceD, faceOf, intsOfD_map f]
theorem sameLen_all {fs : List (List Int)} (h : sameLen fs = true) : ∃ d, fs = [] ∨ (1 ≤ d ∧ ∀ f ∈ fs, f.length = d) := by
  cases fs with
  | nil => exact ⟨0, .inl rfl⟩
  | cons f fs =>
    simp only [sameLen, Bool.and_eq_true, decide_eq_true_eq, List.all_eq_true, beq_iff_eq] at h
    exact ⟨f.length, .inr ⟨h.1, fun g hg => by
      rcases List.mem_cons.mp hg with rfl | hg
      · rfl
      · exact h.2 g hg⟩⟩
/-- lists of ints, neither before the other -/
theorem lex_anti : ∀ (x y : List Int), HT.lexLt x y = false → HT.lexLt y x = false → x = y
  | [], [], _, _ => rfl
  | [], y :: ys, h, _ => by rw [HT.lexLt_nil_cons] at h; cases h
  | x :: xs, [], _, h => by rw [HT.lexLt_nil_cons] at h; cases h
  | x :: xs, y :: ys, h1, h2 => by
    rw [HT.lexLt_cons] at h1 h2
    by_cases e : x = y
    · rw [if_pos e] at h1
      rw [if_pos e.symm] at h2
      rw [e, lex_anti xs ys h1 h2]
    · rw [if_neg e] at h1
      rw [if_neg (Ne.symm e)] at h2
      have := of_decide_eq_false h1
      have := of_decide_eq_false h2
      omega
theorem leF_tot (a b : List Int) : (leF a b || leF b a) = true := by
  unfold leF
  cases h : HT.lexLt b a with
  | false => rfl
  | true => rw [NtL.lex_asym _ _ h]; rfl
theorem leF_tr (a b c : List Int) (h1 : leF a b = true) (h2 : leF b c = true) : leF a c = true := by
  unfold leF at *
  simp only [Bool.not_eq_true'] at *
  exact NtL.lex_tr _ _ _ h1 h2
theorem sortF_perm (l : List (List Int)) : (sortF l).Perm l := List.mergeSort_perm l leF
theorem sortF_sorted (l : List (List Int)) : (sortF l).Pairwise fun a b => HT.lexLt b a = false := by
  refine (List.pairwise_mergeSort leF_tr leF_tot l).imp fun {a b} h => ?_
  simpa [leF] using h
/-- two sorted rearrangements are one -/
theorem sorted_uniq : ∀ {l m : List (List Int)}, l.Perm m → (l.Pairwise fun a b => HT.lexLt b a = false) → (m.Pairwise fun a b => HT.lexLt b a = false) → l = m
  | [], m, p, _, _ => (List.Perm.eq_nil p.symm).symm
  | x :: l, [], p, _, _ => absurd p.length_eq (by simp)
  | x :: l, y :: m, p, h1, h2 => by
    have a1 : HT.lexLt x y = false := by
      rcases List.mem_cons.mp (p.mem_iff.mp (List.mem_cons_self (a := x) (l := l))) with e | e
      · rw [e]; exact (NtL.swo_lexL (fun z : List Int => z)).refl y
      · exact (List.pairwise_cons.mp h2).1 x e
    have a2 : HT.lexLt y x = false := by
      rcases List.mem_cons.mp (p.mem_iff.mpr (List.mem_cons_self (a := y) (l := m))) with e | e
      · rw [e]; exact (NtL.swo_lexL (fun z : List Int => z)).refl x
      · exact (List.pairwise_cons.mp h1).1 y e
    have e := lex_anti x y a1 a2
    subst e
    rw [sorted_uniq p.cons_inv (List.pairwise_cons.mp h1).2 (List.pairwise_cons.mp h2).2]
theorem sortF_eq {l m : List (List Int)} (p : m.Perm l) (h : m.Pairwise fun a b => HT.lexLt b a = false) : sortF l = m :=
  sorted_uniq ((sortF_perm l).trans p.symm) (sortF_sorted l) h

section
variable {prog : Program} {w : World} {A : Around} {E : Value → Shared → Prop} {s : Shared} {Q : Bool → Shared → Prop}
theorem face_lex {b : Bool} {xs ys : List Value} {ns ms : List Int} (hx : IntsAre xs ns) (hy : IntsAre ys ms) : ∀ (i : Nat), ns.length = ms.length → Q (HT.lexLt ns ms) s → PySem.W.KatLex prog w A b false Q (xs.zip ys) i s := by
  induction hx generalizing ys ms with
  | nil =>
    intro i hl h
    cases hy with
    | nil => exact PySem.W.kat_nil h
    | cons q u hy => simp at hl
  | @cons p t xs ns hx ih =>
    intro i hl h
    cases hy with
    | nil => simp at hl
    | @cons q u ys ms hy =>
      rw [List.zip_cons_cons]
      rw [HT.lexLt_cons] at h
      refine PySem.W.kat_cons (wpAny_eqBool_int ?_)
      by_cases e : p = q
      · rw [if_pos e] at h
        rw [e, beq_self_eq_true]
        exact PySem.W.kat_yes (ih hy (i + 1) (by simpa using hl) h)
      · rw [if_neg e] at h
        rw [beq_eq_false_iff_ne.mpr e]
        exact PySem.W.kat_no (TS.oneLt_ints _ h)
/-- what is sorted: tuples of d ints each -/
def FacesAt (h : Heap) (d : Nat) (k : Value → List Int) (vs : List Value) : Prop := ∀ v ∈ vs, TS.TupInts h v (k v) ∧ (k v).length = d
theorem faces_first {h : Heap} {d : Nat} {k : Value → List Int} (hd : 1 ≤ d) : ∀ vs : List Value, FacesAt h d k vs → ∃ fs, PySem.W.KatTups h vs fs ∧ fs.length = vs.length ∧ ∀ f ∈ fs, ∃ n t, f = Value.int n t
  | [], _ => ⟨[], .nil, rfl, by simp⟩
  | v :: vs, x => by
    obtain ⟨fs, kk, hl, hi⟩ := faces_first hd vs fun u hu => x u (List.mem_cons_of_mem _ hu)
    obtain ⟨⟨a, xs, hv, ⟨o, ho, hc, n, hdt⟩, i⟩, hn⟩ := x v List.mem_cons_self
    subst hv
    have hne : xs.toList ≠ [] := fun e => by
      rw [e] at i
      have := i.length
      rw [hn] at this
      simp at this
      omega
    obtain ⟨y, ys, e⟩ := List.exists_cons_of_ne_nil hne
    obtain ⟨m, t, hy⟩ := i.all y (by rw [e]; exact List.mem_cons_self)
    refine ⟨y :: fs, PySem.W.KatTups.cons ho hc hdt ?_ kk, by simp [hl], fun f hf => ?_⟩
    · have z : xs.toList[0]? = some y := by rw [e]; rfl
      simpa using z
    · rcases List.mem_cons.mp hf with rfl | hf
      · exact ⟨m, t, hy⟩
      · exact hi f hf
theorem faces_sortable {a : Addr} {vs : List Value} {d : Nat} {k : Value → List Int} (hd : 1 ≤ d) (h0 : 0 < vs.length) (hp : FacesAt s.heap d k vs) (ha : ∀ o, s.heap.get? a = some o → o.cls ≠ .type "tuple") : SrtO.SortableO prog w A s a vs fun v u => HT.lexLt (k v) (k u) := by
  intro h' keep
  have hp' : FacesAt h' d k vs := fun v hm => ⟨(hp v hm).1.keeps fun b o e c => keep b o (fun z => by subst z; exact ha o e c) e, (hp v hm).2⟩
  obtain ⟨fs, k1, k2, k3⟩ := faces_first hd vs hp'
  refine ⟨tuples' true, fun Q E hq => ?_, ?_⟩
  rotate_left
  · intro p q hm hm'
    obtain ⟨⟨a1, xs, e1, ⟨o1, ho1, hc1, n1, hd1⟩, i1⟩, l1⟩ := hp' _ hm
    obtain ⟨⟨a2, ys, e2, ⟨o2, ho2, hc2, n2, hd2⟩, i2⟩, l2⟩ := hp' _ hm'
    show wpAny (model prog w) A (keyLt' (tuples' true) p.1 q.1) (fun r s' => s' = { s with heap := h' } ∧ r = HT.lexLt (k p.1) (k q.1)) (fun _ _ => False) { s with heap := h' }
    rw [e1] at i1 l1 ⊢
    rw [e2] at i2 l2 ⊢
    refine PySem.W.kat_lt ho1 hd1 ho2 hd2 ?_
    have q1 := i1.length
    have q2 := i2.length
    rw [Array.length_toList] at q1 q2
    rw [show decide (xs.size < ys.size) = false from decide_eq_false (by omega)]
    exact face_lex i1 i2 0 (by omega) ⟨rfl, rfl⟩
  · refine PySem.W.kat_kind (T := .type "int") k1 (by omega) (fun f hf => ?_) (by rfl) ?_
    · obtain ⟨x, t, rfl⟩ := k3 f hf
      exact PySem.W.Looks.now
    · have e : (Value.type "int" != Value.type "tuple") = true := by decide +kernel
      rw [e]
      exact hq
end
/-- what stands for faces: references to tuples of these ints -/
theorem faces_reps {g : G} {F : Hp} {μ : List Addr} : ∀ {fs : List (List Int)} {xs : List V}, Reps g F μ (fs.map faceD) xs → (∀ x ∈ xs, ∃ a, x = V.ref a) ∧ fs.length = xs.length
  | [], xs, h => by
    simp only [List.map_nil, Reps] at h
    subst h
    exact ⟨by simp, rfl⟩
  | f :: fs, xs, h => by
    simp only [List.map_cons, Reps, faceD, Rep] at h
    obtain ⟨v, vs, rfl, ⟨a, _, rfl, _⟩, h2⟩ := h
    obtain ⟨q1, q2⟩ := faces_reps h2
    refine ⟨fun x hx => ?_, by simp [q2]⟩
    rcases List.mem_cons.mp hx with rfl | hx
    · exact ⟨a, rfl⟩
    · exact q1 x hx
theorem sorted_back {h : Heap} {g : G} {F : Hp} {μ : List Addr} : ∀ {fs : List (List Int)} {us : List Value}, Reps g F μ (fs.map faceD) (us.map backV) → (∀ f ∈ fs, ∀ u ∈ us, Rep g F μ (faceD f) (backV u) → TS.TupInts h u f) → (∀ u ∈ us, ∃ f ∈ fs, Rep g F μ (faceD f) (backV u) ∧ TS.intsOf h u = f) ∧ us.map (TS.intsOf h) = fs
  | [], us, r, _ => by
    simp only [List.map_nil, Reps, List.map_eq_nil_iff] at r
    subst r
    exact ⟨by simp, rfl⟩
  | f :: fs, [], r, _ => by
    simp only [List.map_cons, List.map_nil, Reps] at r
    obtain ⟨v, vs, e, _⟩ := r
    cases e
  | f :: fs, u :: us, r, k => by
    simp only [List.map_cons, Reps] at r
    obtain ⟨v, vs, e, r1, r2⟩ := r
    cases e
    obtain ⟨q1, q2⟩ := sorted_back r2 fun f' hf u' hu => k f' (List.mem_cons_of_mem _ hf) u' (List.mem_cons_of_mem _ hu)
    have t := (k f List.mem_cons_self u List.mem_cons_self r1).ints
    refine ⟨fun u' hu => ?_, by rw [List.map_cons, t, q2]⟩
    rcases List.mem_cons.mp hu with rfl | hu
    · exact ⟨f, List.mem_cons_self, r1, t⟩
    · obtain ⟨f', hf', w⟩ := q1 u' hu
      exact ⟨f', List.mem_cons_of_mem _ hf', w⟩
theorem reps_int_eq {g : G} {F : Hp} {μ : List Addr} : ∀ (f : List Int) {ys : List V}, Reps g F μ (f.map .int) ys → ys = f.map V.int
  | [], ys, h => by simpa only [List.map_nil, Reps] using h
  | i :: f, ys, h => by
    simp only [List.map_cons, Reps, Rep] at h
    obtain ⟨v, vs, rfl, rfl, h2⟩ := h
    rw [reps_int_eq f h2, List.map_cons]
theorem reps_sorted {h : Heap} {g : G} {F : Hp} {μ : List Addr} : ∀ {out : List Value}, (∀ u ∈ out, Rep g F μ (faceD (TS.intsOf h u)) (backV u)) → Reps g F μ ((out.map (TS.intsOf h)).map faceD) (out.map backV)
  | [], _ => reps_nil
  | u :: out, k => reps_cons (k u List.mem_cons_self) (reps_sorted fun w hw => k w (List.mem_cons_of_mem _ hw))
section
variable {X : Cx}
theorem cd_sorted : CallD X (.builtin "sorted") (one sortedD) := by
  intro pins s σ H vs us Q I r h
  obtain ⟨ds, P, F, μ, S, E, rl, rx, k⟩ := h
  obtain ⟨d, v, rfl, p, k⟩ := one_fin k rx
  unfold sortedD at k
  split at k
  rotate_left
  · exact k.elim
  rename_i l hl
  split at k
  rotate_left
  · exact k.elim
  rename_i fs hfs
  split at k
  rotate_left
  · exact k.elim
  rename_i hsame
  obtain ⟨a, xs, rfl, hs, hr⟩ := lstOf_rep rl hl p
  rw [facesOf_eq hfs] at hr
  obtain ⟨its, rv, hL, hz⟩ := I.list hs
  obtain ⟨u, rfl, ru⟩ := vals1 r
  obtain rfl : u = Value.ref a := ru
  obtain ⟨f1, f2⟩ := faces_reps hr
  obtain ⟨e1, e2⟩ := refs_back rv f1
  rw [e1] at hr
  have tup : ∀ f ∈ fs, ∀ u ∈ its, Rep (gX X) F μ (faceD f) (backV u) → TS.TupInts s.heap u f := fun f _ u hu rp => by
    obtain ⟨b, rfl⟩ := e2 u hu
    simp only [faceD, Rep, backV] at rp
    obtain ⟨b', ys, eb, ⟨hq, _⟩, hr'⟩ := rp
    cases eb
    obtain ⟨us', rv', ht, _⟩ := I.tuple (show SqT X.K H b ys from sqT_mono (g := gX X) rl.gr0 hq)
    have ey : ys = f.map V.int := reps_int_eq f hr'
    rw [ey] at rv'
    exact ⟨b, us'.toArray, rfl, ht, intsAre_of rv'⟩
  obtain ⟨b1, b2⟩ := sorted_back hr tup
  obtain ⟨dd, hd⟩ := sameLen_all hsame
  have O : SrtO.Swo fun v u : Value => HT.lexLt (TS.intsOf s.heap v) (TS.intsOf s.heap u) := NtL.swo_lexL _
  refine SrtO.sorted_ord (ltv := fun v u => HT.lexLt (TS.intsOf s.heap v) (TS.intsOf s.heap u)) O hL.isList (by rw [← rv.length]; exact hz) (fun h2 h₁ a₁ ha kk => ?_) fun out hs' hb => ?_
  · rcases hd with hd | ⟨hd1, hd2⟩
    · subst hd
      rw [List.map_eq_nil_iff] at b2
      rw [b2] at h2
      simp at h2
    · refine faces_sortable (s := { s with heap := h₁ }) (d := dd) hd1 (by omega) (fun v hm => ?_) fun o e => ?_
      · obtain ⟨f, hf, hrep, hi⟩ := b1 v hm
        rw [hi]
        exact ⟨(tup f hf v hm hrep).keeps fun b o e _ => (kk b o e).2, hd2 f hf⟩
      · have e' : some o = some (seqObj "list" its.toArray 0) := e.symm.trans ha
        cases e'
        intro c
        exact absurd (Value.type.inj c) (by decide)
  · have h3 : ∀ u ∈ out, ∃ a, u = Value.ref a := fun u hu => e2 u (hb.perm.mem_iff.mp hu)
    obtain ⟨n, hn⟩ := sortedAll_at s.heap its out.toArray
    have hso : sortF fs = out.map (TS.intsOf s.heap) := by
      refine sortF_eq ?_ ?_
      · rw [← b2]
        exact hb.perm.map _
      · rw [List.pairwise_map]
        exact hs'
    have hrep : Reps (gX X) F μ ((sortF fs).map faceD) (out.map backV) := by
      rw [hso]
      refine reps_sorted fun u hu => ?_
      obtain ⟨f, _, q1, q2⟩ := b1 u (hb.perm.mem_iff.mp hu)
      rw [q2]; exact q1
    refine ⟨.ref (s.heap.objs.size + 1), upd H (s.heap.objs.size + 1) (.lst (out.map backV)), I.laid (t' := s.toks) (fun b o e => sortedAll_old e) (Nat.le_succ _) ⟨?_, out, n, vals_back h3, hn⟩, rfl, k.newL rl hrep (I.hok.fresh (Nat.le_succ _))⟩
    rw [List.length_map, hb.perm.length_eq, ← rv.length]
    exact hz
end

/-! ### comprehensions with two clauses -/
def mLc2L (vs1 : List Nat) (gm : GM) (tt : BM) (fi1 : IM) (gm1 : GM) (tt1 : BM) (te : EM) (ρ : Env) : List D → M (List D)
  | [], S => .ok [] S
  | d :: ds, S => match gm d ρ S with
    | none => .stuck
    | some x => (tt x.1 x.2).nx.bind fun b S => if b then (fi1 x.1 S).nx.bind fun es S => if es.length ≤ 1000 then (mLcL gm1 tt1 te (wipeD x.1 vs1) es S).bind fun ys S => (mLc2L vs1 gm tt fi1 gm1 tt1 te ρ ds S).bind fun zs S => .ok (ys ++ zs) S else .stuck else mLc2L vs1 gm tt fi1 gm1 tt1 te ρ ds S
def mLc2F (fin : List D → M D) (vs vs1 : List Nat) (fi : IM) (gm : GM) (tt : BM) (fi1 : IM) (gm1 : GM) (tt1 : BM) (te : EM) : EM := fun ρ S => (fi ρ S).bind fun ds S => if ds.length ≤ 10000 then (mLc2L vs1 gm tt fi1 gm1 tt1 te (wipeD ρ vs) ds S).bind fin else .stuck
theorem wipe_wipe : ∀ (σ : L2.St) (ws us : List Nat), (∀ u ∈ us, u ∈ ws) → L2.wipe (L2.wipe σ us) ws = L2.wipe σ ws := by
  intro σ ws us
  induction us with
  | nil => intro _; rfl
  | cons u us ih =>
    intro h
    show L2.wipe ((L2.wipe σ us).set u none) ws = _
    rw [wipe_set (h u List.mem_cons_self)]
    exact ih fun v hv => h v (List.mem_cons_of_mem _ hv)
theorem lc2_run {g : G} {W : WX} {fin : List D → M D} (hfin : FinL g fin) {gm gm1 : GM} {tt tt1 : BM} {te : EM} {fi fi1 : IM} {vs vs1 : List Nat} : ∀ σ H Q, tD g W (mLc2F fin vs vs1 fi gm tt fi1 gm1 tt1 te) σ H Q → tLc2 (tDI g W fi) (tDGw g vs gm) (tDB g W0 tt) (tDI g W0 fi1) (tDGw g vs1 gm1) (tDB g W0 tt1) (tD g W0 te) vs vs1 σ H Q := fun σ H Q ⟨P, ρ, F, μ, S, en, rl, k⟩ => by
  refine ⟨P, ρ, F, μ, S, en, rl, Fin.imp (Fin.bind (rep := repI g) k) (fun J H1 ⟨ds, F1, μ1, S1, g1, r1, w, k1⟩ => ?_) fun _ _ _ z => z⟩
  split at k1
  rotate_left
  · exact k1.elim
  rename_i hlen
  intro Dl hD
  have nP : P Dl = none := by
    cases e : P Dl with
    | none => rfl
    | some u => rw [(r1.priv Dl u e).1] at hD; cases hD
  let Wo : Nat → Nat → Hp → Prop := fun i m H => m = ds.length - i ∧ i ≤ ds.length ∧ ∃ acc accD F μ S, Rel g (upd P Dl (.lst acc)) F μ S H ∧ Gr F1 μ1 F μ ∧ Reps g F μ accD acc ∧ acc.length ≤ 1000 * i ∧
    Fin (repD g) g P F μ ((mLc2L vs1 gm tt fi1 gm1 tt1 te (wipeD ρ vs) (ds.drop i) S).bind fun l S => fin (accD ++ l) S) Q (fun c d H' => W c d σ H')
  refine ⟨Wo, ⟨_, rfl, Nat.zero_le _, [], [], F1, μ1, S1, r1.hide hD, Gr.refl _ _, reps_nil, Nat.zero_le _, k1⟩, ?_⟩
  rintro i m H2 ⟨rfl, hi, acc, accD, F2, μ2, S2, r2, g2, pa, hl, k2⟩
  by_cases hlt : i < ds.length
  · refine .inr ⟨w.goes _ F2 μ2 S2 H2 i g2 r2 hlt, fun H' => Wo (i + 1) (ds.length - (i + 1)) H', fun H' p' => ⟨ds.length - (i + 1), by omega, p'⟩, fun x H' y => ?_⟩
    obtain ⟨F3, g3, r3, rp⟩ := w.yields _ F2 μ2 S2 H2 i ds[i] x H' g2 r2 (by simp [hlt]) y
    rw [List.drop_eq_getElem_cons hlt] at k2
    unfold mLc2L at k2
    cases q : gm ds[i] (wipeD ρ vs) S2 with
    | none => rw [q] at k2; exact k2.elim
    | some z =>
      rw [q] at k2
      simp only at k2
      have enw : EnvR g F3 μ2 (wipeD ρ vs) (L2.wipe σ vs) := ((en.mono (g1.trans g2)).mono g3).wipe vs
      refine ⟨ds[i], _, wipeD ρ vs, F3, μ2, S2, z.1, z.2, enw, r3, rp, q, fun F4 μ4 H4 σ4 g4 r4 en4 w4 => ⟨?_, ?_⟩⟩
      · rw [w4]
        exact wipe_wipe σ vs vs fun _ h => h
      · cases qt : tt z.1 z.2 with
        | stuck => rw [qt] at k2; exact k2.elim
        | exn e S5 => rw [qt] at k2; exact k2.elim
        | ok b S5 =>
          rw [qt] at k2
          refine tDB.run en4 r4 ?_
          rw [qt]
          intro F5 μ5 H5 b' g5 r5 eb
          cases eb
          simp only [R.nx_ok, R.bind_ok] at k2
          have g25 := (g3.trans g4).trans g5
          cases b with
          | false =>
            refine iteF ⟨rfl, hlt, acc, accD, F5, μ5, S5, r5, g2.trans g25, pa.mono g25, by omega, Fin.gr g25 ?_⟩
            simpa using k2
          | true =>
            simp only [if_true] at k2
            refine iteT ?_
            cases qi : fi1 z.1 S5 with
            | stuck => rw [qi] at k2; exact k2.elim
            | exn e S6 => rw [qi] at k2; exact k2.elim
            | ok es S6 =>
              rw [qi] at k2
              simp only [R.nx_ok, R.bind_ok] at k2
              by_cases hes : es.length ≤ 1000
              rotate_left
              · rw [if_neg hes] at k2; exact k2.elim
              rw [if_pos hes] at k2
              refine ⟨upd P Dl (.lst acc), z.1, F5, μ5, S5, en4.mono g5, r5, ?_⟩
              rw [qi]
              intro F6 μ6 H6 J1 g6 r6 w1
              refine ⟨fun j k H => k = es.length - j ∧ j ≤ es.length ∧ ∃ acc accD F μ S, Rel g (upd P Dl (.lst acc)) F μ S H ∧ Gr F6 μ6 F μ ∧ Reps g F μ accD acc ∧ acc.length ≤ 1000 * i + j ∧
                Fin (repD g) g P F μ (((mLcL gm1 tt1 te (wipeD z.1 vs1) (es.drop j) S).bind fun ys S => (mLc2L vs1 gm tt fi1 gm1 tt1 te (wipeD ρ vs) (ds.drop (i + 1)) S).bind fun zs S => .ok (ys ++ zs) S).bind fun l S => fin (accD ++ l) S) Q (fun c d H' => W c d σ H'),
                ⟨_, rfl, Nat.zero_le _, acc, accD, F6, μ6, S6, r6, Gr.refl _ _, (pa.mono g25).mono g6, by omega, Fin.gr (g25.trans g6) k2⟩, ?_⟩
              rintro j kk H7 ⟨rfl, hj, acc7, accD7, F7, μ7, S7, r7, g7, pa7, hl7, k7⟩
              have g27 := (g25.trans g6).trans g7
              by_cases hjl : j < es.length
              · refine .inr ⟨w1.goes _ F7 μ7 S7 H7 j g7 r7 hjl, _, fun H' p' => ⟨es.length - (j + 1), by omega, p'⟩, fun x1 H8 y1 => ?_⟩
                obtain ⟨F8, g8, r8, rp8⟩ := w1.yields _ F7 μ7 S7 H7 j es[j] x1 H8 g7 r7 (by simp [hjl]) y1
                rw [List.drop_eq_getElem_cons hjl] at k7
                unfold mLcL at k7
                cases q1 : gm1 es[j] (wipeD z.1 vs1) S7 with
                | none => rw [q1] at k7; exact k7.elim
                | some z1 =>
                  rw [q1] at k7
                  simp only at k7
                  have enw1 : EnvR g F8 μ7 (wipeD z.1 vs1) (L2.wipe σ4 vs1) := (en4.mono (((g5.trans g6).trans g7).trans g8)).wipe vs1
                  refine ⟨es[j], _, wipeD z.1 vs1, F8, μ7, S7, z1.1, z1.2, enw1, r8, rp8, q1, fun F9 μ9 H9 σ9 g9 r9 en9 w9 => ⟨?_, ?_⟩⟩
                  · rw [w9]
                    exact wipe_wipe σ4 vs1 vs1 fun _ h => h
                  · cases qt1 : tt1 z1.1 z1.2 with
                    | stuck => rw [qt1] at k7; exact k7.elim
                    | exn e S5 => rw [qt1] at k7; exact k7.elim
                    | ok b1 S10 =>
                      rw [qt1] at k7
                      refine tDB.run en9 r9 ?_
                      rw [qt1]
                      intro F10 μ10 H10 b' g10 r10 eb
                      cases eb
                      simp only [R.nx_ok, R.bind_ok] at k7
                      have g710 := (g8.trans g9).trans g10
                      cases b1 with
                      | false =>
                        refine iteF ⟨rfl, hjl, acc7, accD7, F10, μ10, S10, r10, g7.trans g710, pa7.mono g710, by omega, Fin.gr g710 ?_⟩
                        simpa using k7
                      | true =>
                        simp only [if_true] at k7
                        refine iteT ?_
                        cases qe : te z1.1 S10 with
                        | stuck => rw [qe] at k7; exact k7.elim
                        | exn e S6 => rw [qe] at k7; exact k7.elim
                        | ok yv S11 =>
                          rw [qe] at k7
                          simp only [R.nx_ok, R.bind_ok] at k7
                          refine tD.run (en9.mono g10) r10 ?_
                          rw [qe]
                          intro F11 μ11 H11 vy g11 r11 py
                          have g711 := g710.trans g11
                          refine ⟨acc7, (r11.priv Dl _ upd_same).1, by rw [show sizeLine = 16777216 from rfl]; omega, rfl, hjl, acc7 ++ [vy], accD7 ++ [yv], F11, μ11, S11, ?_, g7.trans g711, (pa7.mono g711).append (reps_cons py reps_nil), by rw [List.length_append, List.length_singleton]; omega, Fin.gr g711 ?_⟩
                          · have := r11.hidden (o' := .lst (acc7 ++ [vy])) (upd_same (H := P) (a := Dl) (o := .lst acc7))
                            rw [upd_upd] at this
                            exact this
                          · have e : (((mLcL gm1 tt1 te (wipeD z.1 vs1) (es.drop (j + 1)) S11).bind fun ys S => (R.ok (yv :: ys) S)).bind fun ys S => (mLc2L vs1 gm tt fi1 gm1 tt1 te (wipeD ρ vs) (ds.drop (i + 1)) S).bind fun zs S => .ok (ys ++ zs) S).bind (fun l S => fin (accD7 ++ l) S) = ((mLcL gm1 tt1 te (wipeD z.1 vs1) (es.drop (j + 1)) S11).bind fun ys S => (mLc2L vs1 gm tt fi1 gm1 tt1 te (wipeD ρ vs) (ds.drop (i + 1)) S).bind fun zs S => .ok (ys ++ zs) S).bind fun l S => fin ((accD7 ++ [yv]) ++ l) S := by
                              cases mLcL gm1 tt1 te (wipeD z.1 vs1) (es.drop (j + 1)) S11 with
                              | stuck => rfl
                              | exn e S => rfl
                              | ok ys S =>
                                simp only [R.bind_ok]
                                cases mLc2L vs1 gm tt fi1 gm1 tt1 te (wipeD ρ vs) (ds.drop (i + 1)) S with
                                | stuck => rfl
                                | exn e S => rfl
                                | ok zs S => simp
                            rw [← e]
                            exact k7
              · have e : j = es.length := by omega
                subst e
                rw [List.drop_length] at k7
                simp only [mLcL, R.bind_ok, List.nil_append] at k7
                refine .inl ⟨w1.stops _ F7 μ7 S7 H7 g7 r7, rfl, hlt, acc7, accD7, F7, μ7, S7, r7, g2.trans g27, pa7, by omega, ?_⟩
                have e : ((mLc2L vs1 gm tt fi1 gm1 tt1 te (wipeD ρ vs) (ds.drop (i + 1)) S7).bind fun zs S => (R.ok zs S)).bind (fun l S => fin (accD7 ++ l) S) = (mLc2L vs1 gm tt fi1 gm1 tt1 te (wipeD ρ vs) (ds.drop (i + 1)) S7).bind fun l S => fin (accD7 ++ l) S := by
                  cases mLc2L vs1 gm tt fi1 gm1 tt1 te (wipeD ρ vs) (ds.drop (i + 1)) S7 <;> rfl
                rw [← e]
                exact k7
  · have e : i = ds.length := by omega
    subst e
    rw [List.drop_length] at k2
    simp only [mLc2L, R.bind_ok, List.append_nil] at k2
    exact .inl ⟨w.stops _ F2 μ2 S2 H2 g2 r2, hfin P F2 μ2 S2 H2 Dl acc accD Q _ r2 nP pa k2⟩
section
variable {X : Cx} {W : WX} {elt tg iter tg1 iter1 : Expr} {ifs ifs1 : List Expr} {scope : Scope} {own : List (Str × Nat)} {pos : Pos} {fi fi1 : IM} {gm gm1 : GM} {tt tt1 : BM} {te : EM} {vs1 : List Nat}
theorem d_lc2 {fin : List D → M D} (hfin : FinL (gX X) fin) (hc : X.calm = true) (hN : X.N.Nodup) (hi : DI X W tg iter fi) (ok : BlkOk X.N X.env.scope scope own) (hv : ∀ i ∈ vs1, i ∈ own.map (·.2))
    (hg : ∀ (s : Shared) (H : Hp) (C : Addr) (cl : List (Str × Addr)) (fp : List Addr), DGw (X.blk s H scope (compEnvC scope cl C X.env) fp) (own.map (·.2)) tg gm) (ht : ∀ (s : Shared) (H : Hp) (C : Addr) (cl : List (Str × Addr)) (fp : List Addr), DT (X.blk s H scope (compEnvC scope cl C X.env) fp) W0 ifs tt)
    (hi1 : ∀ (s : Shared) (H : Hp) (C : Addr) (cl : List (Str × Addr)) (fp : List Addr), DI (X.blk s H scope (compEnvC scope cl C X.env) fp) W0 tg1 iter1 fi1)
    (hg1 : ∀ (s : Shared) (H : Hp) (C : Addr) (cl : List (Str × Addr)) (fp : List Addr), DGw (X.blk s H scope (compEnvC scope cl C X.env) fp) vs1 tg1 gm1) (ht1 : ∀ (s : Shared) (H : Hp) (C : Addr) (cl : List (Str × Addr)) (fp : List Addr), DT (X.blk s H scope (compEnvC scope cl C X.env) fp) W0 ifs1 tt1)
    (he : ∀ (s : Shared) (H : Hp) (C : Addr) (cl : List (Str × Addr)) (fp : List Addr), DE (X.blk s H scope (compEnvC scope cl C X.env) fp) W0 elt te) (hs : ∀ x, foldedSetIterable iter X.env x = pure x := by intro _; rfl) (hs1 : ∀ env x, foldedSetIterable iter1 env x = pure x := by intro _ _; rfl) :
    DE X W (.ListComp elt [⟨tg, iter, ifs, 0⟩, ⟨tg1, iter1, ifs1, 0⟩] scope pos) (mLc2F fin (own.map (·.2)) vs1 fi gm tt fi1 gm1 tt1 te) := PE.weak (pe_lc2 hc hN hi ok hv hg ht hi1 hg1 ht1 he hs hs1) (lc2_run hfin)
theorem ds_setLc2 {fin : List D → M D} (hfin : FinL (gX X) fin) (i : Nat) {y : Str} {py spos : Pos} (hc : X.calm = true) (hN : X.N.Nodup) (hi : DI X W tg iter fi) (ok : BlkOk X.N X.env.scope scope own) (hv : ∀ i ∈ vs1, i ∈ own.map (·.2))
    (hg : ∀ (s : Shared) (H : Hp) (C : Addr) (cl : List (Str × Addr)) (fp : List Addr), DGw (X.blk s H scope (compEnvC scope cl C X.env) fp) (own.map (·.2)) tg gm) (ht : ∀ (s : Shared) (H : Hp) (C : Addr) (cl : List (Str × Addr)) (fp : List Addr), DT (X.blk s H scope (compEnvC scope cl C X.env) fp) W0 ifs tt)
    (hi1 : ∀ (s : Shared) (H : Hp) (C : Addr) (cl : List (Str × Addr)) (fp : List Addr), DI (X.blk s H scope (compEnvC scope cl C X.env) fp) W0 tg1 iter1 fi1)
    (hg1 : ∀ (s : Shared) (H : Hp) (C : Addr) (cl : List (Str × Addr)) (fp : List Addr), DGw (X.blk s H scope (compEnvC scope cl C X.env) fp) vs1 tg1 gm1) (ht1 : ∀ (s : Shared) (H : Hp) (C : Addr) (cl : List (Str × Addr)) (fp : List Addr), DT (X.blk s H scope (compEnvC scope cl C X.env) fp) W0 ifs1 tt1)
    (he : ∀ (s : Shared) (H : Hp) (C : Addr) (cl : List (Str × Addr)) (fp : List Addr), DE (X.blk s H scope (compEnvC scope cl C X.env) fp) W0 elt te)
    (hsw : swapsWith (.ListComp elt [⟨tg, iter, ifs, 0⟩, ⟨tg1, iter1, ifs1, 0⟩] scope pos) (some (.Name y py)) spos.line X.env = pure true) (hy : X.N[i]? = some y := by rfl) (hyl : X.env.scope.names.lookup y = some .local := by rfl) (hs : ∀ x, foldedSetIterable iter X.env x = pure x := by intro _; rfl) (hs1 : ∀ env x, foldedSetIterable iter1 env x = pure x := by intro _ _; rfl) :
    DS X W (.Assign [.Name y py] (.ListComp elt [⟨tg, iter, ifs, 0⟩, ⟨tg1, iter1, ifs1, 0⟩] scope pos) spos) (mAsg (mLc2F fin (own.map (·.2)) vs1 fi gm tt fi1 gm1 tt1 te) (gN i)) := by
  refine PS.weak (ps_setLc2 (wi1 := tDI (gX X) W0 fi1) (g := tDGw (gX X) (own.map (·.2)) gm) (tt := tDB (gX X) W0 tt) (g1 := tDGw (gX X) vs1 gm1) (tt1 := tDB (gX X) W0 tt1) (te := tD (gX X) W0 te) hc hN hy hyl hsw hi ok hv hg ht hi1 hg1 ht1 he hs hs1) fun Dn σ H ⟨P, ρ, F, μ, S, en, rl, k⟩ => ?_
  refine lc2_run hfin σ H _ (tD.run en rl (Fin.imp (FinS.to (rep := repD (gX X)) en k) (fun v H1 ⟨a, F1, μ1, S1, g1, r1, p1, k1⟩ => ?_) fun _ _ _ z => z))
  exact k1 F1 μ1 H1 (Gr.refl _ _) r1 _ ((en.mono g1).set p1)
end

/-! ### extend -/
theorem list_extendW (l : Addr) (xs : Array Value) (n : Nat) (b : Addr) (ys : Array Value) (m : Nat) (sl : Array (Option Value)) (h0 : ¬(!xs.isEmpty && Builtin.List.listTooLong (xs.size + ys.size)) = true) (h1 : xs.size ≤ sizeLine) (h2 : xs.size + ys.size ≤ sizeLine + 1) :
    Meets (Builtin.«list.extend» ⟨[.ref l, .ref b], []⟩) (fun _ R s => s.heap.get? l = some { cls := .type "list", dict := none, data := .seq xs n, slots := #[] } ∧ s.heap.get? b = some { cls := .type "list", dict := none, data := .seq ys m, slots := sl } ∧
      R (.ok (.ret Value.none)) { s with heap := s.heap.update l (Obj.mapSeq fun x => x ++ ys), toks := s.toks }) :=
  .of_wp fun prog w A R s h => by
    obtain ⟨hp, g, d, tk, os⟩ := s
    obtain ⟨hl, hb, h⟩ := h
    have f1 := PySem.AutoSeq1.sub_list_list
    have f2 := PySem.AutoSeq1.sub_tuple_list
    have f3 := PySem.AutoSeq1.sub_list_tuple
    have hz' : (xs ++ ys).size ≤ sizeLine + 1 := by rw [Array.size_append]; exact h2
    wp_walk using (wpAny_updateSeq hl rfl (hz := h1) (_hz' := hz')), PySem.AutoSeq1.wpAny_loadPart' hl, PySem.AutoSeq1.wpAny_loadPart' hb
    exact ⟨_, rfl, h⟩
section
variable {X : Cx}
theorem mt_extendS : MtM X "list.extend" (fun x vs H Q => ∃ l b xs zs, x = .ref l ∧ vs = [.ref b] ∧ H l = some (.lst xs) ∧ SqL X.K H b zs ∧ xs.length + zs.length ≤ sizeLine ∧ Q .non (upd H l (.lst (xs ++ zs)))) := by
  intro pins s σ H x vs v us Q I rx rv h
  obtain ⟨l, b, xs, zs, rfl, rfl, hH, hB, hz, q⟩ := h
  cases rx
  obtain ⟨u, rfl, ru⟩ := rv.one
  cases ru
  obtain ⟨z, its, n, r, hl, e⟩ := I.lstM hH
  obtain ⟨its2, r2, ⟨o2, n2, e2, hc2, hd2, hs2⟩, z2⟩ := I.list hB
  have l2 := r2.length
  obtain ⟨oc2, od2, oda2, osl2⟩ := o2
  dsimp only at hc2 hd2 hs2
  subst hc2 hd2 hs2
  have hsz : its.toArray.size + its2.toArray.size ≤ sizeLine := by rw [List.size_toArray, List.size_toArray]; omega
  have hlong : ¬ (!its.toArray.isEmpty && Builtin.List.listTooLong (its.toArray.size + its2.toArray.size)) = true := by
    rw [notLongL hsz, Bool.and_false]
    exact Bool.false_ne_true
  refine call_meets PySem.F.slot_list_extend ⟨_, e, rfl⟩ PySem.F.entry_list_extend (PySem.F.args_list_extend_2 _ _) (list_extendW l its.toArray n b its2.toArray n2 osl2 hlong (by rw [List.size_toArray]; omega) (by omega)) ⟨e, e2, ?_⟩
  refine ⟨.non, _, I.lset (its' := its ++ its2) hH e (by simp) (r.append r2) ?_, rfl, q⟩
  rw [List.length_append]
  omega
theorem md_extend : MetD X "list" "list.extend" isL extendD := by
  refine ⟨fun P F μ S H d v r p e => isL_ty r p e, ?_⟩
  intro pins s σ H x xs v us Q I rx rxs h
  obtain ⟨d, ds, P, F, μ, S, E, rl, p, ps, k⟩ := h
  unfold extendD at k
  split at k
  rotate_left
  · exact k.elim
  rename_i n d
  split at k
  rotate_left
  · exact k.elim
  rename_i l kk q
  split at k
  rotate_left
  · exact k.elim
  rename_i hl
  obtain ⟨a, ys, rfl, hm, hH, hr⟩ := p.refL rl q
  simp only [Reps] at ps
  obtain ⟨w, _, rfl, pw, rfl⟩ := ps
  obtain ⟨b, zs, rfl, hs, hr2⟩ := pw.lst rl
  refine mt_extendS pins s σ H _ _ v us Q I rx rxs ⟨a, b, ys, zs, rfl, rfl, hH, hs, by rw [← hr.length, ← hr2.length]; exact hl, ?_⟩
  exact k.here (rl.write q (by intro z; cases z) hm ⟨_, rfl, hr.append hr2⟩) rep_non
end
end DL

/-! The data layer, 16: enumerate over a tuple. -/
namespace DL
open PySem PySem.Spec PyProof.Rows L2

theorem meets_enum1 {v : Value} {o : Obj} {Hh : Heap → Prop} (B : Begins v o Hh) :
    Meets (Builtin.«enumerate.__new__» ⟨[.type "enumerate", v], []⟩) (fun _ R s => Hh s.heap ∧
      R (.ok (.ret (.ref (s.heap.push o).objs.size))) { s with heap := (s.heap.push o).push { cls := .type "enumerate", data := .fields #[.none, .bool false, .ref s.heap.objs.size, rawInt 0, .none, .none] } }) :=
  .of_wp fun prog w A R s h => by
    obtain ⟨hp, g, d, tk, os⟩ := s
    obtain ⟨h1, h⟩ := h
    have hsub := sub_enumerate
    have it0 : ∀ {A' : Around} {E : Value → Shared → Prop} {Q : Value → Shared → Prop}, Q (.ref hp.objs.size) ⟨hp.push o, g, d, tk, os⟩ → wpAny (model prog w) A' (pyIter v) Q E ⟨hp, g, d, tk, os⟩ :=
      fun q => B.iter prog w _ _ ⟨hp, g, d, tk, os⟩ _ h1 q
    wp_walk using it0
    refine wpAny_stack_any fun st => wpAny_pure ?_
    split
    · rename_i c _ _ _ _ _
      cases (c == Value.type "enumerate") <;> (wp_walk using it0; exact ⟨_, rfl, h⟩)
    · wp_walk using it0
      exact ⟨_, rfl, h⟩
section
variable {prog : Program} {w : World} {A : Around} {E : Value → Shared → Prop} {s : Shared}
theorem call_enum1 {v : Value} {o : Obj} {Hh : Heap → Prop} {Q : Value → Shared → Prop} (B : Begins v o Hh) (h1 : Hh s.heap)
    (h : ∀ h', IsEnum h' (s.heap.objs.size + 1) s.heap.objs.size 0 .none → h'.get? s.heap.objs.size = some o → (∀ b u, s.heap.get? b = some u → h'.get? b = some u) → Q (.ref (s.heap.objs.size + 1)) { s with heap := h' }) :
    wpAny (model prog w) A (call (.type "enumerate") [v]) Q E s := by
  refine callType_new F.called_enumerate (by decide) (F.typeCall_enumerate_1 _) (F.newCall_enumerate_1 _) (fun obj => F.args_object_init_2 obj _) F.entry_enumerate_new (meets_enum1 B) ⟨h1, ?_⟩
  have hz : (s.heap.push o).objs.size = s.heap.objs.size + 1 := Heap.size_push ..
  rw [hz]
  have he := Heap.get?_push_size (s.heap.push o) (o := { cls := .type "enumerate", data := .fields #[.none, .bool false, .ref s.heap.objs.size, rawInt 0, .none, .none] }) rfl
  rw [hz] at he
  exact ⟨⟨_, he, rfl⟩, h _ he (Heap.get?_push_of_some _ (Heap.get?_push_size _ B.free)) fun b u x => Heap.get?_push_of_some _ (Heap.get?_push_of_some _ x)⟩
end
/-- the tuple at a, each item in a new pair -/
def IteT (K : PySem.W.Frag) (a : Addr) : It :=
  ⟨fun i H => ∃ (xs : List V) (x : V), SqT K H a xs ∧ xs[i]? = some x, fun i H v H' => ∃ T x, v = .ref T ∧ H T = none ∧ H' = upd H T (.tup [.int (i : Nat), x]) ∧ ∀ xs, SqT K H a xs → xs[i]? = some x, fun i H => ∃ xs : List V, SqT K H a xs ∧ xs.length ≤ i⟩
theorem turn_enumT {P : Program} {w : World} {K : PySem.W.Frag} {elts : List Expr} {kk : Nat} {tpos : Pos} (a e it : Addr) :
    Turn P w K (.Tuple elts kk tpos) (IteT K a) [e, it] e (fun i h => (∃ old, IsEnum h e it ((i : Nat) : Int) old) ∧ h.IsTupleIter it a i ∧ e ≠ it ∧ a ≠ it ∧ e ≠ a) where
  mem := by simp
  obj := fun i h st b hb => by
    obtain ⟨⟨old, he⟩, ⟨o, ho, hc, hd⟩, _⟩ := st
    rcases (show b = e ∨ b = it by simpa using hb) with rfl | rfl
    · exact ⟨_, he, fun v q => nomatch q⟩
    · exact ⟨o, ho, fun v q => by rw [hd] at q; cases q⟩
  keep := fun i h h' st k => by
    obtain ⟨⟨old, he⟩, hi, hne⟩ := st
    exact ⟨⟨old, k e (by simp) _ he⟩, hi.at fun o q => k it (by simp) o q, hne⟩
  item := by
    intro X hP hw hK hc i pins s σ H E I hf st hg
    subst hP hw hK
    obtain ⟨⟨old, he⟩, hit, hne, ha, hea⟩ := st
    obtain ⟨xs, x, hq, hx⟩ := hg
    obtain ⟨its, rv, p, hz⟩ := I.tuple hq
    obtain ⟨u, hu, ru⟩ := rv.get hx
    obtain ⟨po, ph, pc, pn, pd⟩ := p
    have hel : e < s.heap.objs.size := Heap.lt_size he
    have hil : it < s.heap.objs.size := by obtain ⟨_, q, _⟩ := hit; exact Heap.lt_size q
    have hlt : i < its.toArray.size := by
      have := (List.getElem?_eq_some_iff.mp hu).1
      simpa using this
    refine wpAny_pyNext_enum_itemD (Draws.tuple (A := X.A.in1) (show X.A.in1.handled = none from I.ok.hd hc) it a ha its.toArray) he ⟨hit, po, ph, pc, pn, pd⟩ hlt hne (by simp [hne, hea]) fun x' h' tk hP ho hst hT hsz hk => ?_
    have ex : x' = u := by
      have h1 : its.toArray[i]? = some u := by simpa using hu
      rw [h1] at hP
      exact (Option.some.inj hP).symm
    subst ex
    refine ⟨_, rfl, wpAny_letOwnedTupleGo_enum (s := { s with heap := h', toks := tk + 1 }) ho fun h'' he' sb => ?_⟩
    have hT2 : h''.get? s.heap.objs.size = some { cls := .type "tuple", data := .seq #[.int i tk, x'] } := (sb.2 _ (Nat.ne_of_gt hel)).trans hT
    have new : ObjOk X.prog X.w (upd H s.heap.objs.size (.tup [.int (i : Nat), x])) h'' s.heap.objs.size (.tup [.int (i : Nat), x]) :=
      ⟨by show 2 ≤ sizeLine; decide, [.int i tk, x'], .cons ⟨_, rfl⟩ (.cons ru .nil), ⟨_, hT2, rfl, _, rfl⟩⟩
    have I1 : Inv X pins σ (upd H s.heap.objs.size (.tup [.int (i : Nat), x])) { s with heap := h'', toks := tk + 1 } :=
      I.turnedNew (ch := [e, it]) (fun b ob hb q => (sb.2 b (fun z => hb (by simp [z]))).trans (hk b ob (fun z => hb (by simp [z])) (fun z => hb (by simp [z])) q)) hf (Nat.le_refl _) new
    refine ⟨.ref s.heap.objs.size, _, I1, rfl, ⟨_, x, rfl, I.hok.fresh (Nat.le_refl _), rfl, fun ys hy => by rw [I.tuple_inj hy hq]; exact hx⟩, ⟨⟨x', ?_⟩, hst.1.at fun o q => (sb.2 it (Ne.symm hne)).trans q, hne, ha, hea⟩, fun b hb => ?_⟩
    · rw [show ((i + 1 : Nat) : Int) = (i : Int) + 1 by omega]
      exact he'
    · have hb' : b < s.heap.objs.size := by
        rcases (show b = e ∨ b = it by simpa using hb) with rfl | rfl
        · exact hel
        · exact hil
      rw [upd_ne (Nat.ne_of_lt hb')]
      exact (hf b hb).1
  done := by
    intro X hP hw hK hc i pins s σ H E I hf st hg
    subst hP hw hK
    obtain ⟨⟨old, he⟩, hit, hne, ha, hea⟩ := st
    obtain ⟨xs, hq, hx⟩ := hg
    obtain ⟨its, rv, p, hz⟩ := I.tuple hq
    obtain ⟨po, ph, pc, pn, pd⟩ := p
    obtain ⟨f0, f1, f2, f3, f4, f5⟩ := hf it (by simp)
    have hl := rv.length
    have hn : its.toArray[i]? = none := by simp; omega
    have D2 : Draws X.prog X.w X.A.in1 it [it, a] i (fun _ _ => True) (fun j h => j = i ∧ h.IsTupleIter it a i ∧ h.IsTuple a its.toArray) :=
      { live := fun _ _ st => let ⟨o, ho, _⟩ := st.2.1; ⟨o, ho⟩
        frame := fun _ _ _ st hk => ⟨st.1, st.2.1.at fun o e => hk it (by simp) o e, st.2.2.at fun o e => hk a (by simp) o e⟩
        item := fun j s Q E hi st hQ => absurd hi (by rw [st.1]; exact Nat.lt_irrefl _)
        done := fun s Q E st hE => wpAny_nextOf_tuple_end (I.ok.hd hc) st.2.1 st.2.2 hn hE }
    exact wpAny_pyNext_enum_endD D2 he ⟨rfl, hit, po, ph, pc, pn, pd⟩ fun h' eb => ⟨rfl, I.turned (t' := s.toks) (fun b o hb q => eb b o hb q) f0 f1 f3 f4 f5⟩
  self := fun A i s Q E st h => by
    obtain ⟨⟨old, he⟩, _⟩ := st
    exact wpAny_pyIter_enum he h
def mEnumQ (fe : EM) : IM := fun ρ S => (fe ρ S).bind fun d S => match d with
  | .lst l => .ok ((enumL 0 l).map D.wt) S
  | .tup l => .ok ((enumL 0 l).map D.wt) S
  | _ => .stuck
theorem pi_enumQ {X : Cx} {e : Expr} {ta : TA} {p pos tpos : Pos} {elts : List Expr} {kk : Nat} (hg : Gl X "enumerate") (hm : X.mg "enumerate" = none) (ha : PA X [e] ta) (hs : starEach [e] X.env = [(false, eval e X.env)] := by rfl) :
    PI X (.Tuple elts kk tpos) (.Call (.Name "enumerate" p) [e] [] pos) (fun σ H R => ta σ H fun vs H1 => ∃ a xs, vs = [.ref a] ∧ ((SqL X.K H1 a xs ∧ R (Ite X.K a) H1) ∨ (SqT X.K H1 a xs ∧ R (IteT X.K a) H1))) := by
  refine ⟨fun pins s σ H R I h => ?_⟩
  refine Call_ (ld_blt I hg hm boot_enumerate (PyProof.Rows.callWith_type1 (thn (ha.run pos pins s σ H _ I h) fun us s1 ⟨vs, H1, I1, r1, q1⟩ => ?_) hs rfl))
  obtain ⟨a, xs, ex, q⟩ := q1
  subst ex
  cases r1 with
  | cons r rr =>
    cases rr
    cases r
    rcases q with ⟨hq, q⟩ | ⟨hq, q⟩
    · obtain ⟨its, rv, p', hz⟩ := I1.list hq
      refine call_enumerate_list p'.isList fun h' he hit hsz hk => wpAny_pyIter_enum he ?_
      have I2 : Inv X pins σ H1 { s1 with heap := h' } := I1.kept (t' := s1.toks) hk
      refine ⟨s1.heap.objs.size + 1, [s1.heap.objs.size + 1, s1.heap.objs.size], _, _, H1, rfl, I2, turn_enum a (s1.heap.objs.size + 1) s1.heap.objs.size, ⟨⟨.none, he⟩, hit, Nat.succ_ne_self _⟩, fun b hb => ?_, q⟩
      have hle : s1.heap.objs.size ≤ b := by
        rcases (show b = s1.heap.objs.size + 1 ∨ b = s1.heap.objs.size by simpa using hb) with z | z <;> rw [z] <;> omega
      exact I1.fpOk hle (I1.hok.fresh hle)
    · obtain ⟨its, rv, ⟨po, ph, pc, pn, pd⟩, hz⟩ := I1.tuple hq
      have hlt := Heap.lt_size ph
      refine call_enum1 (begins_tuple a its.toArray) ⟨po, ph, pc, pn, pd⟩ fun h' he hit hk => wpAny_pyIter_enum he ?_
      have I2 : Inv X pins σ H1 { s1 with heap := h' } := I1.kept (t' := s1.toks) hk
      refine ⟨s1.heap.objs.size + 1, [s1.heap.objs.size + 1, s1.heap.objs.size], _, _, H1, rfl, I2, turn_enumT a (s1.heap.objs.size + 1) s1.heap.objs.size, ⟨⟨.none, he⟩, ⟨_, hit, rfl, rfl⟩, Nat.succ_ne_self _, Nat.ne_of_lt hlt, Ne.symm (Nat.ne_of_lt (Nat.lt_succ_of_lt hlt))⟩, fun b hb => ?_, q⟩
      have hle : s1.heap.objs.size ≤ b := by
        rcases (show b = s1.heap.objs.size + 1 ∨ b = s1.heap.objs.size by simpa using hb) with z | z <;> rw [z] <;> omega
      exact I1.fpOk hle (I1.hok.fresh hle)
theorem walkD_enumT {g : G} {F : Hp} {μ : List Addr} {ds : List D} {xs : List V} {a : Addr} (hs : SqT g.K F a xs) (hr : Reps g F μ ds xs) : WalkD g F μ ((enumL 0 ds).map D.wt) (IteT g.K a) := by
  refine walkD_pair fun F' H h1 h2 => ?_
  have hx : SqT g.K H a xs := sqT_mono (μ := μ) (μ' := μ) ⟨fun c o e => h2 c o (h1 c o e), fun _ _ z => z⟩ hs
  refine ⟨fun i hi => ?_, ?_, fun i x H' z e y => ?_⟩
  · have hi : i < xs.length := by rw [← hr.length, ← enumL_len 0]; exact hi
    exact ⟨xs, xs[i], hx, by simp [hi]⟩
  · rw [enumL_len, hr.length]; exact ⟨xs, hx, Nat.le_refl _⟩
  · obtain ⟨d, e1, rfl⟩ := enumL_get e
    obtain ⟨v, e2, e3⟩ := hr.get e1
    obtain ⟨T, u, h3, h4, h5, h6⟩ := y
    have h6 := h6 xs hx
    rw [e2] at h6; cases h6
    refine ⟨T, _, h3, h4, h5, reps_cons ?_ (reps_cons e3 reps_nil)⟩
    rw [Nat.zero_add]; exact rep_int
theorem di_enumQ {X : Cx} {W : WX} {e : Expr} {fe : EM} {p pos tpos : Pos} {elts : List Expr} {kk : Nat} (hm : X.mg "enumerate" = none) (h : DE X W e fe) (hg : Gl X "enumerate" := by rfl) (hs : starEach [e] X.env = [(false, eval e X.env)] := by rfl) :
    DI X W (.Tuple elts kk tpos) (.Call (.Name "enumerate" p) [e] [] pos) (mEnumQ fe) := by
  refine PI.weak (pi_enumQ hg hm (pa_cons h pa_nil hs) hs) fun σ H R ⟨P, ρ, F, μ, S, en, rl, k⟩ => ?_
  refine tD.run en rl (Fin.imp (Fin.bind (rep := repD (gX X)) k) (fun v H1 ⟨d, F1, μ1, S1, g1, r1, p1, k1⟩ => ?_) fun _ _ _ z => z)
  cases d <;> first | exact k1.elim | skip
  · simp only [Rep] at p1
    obtain ⟨a, xs, ea, ⟨hs, _⟩, hr⟩ := p1
    exact ⟨a, xs, by rw [ea], .inr ⟨sqT_mono (g := gX X) r1.gr0 hs, k1.here r1 (walkD_enumT hs hr)⟩⟩
  · simp only [Rep] at p1
    obtain ⟨a, xs, ea, hs, hr⟩ := p1
    exact ⟨a, xs, by rw [ea], .inl ⟨sqL_mono (g := gX X) r1.gr0 hs, k1.here r1 (walkD_enum hs hr)⟩⟩
end DL

/-! The data layer, 17: zip of a tuple and a list. -/
namespace DL
open PySem PySem.Spec PyProof.Rows L2

def ItzM (K : PySem.W.Frag) (a b : Addr) : It :=
  ⟨fun i H => ∃ (xs ys : List V) (x y : V), SqT K H a xs ∧ SqL K H b ys ∧ xs[i]? = some x ∧ ys[i]? = some y,
    fun i H v H' => ∃ T x y, v = .ref T ∧ H T = none ∧ H' = upd H T (.tup [x, y]) ∧ (∀ xs, SqT K H a xs → xs[i]? = some x) ∧ ∀ ys, SqL K H b ys → ys[i]? = some y,
    fun i H => ∃ xs ys : List V, SqT K H a xs ∧ SqL K H b ys ∧ i ≤ xs.length ∧ i ≤ ys.length ∧ (i = xs.length ∨ i = ys.length)⟩
theorem turn_zipM {P : Program} {w : World} {K : PySem.W.Frag} {elts : List Expr} {kk : Nat} {tpos : Pos} {a b z TI TO i1 i2 : Addr} (D : ZipSep2 z TI TO i1 i2 [i1, a] [i2, b]) (ha : a ≠ i1) (hb : b ≠ i2) :
    Turn P w K (.Tuple elts kk tpos) (ItzM K a b) [z, TI, TO, i1, i2] z (fun i h => IsZip h z TI TO .none ∧ IsTupOf2 h TI (.ref i1) (.ref i2) ∧ (∃ x y, IsTupOf2 h TO x y) ∧ h.IsTupleIter i1 a i ∧ h.IsListIter i2 b i) where
  mem := by simp
  obj := fun i h st c hc => by
    obtain ⟨hz, hTI, ⟨x, y, hTO⟩, ⟨o1, e1, _, d1⟩, ⟨o2, e2, _, d2⟩⟩ := st
    rcases (show c = z ∨ c = TI ∨ c = TO ∨ c = i1 ∨ c = i2 by simpa using hc) with rfl | rfl | rfl | rfl | rfl
    · exact ⟨_, hz, fun v q => nomatch q⟩
    · exact ⟨_, hTI, fun v q => nomatch q⟩
    · exact ⟨_, hTO, fun v q => nomatch q⟩
    · exact ⟨o1, e1, fun v q => by rw [d1] at q; cases q⟩
    · exact ⟨o2, e2, fun v q => by rw [d2] at q; cases q⟩
  keep := fun i h h' st k => by
    obtain ⟨hz, hTI, ⟨x, y, hTO⟩, h1, h2⟩ := st
    exact ⟨k z (by simp) _ hz, k TI (by simp) _ hTI, ⟨x, y, k TO (by simp) _ hTO⟩, h1.at fun o q => k i1 (by simp) o q, h2.at fun o q => k i2 (by simp) o q⟩
  item := by
    intro X hP hw hK hc i pins s σ H E I hf st hg
    subst hP hw hK
    obtain ⟨hz, hTI, ⟨x0, y0, hTO⟩, h1, h2⟩ := st
    obtain ⟨xs, ys, x, y, hqx, hqy, hx, hy⟩ := hg
    obtain ⟨its, rv, ⟨po, ph, pc, pn, pd⟩, _⟩ := I.tuple hqx
    obtain ⟨its2, rv2, p2, _⟩ := I.list hqy
    obtain ⟨u, hu, ru⟩ := rv.get hx
    obtain ⟨u2, hu2, ru2⟩ := rv2.get hy
    have hzl : z < s.heap.objs.size := Heap.lt_size hz
    have lt1 : i < its.toArray.size := by
      have := (List.getElem?_eq_some_iff.mp hu).1
      simpa using this
    have lt2 : i < its2.toArray.size := by
      have := (List.getElem?_eq_some_iff.mp hu2).1
      simpa using this
    have hd : X.A.in1.handled = none := I.ok.hd hc
    refine wpAny_pyNext_zipD2_item D (Draws.tuple (A := X.A.in1) hd i1 a ha its.toArray) (Draws.list (A := X.A.in1) hd i2 b hb its2.toArray) hz hTI hTO ⟨h1, po, ph, pc, pn, pd⟩ ⟨h2, p2.isList⟩ lt1 lt2 fun v1 v2 h' tk e1 e2 z' TO' s1' s2' hT hsz hk => ?_
    have ex : v1 = u := by
      have q : its.toArray[i]? = some u := by simpa using hu
      rw [q] at e1
      exact (Option.some.inj e1).symm
    have ey : v2 = u2 := by
      have q : its2.toArray[i]? = some u2 := by simpa using hu2
      rw [q] at e2
      exact (Option.some.inj e2).symm
    subst ex ey
    refine ⟨_, rfl, wpAny_letOwnedTupleGo_zip (s := { s with heap := h', toks := tk }) z' fun h'' z'' sb => ?_⟩
    have hT2 : h''.get? s.heap.objs.size = some { cls := .type "tuple", data := .seq #[v1, v2] } := (sb.2 _ (Nat.ne_of_gt hzl)).trans hT
    have new : ObjOk X.prog X.w (upd H s.heap.objs.size (.tup [x, y])) h'' s.heap.objs.size (.tup [x, y]) :=
      ⟨by show 2 ≤ sizeLine; decide, [v1, v2], .cons ru (.cons ru2 .nil), ⟨_, hT2, rfl, _, rfl⟩⟩
    have I1 : Inv X pins σ (upd H s.heap.objs.size (.tup [x, y])) { s with heap := h'', toks := tk } :=
      I.turnedNew (ch := [z, TI, TO, i1, i2]) (fun c o hb q => (sb.2 c (fun q' => hb (by simp [q']))).trans (hk c o (fun q' => hb (by simp [q'])) (fun q' => hb (by simp [q'])) (fun q' => hb (by simp [q'])) (fun q' => hb (by simp [q'])) q)) hf (Nat.le_refl _) new
    refine ⟨.ref s.heap.objs.size, _, I1, rfl, ⟨_, x, y, rfl, I.hok.fresh (Nat.le_refl _), rfl, fun l hl => by rw [I.tuple_inj hl hqx]; exact hx, fun l hl => by rw [I.list_inj hl hqy]; exact hy⟩, ⟨z'', ?_, ⟨v1, v2, ?_⟩, ?_, ?_⟩, fun c hcm => ?_⟩
    · exact (sb.2 _ D.TIz).trans (hk _ _ D.TIz D.TITO D.TIi1 D.TIi2 hTI)
    · exact (sb.2 _ D.TOz).trans TO'
    · exact s1'.1.at fun o q => (sb.2 _ (Ne.symm D.zi1)).trans q
    · exact s2'.1.at fun o q => (sb.2 _ (Ne.symm D.zi2)).trans q
    · have hlt : c < s.heap.objs.size := by
        rcases (show c = z ∨ c = TI ∨ c = TO ∨ c = i1 ∨ c = i2 by simpa using hcm) with rfl | rfl | rfl | rfl | rfl
        · exact hzl
        · exact Heap.lt_size hTI
        · exact Heap.lt_size hTO
        · obtain ⟨_, e1, _⟩ := h1; exact Heap.lt_size e1
        · obtain ⟨_, e2, _⟩ := h2; exact Heap.lt_size e2
      rw [upd_ne (Nat.ne_of_lt hlt)]
      exact (hf c hcm).1
  done := by
    intro X hP hw hK hc i pins s σ H E I hf st hg
    subst hP hw hK
    obtain ⟨hz, hTI, ⟨x0, y0, hTO⟩, h1, h2⟩ := st
    obtain ⟨xs, ys, hqx, hqy, le1, le2, hend⟩ := hg
    obtain ⟨its, rv, ⟨po, ph, pc, pn, pd⟩, _⟩ := I.tuple hqx
    obtain ⟨its2, rv2, p2, _⟩ := I.list hqy
    have l1 := rv.length
    have l2 := rv2.length
    have hd : X.A.in1.handled = none := I.ok.hd hc
    exact wpAny_pyNext_zipD2_end D (Draws.tuple (A := X.A.in1) hd i1 a ha its.toArray) (Draws.list (A := X.A.in1) hd i2 b hb its2.toArray) hz hTI hTO ⟨h1, po, ph, pc, pn, pd⟩ ⟨h2, p2.isList⟩ (by simp; omega) (by simp; omega) (by simp; omega) fun h' tk hk => ⟨rfl, I.turnedL (t' := tk) (ch := [z, TI, TO, i1, i2]) (fun c o hb q =>
      hk c o (fun q' => hb (by simp [q'])) (fun q' => hb (by simp [q'])) (fun q' => hb (by simp [q'])) (fun q' => hb (by simp [q'])) q) hf⟩
  self := fun A i s Q E st h => wpAny_pyIter_zip st.1 h
theorem notin2 {x y z : Nat} (h1 : x ≠ y) (h2 : x ≠ z) : x ∉ [y, z] := by simp [h1, h2]
theorem sep_new (n a b : Nat) (ha : a < n) (hb : b < n) : ZipSep2 (n + 4) (n + 2) (n + 3) n (n + 1) [n, a] [n + 1, b] where
  TIz := Nat.ne_of_lt (by omega)
  TOz := Nat.ne_of_lt (by omega)
  TITO := Nat.ne_of_lt (by omega)
  TIi1 := Nat.ne_of_gt (by omega)
  mem1 := List.mem_cons_self
  zf1 := notin2 (by omega) (by omega)
  Tf1 := notin2 (by omega) (by omega)
  TIi2 := Nat.ne_of_gt (by omega)
  mem2 := List.mem_cons_self
  zf2 := notin2 (by omega) (by omega)
  Tf2 := notin2 (by omega) (by omega)
  sep1_2 := notin2 (by omega) (by omega)
  sep2_1 := notin2 (by omega) (by omega)
theorem pi_zipM {X : Cx} {e e2 : Expr} {ta : TA} {p pos tpos : Pos} {elts : List Expr} {kk : Nat} (hg : Gl X "zip") (hm : X.mg "zip" = none) (ha : PA X [e, e2] ta)
    (hs : starEach [e, e2] X.env = (false, eval e X.env) :: starEach [e2] X.env := by rfl) (hpl : (backTo pos (starEach [e2] X.env)).any (·.1) = false := by rfl) :
    PI X (.Tuple elts kk tpos) (.Call (.Name "zip" p) [e, e2] [] pos) (fun σ H R => ta σ H fun vs H1 => ∃ a b xs ys, vs = [.ref a, .ref b] ∧ SqT X.K H1 a xs ∧ SqL X.K H1 b ys ∧ R (ItzM X.K a b) H1) := by
  refine ⟨fun pins s σ H R I h => ?_⟩
  refine Call_ (ld_blt I hg hm PyProof.Rows.boot_zip (PyProof.Rows.callWith_type1 (thn (ha.run pos pins s σ H _ I h) fun us s1 ⟨vs, H1, I1, r1, q1⟩ => ?_) hs hpl))
  obtain ⟨a, b, xs, ys, ex, hqx, hqy, q⟩ := q1
  subst ex
  cases r1 with
  | cons r rr =>
    cases rr with
    | cons r' rr =>
      cases rr
      cases r
      cases r'
      obtain ⟨its, rv, ⟨po, ph, pc, pn, pd⟩, _⟩ := I1.tuple hqx
      obtain ⟨its2, rv2, p2, _⟩ := I1.list hqy
      have la := Heap.lt_size ph
      have lb := p2.lt
      refine zip_begins2 (begins_tuple a its.toArray) (begins_list b its2.toArray) ⟨po, ph, pc, pn, pd⟩ p2.isList fun h' hz hTI hTO h1 h2 hsz hk => wpAny_pyIter_zip hz ?_
      have I2 : Inv X pins σ H1 { s1 with heap := h' } := I1.kept (t' := s1.toks) hk
      have sep : ZipSep2 (s1.heap.objs.size + 4) (s1.heap.objs.size + 2) (s1.heap.objs.size + 3) s1.heap.objs.size (s1.heap.objs.size + 1) [s1.heap.objs.size, a] [s1.heap.objs.size + 1, b] := sep_new _ a b la lb
      refine ⟨s1.heap.objs.size + 4, [s1.heap.objs.size + 4, s1.heap.objs.size + 2, s1.heap.objs.size + 3, s1.heap.objs.size, s1.heap.objs.size + 1], _, _, H1, rfl, I2, turn_zipM sep (Nat.ne_of_lt la) (Nat.ne_of_lt (Nat.lt_succ_of_lt lb)), ⟨hz, hTI, ⟨_, _, hTO⟩, ⟨_, h1, rfl, rfl⟩, ⟨_, h2, rfl, rfl⟩⟩, fun c hcm => ?_, q⟩
      have hle : s1.heap.objs.size ≤ c := by
        rcases (show c = s1.heap.objs.size + 4 ∨ c = s1.heap.objs.size + 2 ∨ c = s1.heap.objs.size + 3 ∨ c = s1.heap.objs.size ∨ c = s1.heap.objs.size + 1 by simpa using hcm) with z | z | z | z | z <;> rw [z]
        · exact Nat.le_add_right _ _
        · exact Nat.le_add_right _ _
        · exact Nat.le_add_right _ _
        · exact Nat.le_refl _
        · exact Nat.le_add_right _ _
      exact I1.fpOk hle (I1.hok.fresh hle)
theorem walkD_zipM {g : G} {F : Hp} {μ : List Addr} {ds es : List D} {xs ys : List V} {a b : Addr} (hs : SqT g.K F a xs) (hr : Reps g F μ ds xs) (hs2 : SqL g.K F b ys) (hr2 : Reps g F μ es ys) : WalkD g F μ ((zipL ds es).map D.wt) (ItzM g.K a b) := by
  refine walkD_pair fun F' H h1 h2 => ?_
  have gr : Gr F μ H μ := ⟨fun c o e => h2 c o (h1 c o e), fun _ _ z => z⟩
  have hx := sqT_mono (g := g) gr hs
  have hy := sqL_mono (g := g) gr hs2
  have l1 := hr.length
  have l2 := hr2.length
  have zl := zipL_len ds es
  refine ⟨fun i hi => ?_, ?_, fun i x H' z e y => ?_⟩
  · have i1 : i < xs.length := by omega
    have i2 : i < ys.length := by omega
    exact ⟨xs, ys, xs[i], ys[i], hx, hy, by simp [i1], by simp [i2]⟩
  · exact ⟨xs, ys, hx, hy, by omega, by omega, by omega⟩
  · obtain ⟨d, d2, e1, e1', rfl⟩ := zipL_get e
    obtain ⟨v, e2, e3⟩ := hr.get e1
    obtain ⟨v2, e2', e3'⟩ := hr2.get e1'
    obtain ⟨T, u, u', h3, h4, h5, h6, h7⟩ := y
    have h6 := h6 xs hx
    have h7 := h7 ys hy
    rw [e2] at h6; cases h6
    rw [e2'] at h7; cases h7
    exact ⟨T, _, h3, h4, h5, reps_cons e3 (reps_cons e3' reps_nil)⟩
def mZipM (fa fb : EM) : IM := fun ρ S => (fa ρ S).bind fun d S => (fb ρ S).bind fun e S => match d, e with
  | .tup l, .lst k => .ok ((zipL l k).map D.wt) S
  | _, _ => .stuck
def mZipQ (fa fb : EM) : IM := fun ρ S => (fa ρ S).bind fun d S => (fb ρ S).bind fun e S => match d, e with
  | .lst l, .lst k => .ok ((zipL l k).map D.wt) S
  | .tup l, .tup k => .ok ((zipL l k).map D.wt) S
  | .tup l, .lst k => .ok ((zipL l k).map D.wt) S
  | _, _ => .stuck
theorem zipQ_or (fa fb : EM) (ρ : Env) (S : Store) : mZipQ fa fb ρ S = mZip fa fb ρ S ∨ mZipQ fa fb ρ S = mZipM fa fb ρ S := by
  unfold mZipQ mZip mZipM
  cases fa ρ S with
  | stuck => exact .inl rfl
  | exn e S => exact .inl rfl
  | ok d S =>
    simp only [R.bind_ok]
    cases fb ρ S with
    | stuck => exact .inl rfl
    | exn e S => exact .inl rfl
    | ok e S =>
      simp only [R.bind_ok]
      cases d <;> cases e <;> first | exact .inl rfl | exact .inr rfl
section
variable {X : Cx} {W : WX} {e e2 : Expr} {fe fe2 : EM} {p pos tpos : Pos} {elts : List Expr} {kk : Nat}
theorem di_zipM (hm : X.mg "zip" = none) (h : DE X W e fe) (h2 : DE X W e2 fe2) (hg : Gl X "zip" := by rfl) (hs : starEach [e, e2] X.env = [(false, eval e X.env), (false, eval e2 X.env)] := by rfl) (hs2 : starEach [e2] X.env = [(false, eval e2 X.env)] := by rfl) (hz : (backTo pos (starEach [e2] X.env)).any (·.1) = false := by rfl) :
    DI X W (.Tuple elts kk tpos) (.Call (.Name "zip" p) [e, e2] [] pos) (mZipM fe fe2) := by
  refine PI.weak (pi_zipM hg hm (pa_cons h (pa_cons h2 pa_nil hs2) (by rw [hs, hs2])) (by rw [hs, hs2]) hz) fun σ H R ⟨P, ρ, F, μ, S, en, rl, k⟩ => ?_
  refine tD.run en rl (Fin.imp (Fin.bind (rep := repD (gX X)) k) (fun v H1 ⟨d, F1, μ1, S1, g1, r1, p1, k1⟩ => ?_) fun _ _ _ z => z)
  refine tD.run (en.mono g1) r1 (Fin.imp (Fin.bind (rep := repD (gX X)) k1) (fun v2 H2 ⟨d2, F2, μ2, S2, g2, r2, p2, k2⟩ => ?_) fun _ _ _ z => z)
  have p1 := p1.mono g2
  cases d <;> cases d2 <;> first | exact k2.elim | skip
  simp only [Rep] at p1 p2
  obtain ⟨a, xs, ea, ⟨hs, _⟩, hr⟩ := p1
  obtain ⟨b, ys, eb, hs', hr'⟩ := p2
  exact ⟨a, b, xs, ys, by rw [ea, eb], sqT_mono (g := gX X) r2.gr0 hs, sqL_mono (g := gX X) r2.gr0 hs', k2.here r2 (walkD_zipM hs hr hs' hr')⟩
theorem di_zipQ (hm : X.mg "zip" = none) (h : DE X W e fe) (h2 : DE X W e2 fe2) (hg : Gl X "zip" := by rfl) (hs : starEach [e, e2] X.env = [(false, eval e X.env), (false, eval e2 X.env)] := by rfl) (hs2 : starEach [e2] X.env = [(false, eval e2 X.env)] := by rfl) (hz : (backTo pos (starEach [e2] X.env)).any (·.1) = false := by rfl) :
    DI X W (.Tuple elts kk tpos) (.Call (.Name "zip" p) [e, e2] [] pos) (mZipQ fe fe2) := by
  refine ⟨fun pins s σ H R I ⟨P, ρ, F, μ, S, en, rl, k⟩ => ?_⟩
  rcases zipQ_or fe fe2 ρ S with q | q
  · exact (di_zip hm h h2 hg hs hs2 hz).run pins s σ H R I ⟨P, ρ, F, μ, S, en, rl, q ▸ k⟩
  · exact (di_zipM hm h h2 hg hs hs2 hz).run pins s σ H R I ⟨P, ρ, F, μ, S, en, rl, q ▸ k⟩
end
end DL

/-! The data layer, 18: new exception objects as values. -/
namespace DL
open PySem PySem.Spec PyProof.Rows L2

theorem xo_ok {P : Program} {w : World} {H : Hp} {h : Heap} {a C : Addr} {dd : Option Addr} {oe : Obj} {vs : Array Value} (e : h.get? a = some oe) (z : Zc (.ref C) dd oe) (d : oe.data = .fields vs) : ObjOk P w H h a (XO C dd a) :=
  ⟨⟨oe, vs, e, z, d⟩, ⟨oe, e⟩, fun _ _ ⟨o, v, q, r⟩ k => ⟨o, v, k o q, r⟩⟩
section
variable {X : Cx} {W : WX} {c : Str} {e : Expr} {es : List Expr} {fe : EM} {fa : AM} {p pos : Pos}
theorem pe_exc0 {C : Addr} {bmB : List Value} {B newId initId : String} {ta : TE} (F : ExcBaseFacts B newId initId bmB) (q : PySem.W.excIn X.K C bmB newId = true) (gC : X.mg c = some (.ref C)) (kC : PySem.W.keepIn X.K (.ref C) = true) (hg : Gl X c)
    (he : PE X e ta) (hs : starEach [e] X.env = (false, eval e X.env) :: starEach [] X.env) (hdb : (c == ("__debug__" : Str)) = false) :
    PE X (.Call (.Name c p) [e] [] pos) (fun σ H Q => ta σ H fun _ H1 => ∀ a, H1 a = none → Q (.ref a) (upd H1 a (XO C none a))) := by
  refine ⟨fun pins s σ H Q I h => ?_⟩
  refine wpAny_Call_Name_kw (ld_glob I hg gC ?_ hdb)
  refine PySem.W.callWith_K (h₀ := X.base) I.ok.mod.kin kC ?_ hs (by rfl)
  rw [hs]
  show wpAny _ _ (spliced ((false, eval e X.env) :: backTo pos (starEach [] X.env))) _ _ s
  refine Calls.spliced_cons (thn (he.run pins s σ H _ I h) fun u s1 ⟨v, H1, I1, r1, q1⟩ => ?_)
  refine Calls.spliced_nil ⟨I1.kIn, ?_⟩
  show wpAny _ _ (call (.ref C) [u]) _ _ _
  obtain ⟨bm, N, nm, qn, bs, hdct, sn, sub, ab, col, dd, k0, k1, k2, k3, k5, mN, hC, hN, hni, T⟩ := exc_obj I1.kIn q
  refine wpAny_call_exc_subT F T hC hN hni (fun h' a hm => ?_) (by show 1 ≤ sizeLine; rw [sizeLine_eq]; omega)
  have hn : H1 a = none := I1.hok.gone hm.new
  obtain ⟨t, ht, _, _⟩ := hm.there
  exact ⟨.ref a, upd H1 a (XO C none a), I1.laidN hm.keeps hm.new hn (xo_ok ht ⟨rfl, rfl⟩ rfl), rfl, q1 a hn⟩
/-- X(e), an own exception class without own __init__, as a value -/
def mExc0 (c : Str) (fe : EM) : EM := fun ρ S => (fe ρ S).bind fun _ S => .ok (.exc c [] []) S
theorem d_exc0 (F : ExcF X.K X.mg c) (he : DE X W e fe) (hg : Gl X c := by rfl) (hs : starEach [e] X.env = (false, eval e X.env) :: starEach [] X.env := by rfl) (hdb : (c == ("__debug__" : Str)) = false := by decide) :
    DE X W (.Call (.Name c p) [e] [] pos) (mExc0 c fe) := by
  obtain ⟨C, gC, q, kC, h1, h2⟩ := F.ex
  refine PE.weak (pe_exc0 PySem.F.excBase_ValueError q gC kC hg he hs hdb) fun σ H Q ⟨P, ρ, Fz, μ, S, en, rl, k⟩ => ?_
  refine tD.run en rl (Fin.imp (Fin.bind (rep := repD (gX X)) k) (fun v H1 ⟨d, F1, μ1, S1, g1, r1, p1, k1⟩ => ?_) fun _ _ _ z => z)
  intro a ha
  obtain ⟨r2, g2⟩ := r1.froz (o := XO C none a) ha
  exact (k1.gr g2).here r2 (by simp only [repD, Rep]; exact ⟨a, C, none, [], rfl, gC, upd_same, .inl ⟨rfl, rfl, rfl⟩, reps_nil, rfl⟩)

/-! ### own exception classes with an own __init__ -/
/-- SlopeError.__init__(self, ..), the class an own one that has it from ValueError -/
theorem pe_clsinit {x : Str} {CS : Addr} {mc : Value} {ta : TA} {p1 p2 : Pos} {pl : Sem Bool} (hg : Gl X x) (hm : X.mg x = some (.ref CS)) (sg : PySem.W.specialIn X.K (.ref CS) "__getattribute__" = some (some (.builtin "type.__getattribute__"))) (hr : PySem.W.readsIn X.K CS mc = true)
    (vV : PySem.W.findCls X.K (.ref CS) mc "__init__" = some (.val (.builtin "ValueError.__init__"))) (ha : PA X (e :: es) ta) (hdb : (x == ("__debug__" : Str)) = false := by decide)
    (hc : eval (.Call (.Attribute (.Name x p1) "__init__" p2) (e :: es) [] pos) X.env = (do
      let ov ← eval (.Name x p1) X.env
      standAt p2.atName
      let (f, first) ← holding [ov] (getMethod ov "__init__" pl)
      callWith pos f first (backTo pos (starEach (e :: es) X.env)) (backToKw pos (keywordEach [] X.env))) := by rfl)
    (he : starEach (e :: es) X.env = (false, eval e X.env) :: starEach es X.env := by rfl) (hpl : (backTo pos (starEach es X.env)).any (·.1) = false := by rfl) :
    PE X (.Call (.Attribute (.Name x p1) "__init__" p2) (e :: es) [] pos) (tVeI X.K ta) := by
  refine ⟨fun pins s σ H Q I h => ?_⟩
  refine PySem.W.methodCall_KW (ld_glob I hg hm ?_ hdb) hc
  refine PySem.W.method_cls I.kIn sg (PySem.W.cls_value I.kIn hr vV (by decide +kernel) ?_)
  show wpAny _ _ (callWith pos (Value.builtin "ValueError.__init__") [] (backTo pos (starEach (e :: es) X.env)) []) _ _ _
  refine PyProof.Rows.callWith_method1 (thn (ha.run pos pins _ σ H _ (I.tok _) h) fun us s1 ⟨vs, H1, I1, r1, a, C, ws, ev, hl, T, ea, q⟩ => ?_) he hpl
  subst ev
  cases r1 with
  | @cons _ u0 _ ur ra rw' =>
    obtain rfl : u0 = Value.ref a := ra
    have hlen : ur.length ≤ sizeLine := by
      rw [← Paired.length rw', sizeLine_eq]
      omega
    exact oinit_ok T I1 ea hlen fun s' J => ⟨.non, H1, J, rfl, q⟩
/-- what such an __init__ does: it sets the fields fs to its arguments -/
def spI (K : PySem.W.Frag) (fs : List Str) : Sp := fun vs H Q E => ∃ (a C : Addr) (is : List Int), vs = .ref a :: is.map V.int ∧ is.length = fs.length ∧ (∀ i ∈ is, i.natAbs.log2 < 1920) ∧ OexC K C ∧ (∀ f ∈ fs, PySem.W.findIn K (.ref C) f = some none) ∧ H a = some (exo a C none) ∧
  ∀ (dx : Addr) (H2 : Hp), H dx = none → dx ≠ a → H2 a = some (exo a C (some dx)) → H2 dx = some (exd dx (fs.reverse.zip (is.map V.int).reverse)) → (∀ b, b ≠ a → b ≠ dx → H2 b = H b) → Q .non H2
def tVO (C : Addr) (sp : Sp) (ta : TA) : TE := fun σ H Q => ta σ H fun vs H1 => vs.length ≤ 1000 ∧ ∀ a, H1 a = none → sp (.ref a :: vs) (upd H1 a (exo a C none))
  (fun v H2 => v = .non ∧ ∃ (d : Addr) (fs : List (Str × V)), H2 a = some (exo a C (some d)) ∧ H2 d = some (exd d fs) ∧ Q (.ref a) (upd (upd H2 d (.xd fs)) a (XO C (some d) a))) (fun _ _ _ => False)
theorem pe_oexV {x : Str} {C fI : Addr} {k : Nat} {fd : FuncData} {ps : List Str} {sp : Sp} {ta : TA} (T : OexC X.K C) (iC : PySem.W.findIn X.K (.ref C) "__init__" = some (some (.ref fI))) (tI : PySem.W.typeIn X.K (.ref fI) = some (.type "function"))
    (F1 : FnOk X.prog X.w X.K X.mg X.base L2.CX0 k fI fd ps sp) (hr : Room (k + 1) X.A) (hb : Binds X.K fd ps []) (hg : Gl X x) (hm : X.mg x = some (.ref C)) (ha : PA X (e :: es) ta)
    (hdb : (x == ("__debug__" : Str)) = false) (he : starEach (e :: es) X.env = (false, eval e X.env) :: starEach es X.env) (hpl : (backTo pos (starEach es X.env)).any (·.1) = false) :
    PE X (.Call (.Name x p) (e :: es) [] pos) (tVO C sp ta) := by
  refine ⟨fun pins s σ H Q I h => ?_⟩
  obtain ⟨nm, q, N, bs, bm, sn, sub, ab, col, dd, k0, k1, k2, k3, k5, hC, hbm⟩ := T.cls
  refine wpAny_Call_Name_kw (ld_glob I hg hm ?_ hdb)
  refine PySem.W.callWith_K (h₀ := X.base) I.ok.mod.kin T.kC (thn (ha.run pos pins s σ H _ I h) fun us s1 ⟨vs, H1, I1, r1, hz, q1⟩ => ⟨I1.kIn, ?_⟩) he hpl
  show wpAny _ _ (call (.ref C) us) _ _ _
  obtain ⟨hp, g, dr, tk, os⟩ := s1
  have hsz : hp.objs.size ≤ hp.objs.size + 1 := Nat.le_succ _
  have hn : H1 (hp.objs.size + 1) = none := I1.hok.fresh hsz
  have hq := q1 (hp.objs.size + 1) hn
  have kk : ∀ b o, hp.get? b = some o → ((hp.push (PySem.W.kdv_tup us)).push (PySem.HandSPX.excO C hp.objs.size)).get? b = some o := fun b o e => Heap.get?_push_of_some _ (Heap.get?_push_of_some _ e)
  have hget : ((hp.push (PySem.W.kdv_tup us)).push (PySem.HandSPX.excO C hp.objs.size)).get? (hp.objs.size + 1) = some (PySem.HandSPX.excO C hp.objs.size) := by heap_get
  have I2 : Inv X pins σ (upd H1 (hp.objs.size + 1) (exo (hp.objs.size + 1) C none)) ⟨(hp.push (PySem.W.kdv_tup us)).push (PySem.HandSPX.excO C hp.objs.size), g, dr, tk, os⟩ :=
    I1.laid (t' := tk) (a := hp.objs.size + 1) (o := exo (hp.objs.size + 1) C none) (h' := (hp.push (PySem.W.kdv_tup us)).push (PySem.HandSPX.excO C hp.objs.size)) kk hsz (exo_ok hget)
  have r2 : Vals (V.ref (hp.objs.size + 1) :: vs) (Value.ref (hp.objs.size + 1) :: us) := .cons rfl r1
  have hl : (Value.ref (hp.objs.size + 1) :: us).length = ps.length := by
    have e := r2.length
    rw [F1.len _ _ _ _ hq] at e
    exact e.symm
  have hus : us.length ≤ sizeLine := by
    rw [← Paired.length r1, sizeLine_eq]
    omega
  have b := hb ⟨(hp.push (PySem.W.kdv_tup us)).push (PySem.HandSPX.excO C hp.objs.size), g, dr, tk, os⟩ (Value.ref (hp.objs.size + 1) :: us) I2.kIn (by rw [List.append_nil]; exact hl)
  rw [List.append_nil] at b
  refine wpAny_call (PySem.HandSPX.call_own F.excBase_ValueError (fun Y => PySem.HandSPX.refsVE_contains Y bm hbm) (I1.kIn _ _ hC) (PySem.W.looks_findIn I1.kIn iC) (fun self => PySem.W.bind_fn I1.kIn self tI) hus
    (codeAny_mono (F1.run _ X.stack _ _ ⟨Value.ref (hp.objs.size + 1) :: us, []⟩ (Value.ref (hp.objs.size + 1) :: us) _ _ (fun _ _ _ => False) (hr.make C us []) (I2.env0.make C us []) b r2 hq) fun r s' hq' => ?_))
  cases r with
  | error er => exact hq'.elim
  | ok fl =>
    cases fl with
    | ret u =>
      obtain ⟨v, H2, os2, bare2, un2, hok2, rv, ev, d, fs, ea, ed, q2⟩ := hq'
      subst ev
      obtain ⟨h2, g2, d2, t2, os'⟩ := s'
      have J : Inv X pins σ H2 ⟨h2, g2, d2, t2, os'⟩ := I2.call' (ch := []) os2 un2 hok2 bare2 (fun b z => absurd z (by simp))
      obtain ⟨t0, hoe⟩ := exo_at J.hok ea
      obtain ⟨mA, hns, rel⟩ := exd_at J.hok ed
      have hda : d ≠ hp.objs.size + 1 := fun z => by
        obtain ⟨o, es, ep, e1, e2, _⟩ := hns
        rw [z, hoe] at e1
        have z2 := Option.some.inj e1
        subst z2
        cases e2
      have hd : ∃ o, h2.get? d = some o := by
        obtain ⟨o, _, _, e', _⟩ := hns
        exact ⟨o, e'⟩
      have J1 := J.write (t' := t2) (x := d) (e := d) (o := .xd fs) (h' := h2) (by rw [ed]; exact True.intro) (.inl rfl) (fun _ _ _ z => z) hd ⟨mA, hns, rel⟩
      have ea1 : upd H2 d (.xd fs) (hp.objs.size + 1) = some (exo (hp.objs.size + 1) C (some d)) := by rw [upd_ne (Ne.symm hda)]; exact ea
      have J2 := J1.write (t' := t2) (x := hp.objs.size + 1) (e := hp.objs.size + 1) (o := XO C (some d) (hp.objs.size + 1)) (h' := h2) (by rw [ea1]; exact True.intro) (.inl rfl) (fun _ _ _ z => z) ⟨_, hoe⟩ (xo_ok hoe ⟨rfl, rfl⟩ rfl)
      exact ⟨rv, .ref (hp.objs.size + 1), _, J2, rfl, q2⟩
    | next => exact False.elim hq'
    | brk => exact False.elim hq'
    | cont => exact False.elim hq'
end
/-- ints of data -/
def intsD : List D → Option (List Int)
  | [] => some []
  | .int i :: ds => (intsD ds).map (i :: ·)
  | _ :: _ => none
theorem intsD_reps {g : G} {F : Hp} {μ : List Addr} : ∀ {ds : List D} {is : List Int} {vs : List V}, intsD ds = some is → Reps g F μ ds vs → vs = is.map V.int
  | [], is, vs, e, h => by
    simp only [intsD, Option.some.injEq] at e
    subst e
    simpa [Reps] using h
  | d :: ds, is, vs, e, h => by
    cases d <;> simp only [intsD] at e <;> first | (cases e; done) | skip
    rename_i i
    obtain ⟨js, e1, rfl⟩ := Option.map_eq_some_iff.mp e
    simp only [Reps] at h
    obtain ⟨v, ws, rfl, h1, h2⟩ := h
    rw [h1.int, intsD_reps e1 h2]
    rfl
theorem intsD_len : ∀ {ds : List D} {is : List Int}, intsD ds = some is → ds = is.map D.int
  | [], is, e => by
    simp only [intsD, Option.some.injEq] at e
    subst e; rfl
  | d :: ds, is, e => by
    cases d <;> simp only [intsD] at e <;> first | (cases e; done) | skip
    obtain ⟨js, e1, rfl⟩ := Option.map_eq_some_iff.mp e
    rw [intsD_len e1]; rfl
/-- the class c, made with the fields fs -/
def excI (c : Str) (fs : List Str) (ds : List D) : M D := fun S => match intsD ds with
  | some is => if is.length = fs.length ∧ is.all (fun i => decide (i.natAbs.log2 < 1920)) = true ∧ is.length ≤ 1000 then .ok (.exc c fs.reverse (is.map D.int).reverse) S else .stuck
  | none => .stuck
def mExcI (c : Str) (fs : List Str) (fa : AM) : EM := fun ρ S => (fa ρ S).bind (excI c fs)
structure ExcIF (P : Program) (w : World) (K : PySem.W.Frag) (mg : Str → Option Value) (base : Heap) (c : Str) (fs : List Str) : Prop where
  ex : ∃ (C fI : Addr) (fd : FuncData) (ps : List Str), mg c = some (.ref C) ∧ OexC K C ∧ PySem.W.findIn K (.ref C) "__init__" = some (some (.ref fI)) ∧ PySem.W.typeIn K (.ref fI) = some (.type "function") ∧ FnOk P w K mg base L2.CX0 2 fI fd ps (spI K fs) ∧ Binds K fd ps [] ∧ ∀ f ∈ fs, PySem.W.findIn K (.ref C) f = some none
theorem upd_upd_ne {H : Hp} {a b : Addr} {o u : HO} (h : a ≠ b) : upd (upd H a o) b u = upd (upd H b u) a o := by
  funext x
  by_cases h1 : x = a
  · subst h1; rw [upd_ne h, upd_same, upd_same]
  · by_cases h2 : x = b
    · subst h2; rw [upd_same, upd_ne h1, upd_same]
    · rw [upd_ne h2, upd_ne h1, upd_ne h1, upd_ne h2]
section
variable {X : Cx} {W : WX} {c : Str} {e : Expr} {es : List Expr} {fe : EM} {fa : AM} {p pos : Pos} {fs : List Str}
theorem d_excI (F : ExcIF X.prog X.w X.K X.mg X.base c fs) (hr : Room 3 X.A) (ha : DA X W (e :: es) fa) (hg : Gl X c := by rfl) (hdb : (c == ("__debug__" : Str)) = false := by decide)
    (he : starEach (e :: es) X.env = (false, eval e X.env) :: starEach es X.env := by rfl) (hpl : (backTo pos (starEach es X.env)).any (·.1) = false := by rfl) : DE X W (.Call (.Name c p) (e :: es) [] pos) (mExcI c fs fa) := by
  obtain ⟨C, fI, fd, ps, hm, T, iC, tI, F1, hb, hno⟩ := F.ex
  refine PE.weak (pe_oexV T iC tI F1 hr hb hg hm ha hdb he hpl) fun σ H Q ⟨P, ρ, Fz, μ, S, en, rl, k⟩ => ?_
  refine tDA.run en rl (Fin.imp (Fin.bind (rep := repA (gX X)) k) (fun vs H1 ⟨ds, F1, μ1, S1, g1, r1, p1, k1⟩ => ?_) fun _ _ _ z => z)
  unfold excI at k1
  cases q : intsD ds with
  | none => rw [q] at k1; exact k1.elim
  | some is =>
    rw [q] at k1
    simp only at k1
    split at k1
    · rename_i hc
      have ev := intsD_reps q p1
      subst ev
      refine ⟨by rw [List.length_map]; exact hc.2.2, fun a ha => ⟨a, C, is, rfl, hc.1, fun i hi => by simpa using List.all_eq_true.mp hc.2.1 i hi, T, hno, upd_same, fun dx H2 hdx hne h1 h2 h3 => ⟨rfl, dx, _, h1, h2, ?_⟩⟩⟩
      have hd1 : H1 dx = none := by rw [← hdx, upd_ne hne]
      obtain ⟨r2, g2⟩ := r1.froz (o := .xd (fs.reverse.zip (is.map V.int).reverse)) hd1
      have ha2 : upd H1 dx (.xd (fs.reverse.zip (is.map V.int).reverse)) a = none := by rw [upd_ne (Ne.symm hne)]; exact ha
      obtain ⟨r3, g3⟩ := r2.froz (o := XO C (some dx) a) ha2
      have eh : upd (upd H2 dx (.xd (fs.reverse.zip (is.map V.int).reverse))) a (XO C (some dx) a) = upd (upd H1 dx (.xd (fs.reverse.zip (is.map V.int).reverse))) a (XO C (some dx) a) := by
        funext b
        by_cases hb1 : b = a
        · subst hb1; rw [upd_same, upd_same]
        · rw [upd_ne hb1, upd_ne hb1]
          by_cases hb2 : b = dx
          · subst hb2; rw [upd_same, upd_same]
          · rw [upd_ne hb2, upd_ne hb2, h3 b hb1 hb2, upd_ne hb1]
      rw [eh]
      refine ((k1.gr g2).gr g3).here r3 ?_
      simp only [repD, Rep]
      refine ⟨a, C, some dx, (is.map V.int).reverse, rfl, hm, upd_same, .inr ⟨dx, rfl, by rw [upd_ne hne]; exact upd_same⟩, ?_, by simp [hc.1]⟩
      rw [← List.map_reverse, ← List.map_reverse]
      exact reps_ints _
    · exact k1.elim
end
end DL

/-! The data layer, 19: the __init__ of exception classes. -/
namespace DL
open PySem PySem.Spec PyProof.Rows L2
def bodyD : Stmt → List Stmt
  | .ClassDef (body := b) .. => b
  | _ => []
theorem log_text {i : Int} (h : i.natAbs.log2 < 1920) : (Str.ofString (toString i)).length ≤ 601 := by
  rw [PySem.ofString_length]
  refine int_text_length_le10 (a := i) (k := 600) (by decide) ?_
  have : i.natAbs < 2 ^ 1920 := by
    by_cases z : i.natAbs = 0
    · rw [z]; exact Nat.two_pow_pos _
    · exact (Nat.log2_lt z).mp h
  exact Nat.lt_of_lt_of_le this (by decide +kernel)
theorem tx0 {t0 : Str} (l0 : t0.length ≤ 1000) : (Str.empty ++ t0).length ≤ sizeLine := by
  rw [show sizeLine = 16777216 from rfl, Str.length_append]
  have : (Str.empty).length = 0 := rfl
  omega
theorem tx1 {t0 y : Str} (l0 : t0.length ≤ 1000) (h : y.length ≤ 601) : (Str.empty ++ t0 ++ y).length ≤ sizeLine := by
  rw [show sizeLine = 16777216 from rfl, Str.length_append, Str.length_append]
  have : (Str.empty).length = 0 := rfl
  omega
theorem tx2 {t0 y t1 : Str} (l0 : t0.length ≤ 1000) (h : y.length ≤ 601) (l1 : t1.length ≤ 1000) : (Str.empty ++ t0 ++ y ++ t1).length ≤ sizeLine := by
  rw [show sizeLine = 16777216 from rfl, Str.length_append, Str.length_append, Str.length_append]
  have : (Str.empty).length = 0 := rfl
  omega
theorem tx3 {t0 y t1 z : Str} (l0 : t0.length ≤ 1000) (h : y.length ≤ 601) (l1 : t1.length ≤ 1000) (h2 : z.length ≤ 601) : (Str.empty ++ t0 ++ y ++ t1 ++ z).length ≤ sizeLine := by
  rw [show sizeLine = 16777216 from rfl, Str.length_append, Str.length_append, Str.length_append, Str.length_append]
  have : (Str.empty).length = 0 := rfl
  omega
/-- the module's name x is an own class whose __init__ is ValueError's -/
structure BaseI (K : PySem.W.Frag) (mg : Str → Option Value) (x : Str) : Prop where
  ex : ∃ CS, mg x = some (.ref CS) ∧ PySem.W.specialIn K (.ref CS) "__getattribute__" = some (some (.builtin "type.__getattribute__")) ∧ PySem.W.readsIn K CS (.type "type") = true ∧ PySem.W.findCls K (.ref CS) (.type "type") "__init__" = some (.val (.builtin "ValueError.__init__"))
def BaseK (K : PySem.W.Frag) (x : Str) : Prop := ∃ CS, PySem.W.nsIn K mainGlobals x = some (some (.ref CS)) ∧ PySem.W.specialIn K (.ref CS) "__getattribute__" = some (some (.builtin "type.__getattribute__")) ∧ PySem.W.readsIn K CS (.type "type") = true ∧ PySem.W.findCls K (.ref CS) (.type "type") "__init__" = some (.val (.builtin "ValueError.__init__"))
theorem baseK {K : PySem.W.Frag} {x : Str} {CS : Addr} (a : PySem.W.nsIn K mainGlobals x = some (some (.ref CS))) (b : PySem.W.specialIn K (.ref CS) "__getattribute__" = some (some (.builtin "type.__getattribute__"))) (c : PySem.W.readsIn K CS (.type "type") = true) (d : PySem.W.findCls K (.ref CS) (.type "type") "__init__" = some (.val (.builtin "ValueError.__init__"))) : BaseK K x := ⟨CS, a, b, c, d⟩
theorem BaseK.get {K : PySem.W.Frag} {h : Heap} {mg : Str → Option Value} {x : Str} (d : BaseK K x) (X : K.In h) (G : h.Ns mainGlobals mg) : BaseI K mg x := by
  obtain ⟨C, a, r⟩ := d
  exact ⟨C, PySem.W.mg_of X G a, r⟩
/-- an own exception class with an own __init__, as the top has left it -/
def InitK (K : PySem.W.Frag) (c qual : Str) (st : Stmt) (fs : List Str) : Prop := ∃ (C fI : Addr) (oc : Value) (od : Option Addr) (kV doc pm : Value) (an : Option Addr) (cdv ct : Value) (osl : Array (Option Value)),
  PySem.W.nsIn K mainGlobals c = some (some (.ref C)) ∧ OexC K C ∧ PySem.W.findIn K (.ref C) "__init__" = some (some (.ref fI)) ∧ PySem.W.typeIn K (.ref fI) = some (.type "function") ∧
  K.lookup fI = some ⟨oc, od, .func (PySem.W.fnOf "__init__" qual (defArgs st) (defBody st) (defScope st) .none kV doc pm an cdv ct), osl⟩ ∧ PySem.W.codeIn K cdv qual = true ∧ PySem.W.keepIn K (.ref fI) = true ∧ Each (fun f => PySem.W.findIn K (.ref C) f = some none) fs
theorem oexC {K : PySem.W.Frag} {C : Addr} {nm q : Str} {N : Addr} {bs bm : List Value} {sn : List Str} {sub : List Value} {ab : Bool} {col : Option Bool} {dd : Option Addr} {k0 k1 k2 k3 k5 : Option Value}
    (l : K.lookup C = some (excClassObj nm q C N bs bm true sn sub ab col dd k0 k1 k2 k3 k5 "ValueError.__new__")) (r : PySem.HandSPX.refsVE bm = true) (a : PySem.W.findIn K (.ref C) "__setattr__" = some (some (.builtin "object.__setattr__"))) (b : PySem.W.subIn K (.ref C) (.type "BaseException") = some true) (c : PySem.W.typeIn K (.ref C) = some (.type "type")) (d : PySem.W.keepIn K (.ref C) = true) : OexC K C :=
  ⟨⟨nm, q, N, bs, bm, sn, sub, ab, col, dd, k0, k1, k2, k3, k5, l, r⟩, a, b, c, d⟩
/-- one field -/
theorem read_1 {K : PySem.W.Frag} {a C : Addr} {is : List Int} {H : Hp} {Q : VK} {vs : List V} {f1 t0 : Str} {N : List Str} (l0 : t0.length ≤ 1000) (e : vs = .ref a :: is.map V.int) (hl : is.length = [f1].length) (hb : ∀ i ∈ is, i.natAbs.log2 < 1920) (T : OexC K C) (hno : ∀ f ∈ [f1], PySem.W.findIn K (.ref C) f = some none) (ha : H a = some (exo a C none))
    (k : ∀ (dx : Addr) (H2 : Hp), H dx = none → dx ≠ a → H2 a = some (exo a C (some dx)) → H2 dx = some (exd dx ([f1].reverse.zip (is.map V.int).reverse)) → (∀ b, b ≠ a → b ≠ dx → H2 b = H b) → Q .non H2) :
    tSeq (tDrop (tVeI K (tCons (tVar 0) (tCons (fun σ H Q => tJs [tC (.str t0), tFmt (tVar 1)] Str.empty σ H fun out H1 => Q (.str out) H1) tNil)))) (tOst K f1 (tVar 0) (tVar 1)) { nx := fun _ H' => Q .non H', rt := Q } (start N vs) H := by
  obtain ⟨i, rfl⟩ : ∃ i, is = [i] := by
    match is, hl with
    | [i], _ => exact ⟨i, rfl⟩
  subst e
  have hi := hb i (by simp)
  have hti := log_text hi
  have s0 : (start N (V.ref a :: [i].map V.int))[0]? = some (some (.ref a)) := rfl
  have s1 : (start N (V.ref a :: [i].map V.int))[1]? = some (some (.int i)) := rfl
  refine ⟨_, s0, t0, rfl, tx0 l0, _, s1, .inr ⟨i, rfl, hi, _, rfl, tx1 l0 hti, ⟨a, C, [_], rfl, by simp, T, ha, ?_⟩⟩⟩
  exact ⟨_, s1, _, s0, a, C, rfl, T, hno f1 (by simp), .inl ⟨ha, fun dx h1 h2 => k dx _ h1 h2 upd_same (by rw [upd_ne h2, upd_same]; rfl) (fun b hb1 hb2 => by rw [upd_ne hb1, upd_ne hb2])⟩⟩
/-- two fields -/
theorem read_2 {K : PySem.W.Frag} {a C : Addr} {is : List Int} {H : Hp} {Q : VK} {vs : List V} {f1 f2 t0 t1 : Str} {N : List Str} (l0 : t0.length ≤ 1000) (l1 : t1.length ≤ 1000) (e : vs = .ref a :: is.map V.int) (hl : is.length = [f1, f2].length) (hb : ∀ i ∈ is, i.natAbs.log2 < 1920) (T : OexC K C) (hno : ∀ f ∈ [f1, f2], PySem.W.findIn K (.ref C) f = some none) (ha : H a = some (exo a C none))
    (k : ∀ (dx : Addr) (H2 : Hp), H dx = none → dx ≠ a → H2 a = some (exo a C (some dx)) → H2 dx = some (exd dx ([f1, f2].reverse.zip (is.map V.int).reverse)) → (∀ b, b ≠ a → b ≠ dx → H2 b = H b) → Q .non H2) :
    tSeq (tDrop (tVeI K (tCons (tVar 0) (tCons (fun σ H Q => tJs [tC (.str t0), tFmt (tVar 1), tC (.str t1), tFmt (tVar 2)] Str.empty σ H fun out H1 => Q (.str out) H1) tNil)))) (tSeq (tOst K f1 (tVar 0) (tVar 1)) (tOst K f2 (tVar 0) (tVar 2))) { nx := fun _ H' => Q .non H', rt := Q } (start N vs) H := by
  obtain ⟨i, j, rfl⟩ : ∃ i j, is = [i, j] := by
    match is, hl with
    | [i, j], _ => exact ⟨i, j, rfl⟩
  subst e
  have hi := hb i (by simp)
  have hj := hb j (by simp)
  have hti := log_text hi
  have htj := log_text hj
  have s0 : (start N (V.ref a :: [i, j].map V.int))[0]? = some (some (.ref a)) := rfl
  have s1 : (start N (V.ref a :: [i, j].map V.int))[1]? = some (some (.int i)) := rfl
  have s2 : (start N (V.ref a :: [i, j].map V.int))[2]? = some (some (.int j)) := rfl
  refine ⟨_, s0, t0, rfl, tx0 l0, _, s1, .inr ⟨i, rfl, hi, _, rfl, tx1 l0 hti, t1, rfl, tx2 l0 hti l1, _, s2, .inr ⟨j, rfl, hj, _, rfl, tx3 l0 hti l1 htj, ⟨a, C, [_], rfl, by simp, T, ha, ?_⟩⟩⟩⟩
  refine ⟨_, s1, _, s0, a, C, rfl, T, hno f1 (by simp), .inl ⟨ha, fun dx h1 h2 => ?_⟩⟩
  refine ⟨_, s2, _, s0, a, C, rfl, T, hno f2 (by simp), .inr ⟨dx, [(f1, .int i)], upd_same, by rw [upd_ne h2, upd_same], by simp, ?_⟩⟩
  exact k dx _ h1 h2 (by rw [upd_ne (Ne.symm h2), upd_same]) upd_same (fun b hb1 hb2 => by rw [upd_ne hb2, upd_ne hb1, upd_ne hb2])
end DL

/-! Plain laws, 1: one step of a mirror; sizes; fractions. -/
namespace DL
open PySem PySem.Spec PyProof.Rows L2

section
variable (ρ : Env) (S : Store)
@[simp] theorem x_var (i : Nat) : mVar i ρ S = match ρ[i]? with
  | some (some d) => .ok d S
  | _ => .stuck := rfl
@[simp] theorem x_c (d : D) : mC d ρ S = .ok d S := rfl
@[simp] theorem x_nil : mNil ρ S = .ok [] S := rfl
@[simp] theorem x_cons (f : EM) (r : AM) : mCons f r ρ S = (f ρ S).bind fun x S => (r ρ S).bind fun xs S => .ok (x :: xs) S := rfl
@[simp] theorem x_op (m : D → D → M D) (a b : EM) : mOp m a b ρ S = (a ρ S).bind fun x S => (b ρ S).bind fun y S => m x y S := rfl
@[simp] theorem x_toB (b : Bool) : toB (.bl b) S = .ok b S := rfl
@[simp] theorem x_b (f : EM) : mB f ρ S = (f ρ S).bind toB := rfl
@[simp] theorem x_un (m : D → M D) (a : EM) : mUn m a ρ S = (a ρ S).bind m := rfl
@[simp] theorem x_and (f h : BM) : mAnd f h ρ S = (f ρ S).bind fun b S => if b then h ρ S else .ok false S := rfl
@[simp] theorem x_or (f h : BM) : mOr f h ρ S = (f ρ S).bind fun b S => if b then .ok true S else h ρ S := rfl
@[simp] theorem x_not (f : BM) : mNot f ρ S = (f ρ S).bind fun b S => .ok (!b) S := rfl
@[simp] theorem x_andV (f h : EM) : mAndV f h ρ S = (f ρ S).bind fun d S => (toB d S).bind fun b S => if b then h ρ S else .ok (.bl false) S := rfl
@[simp] theorem x_orV (f h : EM) : mOrV f h ρ S = (f ρ S).bind fun d S => (toB d S).bind fun b S => if b then .ok (.bl true) S else h ρ S := rfl
@[simp] theorem x_notV (f : EM) : mNotV f ρ S = (f ρ S).bind fun d S => (toB d S).bind fun b S => .ok (.bl (!b)) S := rfl
@[simp] theorem x_if (c : BM) (f h : EM) : mIf c f h ρ S = (c ρ S).bind fun b S => if b then f ρ S else h ρ S := rfl
@[simp] theorem x_next : mNext ρ S = .go .nx ρ S := rfl
@[simp] theorem x_brk : mBreak ρ S = .go .bk ρ S := rfl
@[simp] theorem x_cont : mCont ρ S = .go .ct ρ S := rfl
@[simp] theorem x_seq (f h : SM) : mSeq f h ρ S = (f ρ S).then h := rfl
@[simp] theorem x_drop (f : EM) : mDrop f ρ S = (f ρ S).to ρ fun _ S => .go .nx ρ S := rfl
@[simp] theorem x_ret (f : EM) : mRet f ρ S = (f ρ S).to ρ fun d S => .go (.rt d) ρ S := rfl
@[simp] theorem x_retN : mRetN ρ S = .go (.rt .non) ρ S := rfl
@[simp] theorem x_ifS (c : BM) (f h : SM) : mIfS c f h ρ S = (c ρ S).to ρ fun b S => if b then f ρ S else h ρ S := rfl
@[simp] theorem x_gN (i : Nat) (d : D) : gN i d ρ S = some (ρ.set i (some d), S) := rfl
@[simp] theorem x_gNil : gNilM [] ρ S = some (ρ, S) := rfl
@[simp] theorem x_gCons (f : GM) (r : List D → Env → Store → Option (Env × Store)) (d : D) (ds : List D) : gConsM f r (d :: ds) ρ S = (f d ρ S).bind fun x => r ds x.1 x.2 := rfl
@[simp] theorem x_gTup (n : Nat) (r : List D → Env → Store → Option (Env × Store)) (l : List D) : gTupM n r (.tup l) ρ S = if l.length = n then r l ρ S else none := rfl
@[simp] theorem x_gTupW (n : Nat) (r : List D → Env → Store → Option (Env × Store)) (l : List D) : gTupM n r (.wt l) ρ S = if l.length = n then r l ρ S else none := rfl
@[simp] theorem x_gTupL (n : Nat) (r : List D → Env → Store → Option (Env × Store)) (l : List D) : gTupM n r (.lst l) ρ S = if l.length = n then r l ρ S else none := rfl
@[simp] theorem x_asg (f : EM) (g : GM) : mAsg f g ρ S = (f ρ S).to ρ fun d S => match g d ρ S with
  | some (ρ', S') => .go .nx ρ' S'
  | none => .stuck := rfl
@[simp] theorem x_par (i j : Nat) (a b : EM) : mPar i j a b ρ S = ((a ρ S).bind fun x S => (b ρ S).bind fun y S => .ok (x, y) S).to ρ fun z S => .go .nx ((ρ.set i (some z.1)).set j (some z.2)) S := rfl
@[simp] theorem x_aug (i : Nat) (m : D → D → M D) (f : EM) : mAug i m f ρ S = ((mVar i ρ S).bind fun x S => (f ρ S).bind fun y S => m x y S).to ρ fun z S => .go .nx (ρ.set i (some z)) S := rfl
@[simp] theorem x_call (n : Nat) (m : List D → M D) (a : AM) : mCall n m a ρ S = (a ρ S).bind fun ds S => if ds.length = n then m ds S else .stuck := rfl
@[simp] theorem x_tup (a : AM) : mTup a ρ S = (a ρ S).bind fun l S => if l.length ≤ sizeLine then .ok (.tup l) S else .stuck := rfl
@[simp] theorem x_lst (a : AM) : mLst a ρ S = (a ρ S).bind fun l S => if l.length ≤ sizeLine then .ok (.lst l) S else .stuck := rfl
@[simp] theorem x_new (a : AM) : mNew a ρ S = (a ρ S).bind fun l S => if l.length ≤ sizeLine then .ok (.ref S.length) (S ++ [.lst l]) else .stuck := rfl
@[simp] theorem x_frz (f : EM) : mFrz f ρ S = (f ρ S).bind frzD := rfl
@[simp] theorem x_cb (m : List D → M D) (a : AM) : mCB m a ρ S = (a ρ S).bind m := rfl
@[simp] theorem x_noP : mNoP ρ S = .ok none S := rfl
@[simp] theorem x_part (f : EM) (i : Int) (S' : Store) (h : f ρ S = .ok (.int i) S') (hi : -(2 ^ 62) ≤ i ∧ i < 2 ^ 62) : mPart f ρ S = .ok (some i) S' := by
  unfold mPart; rw [h]; simp only [R.bind_ok]
@[simp] theorem x_sl (f : EM) (l h : PM) : mSl f l h ρ S = (f ρ S).bind fun x S => (l ρ S).bind fun l S => (h ρ S).bind fun h S => slD x l h S := rfl
@[simp] theorem x_yes : mYes ρ S = .ok true S := rfl
@[simp] theorem x_it (f : EM) : mIt f ρ S = (f ρ S).bind itemsD := rfl
@[simp] theorem x_itT (l : List D) : itemsD (.tup l) S = .ok l S := rfl
@[simp] theorem x_itL (l : List D) : itemsD (.lst l) S = .ok l S := rfl
@[simp] theorem x_raise (c : Str) : mRaise c ρ S = .go (.ex (.exc c [] [])) ρ S := rfl
@[simp] theorem x_for (fi : IM) (gm : GM) (fb : SM) : mFor fi gm fb ρ S = (fi ρ S).to ρ fun ds S => mForL gm fb ds ρ S := rfl
@[simp] theorem x_range1 (j : Int) : mRange1 (mC (.int j)) ρ S = if -(2 ^ 62) ≤ j ∧ j < 2 ^ 62 then .ok (rangeL 0 j.toNat) S else .stuck := rfl
@[simp] theorem x_forNil (gm : GM) (fb : SM) : mForL gm fb [] ρ S = .go .nx ρ S := rfl
@[simp] theorem x_lc (fin : List D → M D) (vs : List Nat) (fi : IM) (gm : GM) (tt : BM) (te : EM) : mLcF fin vs fi gm tt te ρ S = (fi ρ S).bind fun ds S => if ds.length ≤ sizeLine then (mLcL gm tt te (wipeD ρ vs) ds S).bind fin else .stuck := rfl
@[simp] theorem x_fun (n : Nat) (b : SM) (ds : List D) : mFun n b ds S = match b (start0 n ds) S with
  | .go .nx _ S => .ok .non S
  | .go (.rt d) _ S => .ok d S
  | .go (.ex e) _ S => .exn e S
  | _ => .stuck := rfl
@[simp] theorem x_add (i j : Int) : addD (.int i) (.int j) S = .ok (.int (i + j)) S := rfl
@[simp] theorem x_addB (i : Int) (j : Bool) : addD (.int i) (.bl j) S = .ok (.int (i + b2 j)) S := rfl
@[simp] theorem x_sub (i j : Int) : subD (.int i) (.int j) S = .ok (.int (i - j)) S := rfl
@[simp] theorem x_subB (i j : Bool) : subD (.bl i) (.bl j) S = .ok (.int (b2 i - b2 j)) S := rfl
@[simp] theorem x_mul (i j : Int) : mulD (.int i) (.int j) S = if i.natAbs.log2 + j.natAbs.log2 < 1000000 then .ok (.int (i * j)) S else .stuck := rfl
@[simp] theorem x_fdiv (i j : Int) : fdivD (.int i) (.int j) S = if j ≠ 0 ∧ j.natAbs.log2 < 9000 then .ok (.int (i.fdiv j)) S else .stuck := rfl
@[simp] theorem x_mod (i j : Int) : modD (.int i) (.int j) S = if j ≠ 0 then .ok (.int (i.fmod j)) S else .stuck := rfl
@[simp] theorem x_pow (i j : Int) : powD (.int i) (.int j) S = if 0 ≤ j ∧ j ≤ 1000000 ∧ i.natAbs < 2 ^ 64 then .ok (.int (i ^ j.toNat)) S else .stuck := rfl
@[simp] theorem x_neg (i : Int) : negD (.int i) S = .ok (.int (-i)) S := rfl
@[simp] theorem x_cmp (p : Int → Int → Bool) (i j : Int) : cmpD p (.int i) (.int j) S = .ok (.bl (p i j)) S := rfl
@[simp] theorem x_abs (i : Int) : absD (.int i) S = .ok (.int (if i < 0 then -i else i)) S := rfl
@[simp] theorem x_lenL (l : List D) : lenD (.lst l) S = .ok (.int l.length) S := rfl
@[simp] theorem x_lenT (l : List D) : lenD (.tup l) S = .ok (.int l.length) S := rfl
@[simp] theorem x_tupL (l : List D) : tupleD (.lst l) S = .ok (.tup l) S := rfl
@[simp] theorem x_tupT (l : List D) : tupleD (.tup l) S = .ok (.tup l) S := rfl
@[simp] theorem x_listL (l : List D) : listD (.lst l) S = .ok (.lst l) S := rfl
@[simp] theorem x_listT (l : List D) : listD (.tup l) S = .ok (.lst l) S := rfl
@[simp] theorem x_eqI (i j : Int) : eqD (.int i) (.int j) S = .ok (.bl (i == j)) S := rfl
@[simp] theorem x_neI (i j : Int) : neD (.int i) (.int j) S = .ok (.bl (!(i == j))) S := rfl
@[simp] theorem x_isN (d : D) : isND d .non S = .ok (.bl (isNon d)) S := rfl
@[simp] theorem x_notN (d : D) : notND d .non S = .ok (.bl (!isNon d)) S := rfl
@[simp] theorem x_ixT (l : List D) (i : Int) : ixD (.tup l) (.int i) S = match atI l i with
  | some d => .ok d S
  | none => .stuck := rfl
@[simp] theorem x_ixL (l : List D) (i : Int) : ixD (.lst l) (.int i) S = match atI l i with
  | some d => .ok d S
  | none => .stuck := rfl
end
theorem atI_nat {α : Type} (l : List α) (i : Nat) : atI l (i : Int) = l[i]? := by
  unfold atI ixN
  by_cases h : i < l.length
  · rw [if_pos (by omega), if_pos (by omega)]; rfl
  · rw [if_pos (by omega), if_neg (by omega), List.getElem?_eq_none (by omega)]; rfl
@[simp] theorem atI_0 {α : Type} (x : α) (l : List α) : atI (x :: l) 0 = some x := atI_nat _ 0
@[simp] theorem atI_1 {α : Type} (x y : α) (l : List α) : atI (x :: y :: l) 1 = some y := atI_nat _ 1
@[simp] theorem atI_2 {α : Type} (x y z : α) (l : List α) : atI (x :: y :: z :: l) 2 = some z := atI_nat _ 2
@[simp] theorem atI_3 {α : Type} (x y z t : α) (l : List α) : atI (x :: y :: z :: t :: l) 3 = some t := atI_nat _ 3
@[simp] theorem b2_t : b2 true = 1 := rfl
@[simp] theorem b2_f : b2 false = 0 := rfl
@[simp] theorem start_def (n : Nat) (ds : List D) : start0 n ds = ds.map some ++ List.replicate (n - ds.length) none := rfl

/-! ### sizes -/
def Sz (n : Nat) (z : Int) : Prop := z.natAbs < 2 ^ n
theorem Sz.mono {m n : Nat} {z : Int} (h : Sz n z) (k : n ≤ m) : Sz m z := Nat.lt_of_lt_of_le h (Nat.pow_le_pow_right (by decide) k)
theorem Sz.mul {m n : Nat} {x y : Int} (h : Sz m x) (k : Sz n y) : Sz (m + n) (x * y) := by
  unfold Sz at *
  rw [Int.natAbs_mul, Nat.pow_add]
  exact Nat.mul_lt_mul'' h k
theorem Sz.add {n : Nat} {x y : Int} (h : Sz n x) (k : Sz n y) : Sz (n + 1) (x + y) := by
  unfold Sz at *
  rw [Nat.pow_succ]; omega
theorem Sz.sub {n : Nat} {x y : Int} (h : Sz n x) (k : Sz n y) : Sz (n + 1) (x - y) := by
  unfold Sz at *
  rw [Nat.pow_succ]; omega
theorem Sz.neg {n : Nat} {x : Int} (h : Sz n x) : Sz n (-x) := by
  unfold Sz at *
  omega
theorem Sz.log2 {n : Nat} {x : Int} (h : Sz n x) : x.natAbs.log2 ≤ n := by
  by_cases z : x.natAbs = 0
  · rw [z]; simp
  · exact Nat.le_of_lt ((Nat.log2_lt z).mpr h)
theorem Sz.log2' {n : Nat} {x : Int} (h : Sz n x) (hn : 0 < n) : x.natAbs.log2 < n := by
  by_cases z : x.natAbs = 0
  · rw [z]; simpa using hn
  · exact (Nat.log2_lt z).mpr h
theorem mul_ok {m n : Nat} {x y : Int} (S : Store) (h : Sz m x) (k : Sz n y) (hn : m + n < 1000000) : mulD (.int x) (.int y) S = .ok (.int (x * y)) S := by
  rw [x_mul, if_pos]
  have := h.log2; have := k.log2; omega
theorem fdiv_ok {n : Nat} {x y : Int} (S : Store) (h : Sz n y) (hn : n < 9000) (h0 : y ≠ 0) : fdivD (.int x) (.int y) S = .ok (.int (x.fdiv y)) S := by
  rw [x_fdiv, if_pos]
  have := h.log2
  exact ⟨h0, by omega⟩
theorem mod_ok {x y : Int} (S : Store) (h0 : y ≠ 0) : modD (.int x) (.int y) S = .ok (.int (x.fmod y)) S := by
  rw [x_mod, if_pos h0]

/-! ### Euclid -/
theorem fmod_lt {x y : Int} (h : y ≠ 0) : (x.fmod y).natAbs < y.natAbs := by
  rcases Int.lt_or_gt_of_ne h with h | h
  · have e : x.fmod y = -((-x).fmod (-y)) := by
      rw [Int.fmod_def, Int.fmod_def, Int.neg_fdiv_neg, Int.neg_mul]; omega
    have h1 := Int.fmod_lt_of_pos (-x) (b := -y) (by omega)
    have h2 := Int.fmod_nonneg_of_pos (-x) (b := -y) (by omega)
    omega
  · have h1 := Int.fmod_lt_of_pos x h
    have h2 := Int.fmod_nonneg_of_pos x h
    omega
theorem fmod_gcd (x y : Int) : Int.gcd y (x.fmod y) = Int.gcd x y := by
  rw [Int.fmod_def, Int.gcd_sub_mul_left_right, Int.gcd_comm]
def euB (i j : Nat) : SM := mPar i j (mVar j) (mOp modD (mVar i) (mVar j))
def euC (j : Nat) : BM := mB (mOp neD (mVar j) (mC (.int 0)))
theorem eu_loop {i j : Nat} (hij : i ≠ j) : ∀ (n : Nat) (ρ : Env) (x y : Int) (S : Store), ρ[i]? = some (some (.int x)) → ρ[j]? = some (some (.int y)) → y.natAbs ≤ n →
    ∃ g : Int, mWhile (mB (mOp neD (mVar j) (mC (.int 0)))) (mPar i j (mVar j) (mOp modD (mVar i) (mVar j))) ρ S = .go .nx ((ρ.set i (some (.int g))).set j (some (.int 0))) S ∧ g.natAbs = Int.gcd x y ∧ (0 ≤ x → 0 ≤ y → 0 ≤ g) := by
  intro n
  induction n with
  | zero =>
    intro ρ x y S hi hj hy
    have hy0 : y = 0 := by omega
    subst hy0
    refine ⟨x, ?_, by simp, fun h _ => h⟩
    rw [mWhile_eq]
    simp [hj]
    have : (ρ.set i (some (D.int x))).set j (some (D.int 0)) = ρ := by
      apply List.ext_getElem?
      intro k
      by_cases h1 : j = k
      · subst h1
        have := (List.getElem?_eq_some_iff.mp hj).1
        rw [List.getElem?_set_self (by simpa using this), hj]
      · rw [List.getElem?_set_ne h1]
        by_cases h2 : i = k
        · subst h2
          have := (List.getElem?_eq_some_iff.mp hi).1
          rw [List.getElem?_set_self this, hi]
        · rw [List.getElem?_set_ne h2]
    rw [this]
  | succ n ih =>
    intro ρ x y S hi hj hy
    by_cases hy0 : y = 0
    · subst hy0
      exact ih ρ x 0 S hi hj (by simp)
    · have hil := (List.getElem?_eq_some_iff.mp hi).1
      have hjl := (List.getElem?_eq_some_iff.mp hj).1
      have hl := fmod_lt (x := x) hy0
      obtain ⟨g, h1, h2, h3⟩ := ih ((ρ.set i (some (.int y))).set j (some (.int (x.fmod y)))) y (x.fmod y) S
        (by rw [List.getElem?_set_ne (Ne.symm hij), List.getElem?_set_self hil]) (by rw [List.getElem?_set_self (by simpa using hjl)]) (by omega)
      refine ⟨g, ?_, by rw [h2, fmod_gcd], fun hx hyy => h3 hyy (Int.fmod_nonneg_of_pos x (by omega))⟩
      rw [mWhile_eq]
      simp [hj, hi, hy0]
      rw [h1]
      congr 1
      rw [List.set_comm _ _ hij, List.set_set, List.set_comm _ _ (Ne.symm hij), List.set_set]
end DL

/-! Plain laws, 2: fractions as rationals. -/
namespace DL
open PySem PySem.Spec PyProof.Rows L2

/-- the pair that stands for a rational -/
def fr (q : Rat) : D := .tup [.int q.num, .int q.den]
def RS (n : Nat) (q : Rat) : Prop := Sz n q.num ∧ q.den < 2 ^ n
theorem RS.mono {m n : Nat} {q : Rat} (h : RS m q) (k : m ≤ n) : RS n q := ⟨h.1.mono k, Nat.lt_of_lt_of_le h.2 (Nat.pow_le_pow_right (by decide) k)⟩
theorem RS.den {m : Nat} {q : Rat} (h : RS m q) : Sz m (q.den : Int) := by
  unfold Sz; simpa using h.2
theorem den_ne (q : Rat) : (q.den : Int) ≠ 0 := by have := q.den_nz; omega
theorem den_pos (q : Rat) : (0 : Int) < q.den := by have := q.den_nz; omega
theorem divInt_parts {t b g : Int} (hb : b ≠ 0) (hg : g.natAbs = Int.gcd t b) (h1 : 0 < b → 0 ≤ g) (h2 : b < 0 → g ≤ 0) :
    g ≠ 0 ∧ t.fdiv g = (Rat.divInt t b).num ∧ b.fdiv g = ((Rat.divInt t b).den : Int) := by
  have hgc : Int.gcd t b ≠ 0 := by
    intro z
    exact hb (Int.gcd_eq_zero_iff.mp z).2
  have g0 : g ≠ 0 := by omega
  have dt : ((Int.gcd t b : Nat) : Int) ∣ t := Int.gcd_dvd_left t b
  have db : ((Int.gcd t b : Nat) : Int) ∣ b := Int.gcd_dvd_right t b
  refine ⟨g0, ?_, ?_⟩
  · rw [Rat.num_divInt, Int.gcd_comm b t]
    rcases Int.lt_or_gt_of_ne hb with h | h
    · have e : g = -((Int.gcd t b : Nat) : Int) := by have := h2 h; omega
      rw [Int.sign_eq_neg_one_of_neg h, e, Int.fdiv_eq_ediv_of_dvd (by rw [Int.neg_dvd]; exact dt), Int.ediv_neg, ← Int.neg_ediv_of_dvd dt, Int.neg_one_mul]
    · have e : g = ((Int.gcd t b : Nat) : Int) := by have := h1 h; omega
      rw [Int.sign_eq_one_of_pos h, e, Int.fdiv_eq_ediv_of_dvd dt, Int.one_mul]
  · rw [Rat.den_divInt, if_neg hb, Int.gcd_comm b t]
    rcases Int.lt_or_gt_of_ne hb with h | h
    · have e : g = -((Int.gcd t b : Nat) : Int) := by have := h2 h; omega
      have eb : b = -((b.natAbs : Nat) : Int) := by omega
      rw [e, Int.fdiv_eq_ediv_of_dvd (by rw [Int.neg_dvd]; exact db), Int.ediv_neg, ← Int.neg_ediv_of_dvd db]
      rw [Int.natCast_ediv]
      congr 1; omega
    · have e : g = ((Int.gcd t b : Nat) : Int) := by have := h1 h; omega
      rw [e, Int.fdiv_eq_ediv_of_dvd db, Int.natCast_ediv]
      congr 1; omega
theorem RS.divInt {n : Nat} {t b : Int} (ht : Sz n t) (hb : Sz n b) (hn : 0 < n) : RS n (Rat.divInt t b) := by
  constructor
  · unfold Sz at *
    rw [Rat.num_divInt]
    refine Nat.lt_of_le_of_lt ?_ ht
    rw [Int.natAbs_ediv_of_dvd]
    · refine Nat.le_trans (Nat.div_le_self _ _) ?_
      rw [Int.natAbs_mul]
      have : b.sign.natAbs ≤ 1 := by
        rw [Int.natAbs_sign]; split <;> omega
      calc b.sign.natAbs * t.natAbs ≤ 1 * t.natAbs := Nat.mul_le_mul_right _ this
        _ = t.natAbs := Nat.one_mul _
    · exact Int.dvd_mul_of_dvd_right (Int.gcd_dvd_right b t)
  · rw [Rat.den_divInt]
    split
    · exact Nat.one_lt_two_pow (by omega)
    · exact Nat.lt_of_le_of_lt (Nat.div_le_self _ _) hb
theorem add_eq (q r : Rat) : Rat.divInt (q.num * r.den + r.num * q.den) (q.den * r.den) = q + r := by
  rw [← Rat.divInt_add_divInt _ _ (den_ne q) (den_ne r), Rat.num_divInt_den, Rat.num_divInt_den]
theorem sub_eq (q r : Rat) : Rat.divInt (q.num * r.den - r.num * q.den) (q.den * r.den) = q - r := by
  rw [← Rat.divInt_sub_divInt _ _ (den_ne q) (den_ne r), Rat.num_divInt_den, Rat.num_divInt_den]
theorem mul_eq (q r : Rat) : Rat.divInt (q.num * r.num) (q.den * r.den) = q * r := by
  rw [← Rat.divInt_mul_divInt, Rat.num_divInt_den, Rat.num_divInt_den]
theorem div_eq (q r : Rat) : Rat.divInt (q.num * r.den) (q.den * r.num) = q / r := by
  rw [← Rat.divInt_mul_divInt, Rat.num_divInt_den, Rat.div_def, Rat.inv_def]
theorem neg_fr (q : Rat) : D.tup [.int (-q.num), .int q.den] = fr (-q) := by
  unfold fr; rw [Rat.neg_num, Rat.neg_den]
@[simp] theorem ix_fr0 (q : Rat) (S : Store) : ixD (fr q) (.int 0) S = .ok (.int q.num) S := rfl
@[simp] theorem ix_fr1 (q : Rat) (S : Store) : ixD (fr q) (.int 1) S = .ok (.int q.den) S := rfl
theorem RS.neg {n : Nat} {q : Rat} (h : RS n q) : RS n (-q) := by
  unfold RS; rw [Rat.neg_num, Rat.neg_den]; exact ⟨h.1.neg, h.2⟩
theorem RS.add {m n : Nat} {q r : Rat} (h : RS m q) (k : RS n r) : RS (m + n + 1) (q + r) := by
  rw [← add_eq]
  refine RS.divInt ((h.1.mul k.den).add ((k.1.mul h.den).mono (by omega))) ((h.den.mul k.den).mono (by omega)) (by omega)
theorem RS.sub {m n : Nat} {q r : Rat} (h : RS m q) (k : RS n r) : RS (m + n + 1) (q - r) := by
  rw [← sub_eq]
  refine RS.divInt ((h.1.mul k.den).sub ((k.1.mul h.den).mono (by omega))) ((h.den.mul k.den).mono (by omega)) (by omega)
theorem RS.pos {n : Nat} {q : Rat} (h : RS n q) : 0 < n := by
  have h1 := h.2
  have h2 := q.den_nz
  rcases Nat.eq_zero_or_pos n with z | z
  · subst z; simp at h1; omega
  · exact z
theorem RS.mul {m n : Nat} {q r : Rat} (h : RS m q) (k : RS n r) : RS (m + n) (q * r) := by
  rw [← mul_eq]
  exact RS.divInt (h.1.mul k.1) (h.den.mul k.den) (by have := h.pos; omega)
theorem RS.div {m n : Nat} {q r : Rat} (h : RS m q) (k : RS n r) : RS (m + n) (q / r) := by
  rw [← div_eq]
  exact RS.divInt (h.1.mul k.den) (h.den.mul k.1) (by have := h.pos; omega)
theorem RS.zero : RS 1 0 := by
  refine ⟨?_, ?_⟩ <;> simp [Sz] <;> decide
theorem RS.int {n : Nat} {z : Int} (h : Sz n z) (hn : 0 < n) : RS n (z : Rat) := by
  refine ⟨?_, ?_⟩
  · simpa using h
  · simp; omega
end DL

/-! Plain laws, 3: what is shown, what is equal. -/
namespace DL
open PySem PySem.Spec PyProof.Rows L2

mutual
/-- all ints of a datum are less than n bits long -/
def szD (n : Nat) : D → Prop
  | .int i => Sz n i
  | .tup l => szDs n l
  | .lst l => szDs n l
  | _ => True
def szDs (n : Nat) : List D → Prop
  | [] => True
  | d :: ds => szD n d ∧ szDs n ds
end
theorem pow_digits : 2 ^ 14000 ≤ 10 ^ 4300 := by decide +kernel
mutual
theorem shw_few : ∀ (d : D) (n : Nat), szD 14000 d → plain n d = true → fewB (toPy d) = true ∧ (toPy d).leavesShort 4301 = true
  | .non, _, _, _ => ⟨rfl, rfl⟩
  | .bl _, _, _, _ => ⟨rfl, rfl⟩
  | .int i, _, h, _ => by
    simp only [szD] at h
    have h1 : i.natAbs < 10 ^ 4300 := Nat.lt_of_lt_of_le h pow_digits
    refine ⟨by simp only [toPy, fewB]; exact decide_eq_true h1, ?_⟩
    simp only [toPy, PyData.leavesShort]
    refine decide_eq_true ?_
    have e := int_text_length_le10 (a := i) (k := 4300) (by decide) h1
    show (Str.ofString (toString i)).length ≤ 4301
    rw [PySem.ofString_length]; exact e
  | .str x, _, _, h => by
    refine ⟨rfl, ?_⟩
    have hx : PyData.strOk x = true := by simpa [plain] using h
    have := PyData.leavesShort_of_canLay0 4301 (.str x) (by simpa [PyData.canLay0] using hx) rfl
    simpa [toPy] using this
  | .tup l, 0, _, hp => by simp [plain] at hp
  | .tup l, n + 1, h, hp => by
    simp only [szD] at h
    simp only [plain] at hp
    simpa [toPy, fewB, PyData.leavesShort] using shws_few l n h hp
  | .lst l, 0, _, hp => by simp [plain] at hp
  | .lst l, n + 1, h, hp => by
    simp only [szD] at h
    simp only [plain] at hp
    simpa [toPy, fewB, PyData.leavesShort] using shws_few l n h hp
  | .wt .., _, _, hp => by simp [plain] at hp
  | .obj .., _, _, hp => by simp [plain] at hp
  | .exc .., _, _, hp => by simp [plain] at hp
  | .ref .., _, _, hp => by simp [plain] at hp
theorem shws_few : ∀ (ds : List D) (n : Nat), szDs 14000 ds → plains n ds = true → fewsB (toPys ds) = true ∧ PyData.leavesShortAll 4301 (toPys ds) = true
  | [], _, _, _ => ⟨rfl, rfl⟩
  | d :: ds, n, h, hp => by
    simp only [szDs] at h
    simp only [plains, Bool.and_eq_true] at hp
    have h1 := shw_few d n h.1 hp.1
    have h2 := shws_few ds n h.2 hp.2
    simp [toPys, fewsB, PyData.leavesShortAll, h1, h2]
end
/-- a datum that repr shows -/
structure Shw (d : D) : Prop where
  p : plain 63 d = true
  s : fewB (toPy d) = true
  l : (toPy d).shown.length ≤ sizeLine
theorem shw_of {d : D} (hp : plain 63 d = true) (hs : szD 14000 d) (hb : (toPy d).bulk ≤ 3800) : Shw d := by
  obtain ⟨h1, h2⟩ := shw_few d 63 hs hp
  refine ⟨hp, h1, ?_⟩
  have := PyData.shown_le_bulk 4301 (by decide) _ h2
  have e : sizeLine = 16777216 := rfl
  have : (4301 + 2) * (toPy d).bulk ≤ 4303 * 3800 := Nat.mul_le_mul_left _ hb
  omega
theorem der_plain {d : D} {n : Nat} (S : Store) (h : plain n d = true) : derD d S = d := by
  cases d <;> first | rfl | (simp [plain] at h)
theorem repr_ok {d : D} (S : Store) (h : Shw d) : reprD d S = .ok (.str (toPy d).shown) S := by
  unfold reprD
  rw [der_plain S h.p]
  simp [h.p, h.s, h.l]
/-- equal texts -/
theorem eq_str (x y : Str) (S : Store) : eqD (.str x) (.str y) S = .ok (.bl (x == y)) S := rfl
theorem shw_fr {n : Nat} {q : Rat} (h : RS n q) (hn : n ≤ 14000) : Shw (fr q) :=
  shw_of rfl (by simp only [fr, szD, szDs]; exact ⟨h.1.mono hn, h.den.mono hn, trivial⟩) (by simp [fr, toPy, toPys, PyData.bulk, PyData.bulkAll])
theorem shw_pt {m n : Nat} {q r : Rat} (h : RS m q) (k : RS n r) (hm : m ≤ 14000) (hn : n ≤ 14000) : Shw (.tup [fr q, fr r]) :=
  shw_of rfl (by simp only [fr, szD, szDs]; exact ⟨⟨h.1.mono hm, h.den.mono hm, trivial⟩, ⟨k.1.mono hn, k.den.mono hn, trivial⟩, trivial⟩) (by simp [fr, toPy, toPys, PyData.bulk, PyData.bulkAll])
end DL

/-! Plain laws, 4: steps of exceptions, of methods. -/
namespace DL
open PySem PySem.Spec PyProof.Rows L2
section
variable (ρ : Env) (S : Store)
@[simp] theorem x_met (ok : D → Store → Bool) (m : D → List D → M D) (fo : EM) (fa : AM) : mMet ok m fo fa ρ S = (fo ρ S).bind fun o S => if ok o S then (fa ρ S).bind fun ds S => m o ds S else .stuck := rfl
@[simp] theorem x_metA (ok : D → Store → Bool) (m : D → List D → M D) (fo : EM) (fa : AM) : mMetA ok m fo fa ρ S = (fo ρ S).bind fun o S => if ok o S then (fa ρ S).bind fun ds S => if ok o S then m o ds S else .stuck else .stuck := rfl
@[simp] theorem x_is (T : String) (tab : List (Str × Bool)) (fe : EM) : mIs T tab fe ρ S = (fe ρ S).bind (isD T tab) := rfl
@[simp] theorem x_isC (tab : List (Str × Bool)) (fe : EM) : mIsC tab fe ρ S = (fe ρ S).bind (isC tab) := rfl
@[simp] theorem x_isCe (tab : List (Str × Bool)) (c : Str) (ns : List Str) (ds : List D) : isC tab (.exc c ns ds) S = match tab.lookup c with
  | some b => .ok (.bl b) S
  | none => .stuck := rfl
@[simp] theorem x_isDe (T : String) (tab : List (Str × Bool)) (c : Str) (ns : List Str) (ds : List D) : isD T tab (.exc c ns ds) S = match tab.lookup c with
  | some b => .ok (.bl b) S
  | none => .stuck := rfl
@[simp] theorem x_xf (cs : List Str) (f : Str) (fe : EM) : mXfC cs f fe ρ S = (fe ρ S).bind (xfC cs f) := rfl
@[simp] theorem x_try (cs : List Str) (i j : Nat) (b : SM) : mTryK cs i j b ρ S = match b ρ S with
  | .go (.ex (.exc c ns ds)) ρ' S' => if cs.contains c && decide (i < ρ'.length) then .go .nx (((ρ'.set i (some (.exc c ns ds))).set j (some (.exc c ns ds))).set i none) S' else .stuck
  | .go (.ex _) _ _ => .stuck
  | o => o := rfl
end
/-- the store has grown, what was there (but for u) stands -/
structure Ext (u : Nat) (S S' : Store) : Prop where
  len : S.length ≤ S'.length
  at_ : ∀ n, n < S.length → n ≠ u → S'[n]? = S[n]?
theorem Ext.refl (u : Nat) (S : Store) : Ext u S S := ⟨Nat.le_refl _, fun _ _ _ => rfl⟩
theorem Ext.trans {u : Nat} {S S1 S2 : Store} (h : Ext u S S1) (k : Ext u S1 S2) : Ext u S S2 := ⟨Nat.le_trans h.len k.len, fun n hn hu => (k.at_ n (Nat.lt_of_lt_of_le hn h.len) hu).trans (h.at_ n hn hu)⟩
theorem Ext.app (u : Nat) (S X : Store) : Ext u S (S ++ X) := ⟨by simp, fun n hn _ => List.getElem?_append_left hn⟩
end DL

namespace DL
open PySem PySem.Spec PyProof.Rows L2
def tab_InvalidCommand : List (Str × Bool) := [("ZeroDivisor", false), ("SyntaxProblem", false), ("TooMany", false), ("NoPoint", false), ("NoRule", false), ("NoCrossing", false), ("NotReached", false), ("NoMark", false), ("InvalidCommand", true), ("NoRound", false)]
def tab_NoCrossing : List (Str × Bool) := [("ZeroDivisor", false), ("SyntaxProblem", false), ("TooMany", false), ("NoPoint", false), ("NoRule", false), ("NoCrossing", true), ("NotReached", false), ("NoMark", false), ("InvalidCommand", false), ("NoRound", false)]
def tab_NoMark : List (Str × Bool) := [("ZeroDivisor", false), ("SyntaxProblem", false), ("TooMany", false), ("NoPoint", false), ("NoRule", false), ("NoCrossing", false), ("NotReached", false), ("NoMark", true), ("InvalidCommand", false), ("NoRound", false)]
def tab_NoPoint : List (Str × Bool) := [("ZeroDivisor", false), ("SyntaxProblem", false), ("TooMany", false), ("NoPoint", true), ("NoRule", false), ("NoCrossing", false), ("NotReached", false), ("NoMark", false), ("InvalidCommand", false), ("NoRound", false)]
def tab_NoRound : List (Str × Bool) := [("ZeroDivisor", false), ("SyntaxProblem", false), ("TooMany", false), ("NoPoint", false), ("NoRule", false), ("NoCrossing", false), ("NotReached", false), ("NoMark", false), ("InvalidCommand", false), ("NoRound", true)]
def tab_NoRule : List (Str × Bool) := [("ZeroDivisor", false), ("SyntaxProblem", false), ("TooMany", false), ("NoPoint", false), ("NoRule", true), ("NoCrossing", false), ("NotReached", false), ("NoMark", false), ("InvalidCommand", false), ("NoRound", false)]
def tab_NotReached : List (Str × Bool) := [("ZeroDivisor", false), ("SyntaxProblem", false), ("TooMany", false), ("NoPoint", false), ("NoRule", false), ("NoCrossing", false), ("NotReached", true), ("NoMark", false), ("InvalidCommand", false), ("NoRound", false)]
def tab_SlopeError : List (Str × Bool) := [("ZeroDivisor", true), ("SyntaxProblem", true), ("TooMany", true), ("NoPoint", true), ("NoRule", true), ("NoCrossing", true), ("NotReached", true), ("NoMark", true), ("InvalidCommand", true), ("NoRound", true)]
def tab_SyntaxProblem : List (Str × Bool) := [("ZeroDivisor", false), ("SyntaxProblem", true), ("TooMany", false), ("NoPoint", false), ("NoRule", false), ("NoCrossing", false), ("NotReached", false), ("NoMark", false), ("InvalidCommand", false), ("NoRound", false)]
def tab_TooMany : List (Str × Bool) := [("ZeroDivisor", false), ("SyntaxProblem", false), ("TooMany", true), ("NoPoint", false), ("NoRule", false), ("NoCrossing", false), ("NotReached", false), ("NoMark", false), ("InvalidCommand", false), ("NoRound", false)]
def tab_ZeroDivisor : List (Str × Bool) := [("ZeroDivisor", true), ("SyntaxProblem", false), ("TooMany", false), ("NoPoint", false), ("NoRule", false), ("NoCrossing", false), ("NotReached", false), ("NoMark", false), ("InvalidCommand", false), ("NoRound", false)]
def tab_ValueError : List (Str × Bool) := [("ZeroDivisor", true), ("SyntaxProblem", true), ("TooMany", true), ("NoPoint", true), ("NoRule", true), ("NoCrossing", true), ("NotReached", true), ("NoMark", true), ("InvalidCommand", true), ("NoRound", true)]
def xcs_column : List Str := ["SyntaxProblem"]
def xcs_limit : List Str := ["TooMany"]
def xcs_line : List Str := ["SyntaxProblem"]
noncomputable def m_L_twin : List D → M D := mFun 2 (mRet (mOp eqD (mCB (one reprD) (mCons (mVar 0) mNil)) (mCB (one reprD) (mCons (mVar 1) mNil))))
noncomputable def m_L_kind : List D → M D := mFun 2 (mSeq (mIfS (mNot (mB (mIs "ValueError" tab_ValueError (mVar 0)))) (mRet (mC (.str "odd"))) mNext)
  (mSeq (mAsg (mNew (mCons (mIsC tab_InvalidCommand (mVar 0)) (mCons (mIsC tab_NoCrossing (mVar 0)) (mCons (mIsC tab_NoMark (mVar 0)) mNil)))) (gN 1))
  (mSeq (mAsg (mOp addN (mVar 1) (mLst (mCons (mIsC tab_NoPoint (mVar 0)) (mCons (mIsC tab_NoRound (mVar 0)) (mCons (mIsC tab_NoRule (mVar 0)) mNil))))) (gN 1))
  (mSeq (mAsg (mOp addN (mVar 1) (mLst (mCons (mIsC tab_NotReached (mVar 0)) (mCons (mIsC tab_SyntaxProblem (mVar 0)) mNil)))) (gN 1))
  (mSeq (mAsg (mOp addN (mVar 1) (mLst (mCons (mIsC tab_TooMany (mVar 0)) mNil))) (gN 1))
  (mSeq (mDrop (mMet isL appendD (mVar 1) (mCons (mIsC tab_ZeroDivisor (mVar 0)) mNil)))
  (mSeq (mIfS (mB (mOp neD (mMetA isQ countD (mVar 1) (mCons (mC (.bl true)) mNil)) (mC (.int 1)))) (mRet (mC (.str "odd"))) mNext)
  (mSeq (mIfS (mB (mOp ixD (mVar 1) (mC (.int 7)))) (mRet (mTup (mCons (mC (.str "syntax")) (mCons (mXfC xcs_line "line" (mVar 0)) (mCons (mXfC xcs_column "column" (mVar 0)) mNil))))) mNext)
  (mSeq (mIfS (mB (mOp ixD (mVar 1) (mC (.int 8)))) (mRet (mTup (mCons (mC (.str "many")) (mCons (mXfC xcs_limit "limit" (mVar 0)) mNil)))) mNext)
  (mRet (mOp ixD (mLst (mCons (mC (.str "command")) (mCons (mC (.str "crossing")) (mCons (mC (.str "mark")) (mCons (mC (.str "point")) (mCons (mC (.str "round")) (mCons (mC (.str "rule")) (mCons (mC (.str "reached")) (mCons (mC (.str "")) (mCons (mC (.str "")) (mCons (mC (.str "zero")) mNil))))))))))) (mMetA isQ indexD (mVar 1) (mCons (mC (.bl true)) mNil)))))))))))))
noncomputable def m_L_blown : List D → M D := mFun 5 (mSeq (mAsg (mC (.int 1000000000000001429)) (gN 2))
  (mSeq (mAsg (mOp modD (mOp addD (mOp addD (mOp mulD (mVar 0) (mC (.int 5281877500950955839))) (mOp mulD (mC (.int 1442695040888963407)) (mVar 1))) (mC (.int 53))) (mVar 2)) (gN 3))
  (mSeq (mFor (mRange1 (mC (.int 4))) (gN 4) (mAsg (mOp modD (mOp addD (mOp addD (mOp addD (mOp mulD (mVar 3) (mVar 3)) (mOp mulD (mC (.int 10)) (mVar 3))) (mOp mulD (mC (.int 401)) (mVar 4))) (mVar 1)) (mVar 2)) (gN 3)))
  (mRet (mOp addD (mOp mulD (mVar 3) (mVar 2)) (mOp modD (mOp addD (mOp mulD (mVar 3) (mC (.int 69069))) (mVar 1)) (mVar 2)))))))
noncomputable def m_L_pull : List D → M D := mFun 6 (mSeq (mIfS (mB (mOp ltD (mOp ixD (mVar 0) (mC (.int 2))) (mVar 1))) (mSeq (mPar 2 3 (mOp ixD (mVar 0) (mC (.int 0))) (mOp ixD (mVar 0) (mC (.int 1))))
  (mSeq (mAsg (mIf (mB (mOp neD (mVar 2) (mLst mNil))) (mOp ixD (mVar 2) (mOp modD (mVar 3) (mCB (one lenD) (mCons (mVar 2) mNil)))) (mC (.int 0))) (gN 4))
  (mSeq (mIfS (mOr (mB (mOp ltD (mVar 4) (mOp powD (mC (.int 10)) (mC (.int 18))))) (mB (mOp geD (mVar 3) (mCB (one lenD) (mCons (mVar 2) mNil))))) (mAsg (mCall 2 m_L_blown (mCons (mOp addD (mOp modD (mVar 4) (mOp powD (mC (.int 10)) (mC (.int 15)))) (mOp fdivD (mVar 3) (mOp addD (mCB (one lenD) (mCons (mVar 2) mNil)) (mC (.int 1))))) (mCons (mVar 3) mNil))) (gN 4)) mNext)
  (mSeq (mAsg (mOp addD (mVar 3) (mC (.int 1))) (gSubM (mVar 0) (mC (.int 1))))
  (mAsg (mVar 4) (gSubM (mVar 0) (mC (.int 2)))))))) mNext)
  (mSeq (mAsg (mOp modD (mOp ixD (mVar 0) (mC (.int 2))) (mVar 1)) (gN 5))
  (mSeq (mAsg (mOp fdivD (mOp ixD (mVar 0) (mC (.int 2))) (mVar 1)) (gSubM (mVar 0) (mC (.int 2))))
  (mRet (mVar 5)))))
noncomputable def m_L_item : List D → M D := mFun 2 (mRet (mOp ixD (mVar 1) (mCall 2 m_L_pull (mCons (mVar 0) (mCons (mCB (one lenD) (mCons (mVar 1) mNil)) mNil)))))
noncomputable def m_L_urn : List D → M D := mFun 4 (mSeq (mAsg (mLcN [3] (mIt (mSl (mVar 0) mNoP (mPart (mC (.int 13))))) (gN 3) mYes (mCB (one absD) (mCons (mVar 3) mNil))) (gN 1))
  (mSeq (mFor (mEnum (mSl (mVar 0) (mPart (mC (.int 13))) (mPart (mC (.int 60))))) (gTupM 2 (gConsM (gN 2) (gConsM (gN 3) gNilM))) (mAsg (mOp addD (mOp ixD (mVar 1) (mOp modD (mVar 2) (mC (.int 13)))) (mCB (one absD) (mCons (mVar 3) mNil))) (gSubM (mVar 1) (mOp modD (mVar 2) (mC (.int 13))))))
  (mRet (mNew (mCons (mFrz (mVar 1)) (mCons (mC (.int 0)) (mCons (mC (.int 0)) mNil)))))))
noncomputable def e_law_1 : EM := (mCall 1 m_L_kind (mCons (mVar 9) mNil))
noncomputable def e_law_2 : EM := (mC (.int 1))
noncomputable def t_law_3 : BM := (mNot (mB (mIsC tab_SlopeError (mVar 9))))
noncomputable def e_law_4 : EM := (mCall 2 m_L_pull (mCons (mVar 1) (mCons (mC (.int 1000)) mNil)))
noncomputable def m_law : List D → M D := mFun 10 (mSeq (mAsg (mCall 1 m_L_urn (mCons (mVar 0) mNil)) (gN 1))
  (mSeq (mAsg (mLc [8] (mRange1 (mC (.int 3))) (gN 8) mYes e_law_4) (gTupM 3 (gConsM (gN 2) (gConsM (gN 3) (gConsM (gN 4) gNilM)))))
  (mSeq (mAsg (mCall 2 m_L_item (mCons (mVar 1) (mCons (mLst (mCons (mC (.str "")) (mCons (mC (.str "x")) (mCons (mC (.str "not a number")) mNil)))) mNil))) (gN 5))
  (mSeq (mAsg (mLst (mCons (mExc0 "InvalidCommand" (mVar 5)) (mCons (mExc0 "NoCrossing" (mVar 5)) (mCons (mExc0 "NoMark" (mVar 5)) (mCons (mExc0 "NoPoint" (mVar 5)) mNil))))) (gN 6))
  (mSeq (mAsg (mOp addD (mVar 6) (mLst (mCons (mExc0 "NoRound" (mVar 5)) (mCons (mExc0 "NoRule" (mVar 5)) mNil)))) (gN 6))
  (mSeq (mAsg (mOp addD (mVar 6) (mLst (mCons (mExc0 "NotReached" (mVar 5)) (mCons (mExc0 "ZeroDivisor" (mVar 5)) (mCons (mExcI "SyntaxProblem" ["line", "column"] (mCons (mVar 2) (mCons (mVar 3) mNil))) (mCons (mExcI "TooMany" ["limit"] (mCons (mVar 4) mNil)) mNil)))))) (gN 6))
  (mSeq (mAsg (mLst (mCons (mC (.str "command")) (mCons (mC (.str "crossing")) (mCons (mC (.str "mark")) (mCons (mC (.str "point")) (mCons (mC (.str "round")) (mCons (mC (.str "rule")) (mCons (mC (.str "reached")) (mCons (mC (.str "zero")) mNil))))))))) (gN 7))
  (mSeq (mAsg (mOp addD (mVar 7) (mLst (mCons (mTup (mCons (mC (.str "syntax")) (mCons (mVar 2) (mCons (mVar 3) mNil)))) (mCons (mTup (mCons (mC (.str "many")) (mCons (mVar 4) mNil))) mNil)))) (gN 7))
  (mSeq (mIfS (mB (mOp neD (mLc [9] (mIt (mVar 6)) (gN 9) t_law_3 e_law_2) (mLst mNil))) (mRet (mC (.bl false))) mNext)
  (mRet (mCall 2 m_L_twin (mCons (mLc [9] (mIt (mVar 6)) (gN 9) mYes e_law_1) (mCons (mVar 7) mNil)))))))))))))
end DL

/-! Plain laws: the urn. -/
namespace DL
open PySem PySem.Spec PyProof.Rows L2

theorem sz_lit {n : Nat} {z : Int} (h : z.natAbs < 2 ^ n) : Sz n z := h
theorem sz_lt {n : Nat} {z : Int} (h0 : 0 ≤ z) (h : z < 2 ^ n) : Sz n z := by
  unfold Sz
  have : (z.natAbs : Int) < ((2 ^ n : Nat) : Int) := by
    rw [show (z.natAbs : Int) = z by omega]; simpa using h
  omega
def blownB : SM := mAsg (mOp modD (mOp addD (mOp addD (mOp addD (mOp mulD (mVar 3) (mVar 3)) (mOp mulD (mC (.int 10)) (mVar 3))) (mOp mulD (mC (.int 401)) (mVar 4))) (mVar 1)) (mVar 2)) (gN 3)
theorem blown_def : m_L_blown = mFun 5 (mSeq (mAsg (mC (.int 1000000000000001429)) (gN 2))
  (mSeq (mAsg (mOp modD (mOp addD (mOp addD (mOp mulD (mVar 0) (mC (.int 5281877500950955839))) (mOp mulD (mC (.int 1442695040888963407)) (mVar 1))) (mC (.int 53))) (mVar 2)) (gN 3))
  (mSeq (mFor (mRange1 (mC (.int 4))) (gN 4) blownB)
  (mRet (mOp addD (mOp mulD (mVar 3) (mVar 2)) (mOp modD (mOp addD (mOp mulD (mVar 3) (mC (.int 69069))) (mVar 1)) (mVar 2))))))) := rfl
theorem blown_turn {a f t x : Int} {ρ4 : Option D} {v : D} (S : Store) (hf : 0 ≤ f ∧ f < 1000000000000001429) (ht : Sz 8 t) :
    ∃ f' : Int, blownB [some v, some (.int a), some (.int 1000000000000001429), some (.int f), some (.int t)] S = .go .nx [some v, some (.int a), some (.int 1000000000000001429), some (.int f'), some (.int t)] S ∧ 0 ≤ f' ∧ f' < 1000000000000001429 := by
  have sf : Sz 60 f := sz_lt hf.1 (by have := hf.2; omega)
  have e1 := mul_ok S sf sf (by decide)
  have e2 := mul_ok S (sz_lit (n := 4) (z := 10) (by decide)) sf (by decide)
  have e3 := mul_ok S (sz_lit (n := 9) (z := 401) (by decide)) ht (by decide)
  refine ⟨(f * f + 10 * f + 401 * t + a).fmod 1000000000000001429, ?_, Int.fmod_nonneg_of_pos _ (by decide), Int.fmod_lt_of_pos _ (by decide)⟩
  simp [blownB, -x_mul, e1, e2, e3]
theorem s_blown {v a : Int} (S : Store) (hv : Sz 70 v) (ha : Sz 64 a) : ∃ r : Int, m_L_blown [.int v, .int a] S = .ok (.int r) S ∧ 0 ≤ r := by
  have e1 := mul_ok S hv (sz_lit (n := 63) (z := 5281877500950955839) (by decide)) (by decide)
  have e2 := mul_ok S (sz_lit (n := 61) (z := 1442695040888963407) (by decide)) ha (by decide)
  have f0 : 0 ≤ (v * 5281877500950955839 + 1442695040888963407 * a + 53).fmod 1000000000000001429 ∧ (v * 5281877500950955839 + 1442695040888963407 * a + 53).fmod 1000000000000001429 < 1000000000000001429 := ⟨Int.fmod_nonneg_of_pos _ (by decide), Int.fmod_lt_of_pos _ (by decide)⟩
  obtain ⟨f1, h1, g1⟩ := blown_turn (a := a) (t := 0) (x := 0) (ρ4 := none) (v := .int v) S f0 (by unfold Sz; decide)
  obtain ⟨f2, h2, g2⟩ := blown_turn (a := a) (t := 1) (x := 0) (ρ4 := none) (v := .int v) S g1 (by unfold Sz; decide)
  obtain ⟨f3, h3, g3⟩ := blown_turn (a := a) (t := 2) (x := 0) (ρ4 := none) (v := .int v) S g2 (by unfold Sz; decide)
  obtain ⟨f4, h4, g4⟩ := blown_turn (a := a) (t := 3) (x := 0) (ρ4 := none) (v := .int v) S g3 (by unfold Sz; decide)
  have s4 : Sz 60 f4 := sz_lt g4.1 (by have := g4.2; omega)
  have e5 := mul_ok S s4 (sz_lit (n := 60) (z := 1000000000000001429) (by decide)) (by decide)
  have e6 := mul_ok S s4 (sz_lit (n := 17) (z := 69069) (by decide)) (by decide)
  refine ⟨f4 * 1000000000000001429 + (f4 * 69069 + a).fmod 1000000000000001429, ?_, ?_⟩
  · rw [blown_def]
    simp [-x_mul, e1, e2, mForL, h1, h2, h3, h4, e5, e6, show rangeL 0 4 = [.int 0, .int 1, .int 2, .int 3] from rfl]
  · have := Int.fmod_nonneg_of_pos (f4 * 69069 + a) (b := 1000000000000001429) (by decide)
    have := Int.mul_nonneg g4.1 (show (0 : Int) ≤ 1000000000000001429 by decide)
    omega

/-- the urn at u: at most k numbers have been pulled -/
structure Urn (u k : Nat) (S : Store) : Prop where
  ex : ∃ (ns : List Int) (a v : Int), S[u]? = some (.lst [.lst (ns.map .int), .int a, .int v]) ∧ (∀ z ∈ ns, 0 ≤ z) ∧ 0 ≤ a ∧ a ≤ k ∧ 0 ≤ v ∧ ns.length ≤ 63
theorem Urn.mono {u j k : Nat} {S : Store} (h : Urn u j S) (hk : j ≤ k) : Urn u k S := by
  obtain ⟨ns, a, v, h1, h2, h3, h4, h5⟩ := h.ex
  exact ⟨ns, a, v, h1, h2, h3, by omega, h5⟩
/-- S' is S but for what stands at u -/
structure But (u : Nat) (S S' : Store) : Prop where
  len : S'.length = S.length
  at_ : ∀ n, n ≠ u → S'[n]? = S[n]?
theorem But.refl (u : Nat) (S : Store) : But u S S := ⟨rfl, fun _ _ => rfl⟩
theorem But.trans {u : Nat} {S S1 S2 : Store} (h : But u S S1) (k : But u S1 S2) : But u S S2 := ⟨k.len.trans h.len, fun n hn => (k.at_ n hn).trans (h.at_ n hn)⟩
theorem But.set (u : Nat) (S : Store) (o : Ob) : But u S (S.set u o) := ⟨by simp, fun n hn => by rw [List.getElem?_set_ne (Ne.symm hn)]⟩
theorem ix_ref {u : Nat} {S : Store} {l : List D} {i : Int} {d : D} (h : S[u]? = some (.lst l)) (hi : atI l i = some d) : ixD (.ref u) (.int i) S = .ok d S := by
  simp [ixD, lstOf, h, hi]
theorem gsub_at {u k : Nat} {l : List D} {fo fi : EM} {ρ : Env} {S : Store} (d : D) (h1 : fo ρ S = .ok (.ref u) S) (h2 : fi ρ S = .ok (.int (k : Nat)) S) (h : S[u]? = some (.lst l)) (hk : k < l.length) : gSubM fo fi d ρ S = some (ρ, S.set u (.lst (l.set k d))) := by
  have e : ixN l.length (k : Int) = some k := by
    unfold ixN
    rw [if_pos (by omega), if_pos (by omega)]; simp
  simp [gSubM, h1, h2, setIx, h, e]
theorem plains_ints (n : Nat) : ∀ ns : List Int, plains n (ns.map D.int) = true
  | [] => rfl
  | z :: ns => by simp [plains, plain, plains_ints n ns]
theorem ne_nil (ns : List Int) (S : Store) : neD (.lst (ns.map D.int)) (.lst []) S = .ok (.bl (decide (ns ≠ []))) S := by
  cases ns with
  | nil => rfl
  | cons z ns =>
    simp [neD, plain, plains, eqB, eqBs, plains_ints]
def pullV : EM := mIf (mB (mOp neD (mVar 2) (mLst mNil))) (mOp ixD (mVar 2) (mOp modD (mVar 3) (mCB (one lenD) (mCons (mVar 2) mNil)))) (mC (.int 0))
noncomputable def pullW : SM := mIfS (mOr (mB (mOp ltD (mVar 4) (mOp powD (mC (.int 10)) (mC (.int 18))))) (mB (mOp geD (mVar 3) (mCB (one lenD) (mCons (mVar 2) mNil))))) (mAsg (mCall 2 m_L_blown (mCons (mOp addD (mOp modD (mVar 4) (mOp powD (mC (.int 10)) (mC (.int 15)))) (mOp fdivD (mVar 3) (mOp addD (mCB (one lenD) (mCons (mVar 2) mNil)) (mC (.int 1))))) (mCons (mVar 3) mNil))) (gN 4)) mNext
def pullX : SM := mSeq (mAsg (mOp addD (mVar 3) (mC (.int 1))) (gSubM (mVar 0) (mC (.int 1)))) (mAsg (mVar 4) (gSubM (mVar 0) (mC (.int 2))))
theorem pull_def : m_L_pull = mFun 6 (mSeq (mIfS (mB (mOp ltD (mOp ixD (mVar 0) (mC (.int 2))) (mVar 1))) (mSeq (mPar 2 3 (mOp ixD (mVar 0) (mC (.int 0))) (mOp ixD (mVar 0) (mC (.int 1))))
  (mSeq (mAsg pullV (gN 4)) (mSeq pullW pullX))) mNext)
  (mSeq (mAsg (mOp modD (mOp ixD (mVar 0) (mC (.int 2))) (mVar 1)) (gN 5))
  (mSeq (mAsg (mOp fdivD (mOp ixD (mVar 0) (mC (.int 2))) (mVar 1)) (gSubM (mVar 0) (mC (.int 2))))
  (mRet (mVar 5))))) := rfl
theorem s_pullV (u : Nat) (m : Int) {ns : List Int} {a : Int} (S : Store) (h0 : ∀ z ∈ ns, 0 ≤ z) (ha : 0 ≤ a) (hl : ns.length ≤ 63) (x4 x5 : Option D) :
    ∃ v : Int, pullV [some (.ref u), some (.int m), some (.lst (ns.map .int)), some (.int a), x4, x5] S = .ok (.int v) S ∧ 0 ≤ v := by
  by_cases hn : ns = []
  · subst hn
    exact ⟨0, by simp [pullV, sizeLine, show neD (.lst []) (.lst []) S = .ok (.bl false) S from rfl], by decide⟩
  · have hp : 0 < ns.length := List.length_pos_iff.mpr hn
    have h1 := Int.fmod_nonneg_of_pos a (b := (ns.length : Int)) (by omega)
    have h2 := Int.fmod_lt_of_pos a (b := (ns.length : Int)) (by omega)
    obtain ⟨j, hj⟩ := Int.eq_ofNat_of_zero_le h1
    have hjl : j < ns.length := by omega
    refine ⟨ns[j], ?_, h0 _ (List.getElem_mem hjl)⟩
    have e : atI (ns.map D.int) (a.fmod ns.length) = some (.int ns[j]) := by
      rw [hj]
      rw [show ((j : Nat) : Int) = ((j : Nat) : Int) from rfl, atI_nat]; simp [hjl]
    simp [pullV, sizeLine, ne_nil, hn, e]
theorem s_pullW (u : Nat) (m : Int) {ns : List Int} {a v : Int} (S : Store) (ha : 0 ≤ a) (hb : a < 2 ^ 63) (hv : 0 ≤ v) (hl : ns.length ≤ 63) (x5 : Option D) :
    ∃ v' : Int, pullW [some (.ref u), some (.int m), some (.lst (ns.map .int)), some (.int a), some (.int v), x5] S = .go .nx [some (.ref u), some (.int m), some (.lst (ns.map .int)), some (.int a), some (.int v'), x5] S ∧ 0 ≤ v' := by
  have q0 := Int.fmod_nonneg_of_pos v (b := 10 ^ 15) (by decide)
  have q1 := Int.fmod_lt_of_pos v (b := 10 ^ 15) (by decide)
  have q2 : 0 ≤ a.fdiv ((ns.length : Int) + 1) ∧ a.fdiv ((ns.length : Int) + 1) ≤ a := by
    rw [Int.fdiv_eq_ediv_of_nonneg _ (by omega)]
    exact ⟨Int.ediv_nonneg ha (by omega), Int.ediv_le_self _ ha⟩
  obtain ⟨r, h1, h2⟩ := s_blown (v := v.fmod (10 ^ 15) + a.fdiv ((ns.length : Int) + 1)) (a := a) S (sz_lt (by omega) (by omega)) (sz_lt ha (by omega))
  have e1 := fdiv_ok (n := 7) (x := a) S (y := (ns.length : Int) + 1) (by unfold Sz; omega) (by decide) (by omega)
  by_cases c : v < 10 ^ 18 ∨ (ns.length : Int) ≤ a
  · refine ⟨r, ?_, h2⟩
    by_cases c1 : v < 10 ^ 18
    · simp only [show (10 : Int) ^ 18 = 1000000000000000000 from rfl, show (10 : Int) ^ 15 = 1000000000000000 from rfl] at *
      simp [pullW, c1, -x_fdiv, e1, h1]
    · have c2 : (ns.length : Int) ≤ a := by rcases c with c | c; exact absurd c c1; exact c
      simp only [show (10 : Int) ^ 18 = 1000000000000000000 from rfl, show (10 : Int) ^ 15 = 1000000000000000 from rfl] at *
      simp [pullW, c1, c2, -x_fdiv, e1, h1]
  · refine ⟨v, ?_, hv⟩
    have c1 : ¬ v < 10 ^ 18 := fun z => c (.inl z)
    have c2 : ¬ (ns.length : Int) ≤ a := fun z => c (.inr z)
    simp only [show (10 : Int) ^ 18 = 1000000000000000000 from rfl] at *
    simp [pullW, c1, c2]
theorem s_pull {u k n : Nat} {m : Int} {S : Store} (h : Urn u k S) (hm : 0 < m) (hs : Sz n m) (hn : n < 9000) (hk : k < 2 ^ 63) :
    ∃ (r : Int) (S' : Store), m_L_pull [.ref u, .int m] S = .ok (.int r) S' ∧ 0 ≤ r ∧ r < m ∧ Urn u (k + 1) S' ∧ But u S S' := by
  obtain ⟨ns, a, v, hS, h0, ha, hak, hv, hl⟩ := h.ex
  have hul : u < S.length := (List.getElem?_eq_some_iff.mp hS).1
  have fin : ∀ (S1 : Store) (a v : Int) (x2 x3 x4 : Option D), S1[u]? = some (.lst [.lst (ns.map .int), .int a, .int v]) → 0 ≤ v → 
      mSeq (mAsg (mOp modD (mOp ixD (mVar 0) (mC (.int 2))) (mVar 1)) (gN 5)) (mSeq (mAsg (mOp fdivD (mOp ixD (mVar 0) (mC (.int 2))) (mVar 1)) (gSubM (mVar 0) (mC (.int 2)))) (mRet (mVar 5))) [some (.ref u), some (.int m), x2, x3, x4, none] S1
        = .go (.rt (.int (v.fmod m))) [some (.ref u), some (.int m), x2, x3, x4, some (.int (v.fmod m))] (S1.set u (.lst [.lst (ns.map .int), .int a, .int (v.fdiv m)])) := fun S1 a v x2 x3 x4 h1 hv => by
    have e1 := ix_ref (i := 2) h1 (d := .int v) rfl
    have e2 := fdiv_ok (x := v) S1 hs hn (by omega)
    have e3 := gsub_at (fo := mVar 0) (fi := mC (.int 2)) (ρ := [some (.ref u), some (.int m), x2, x3, x4, some (.int (v.fmod m))]) (k := 2) (.int (v.fdiv m)) rfl rfl h1 (by simp)
    simp [e1, -x_fdiv, e2, e3, (show m ≠ 0 by omega)]
  have last : ∀ (S1 : Store) (a' v' : Int), S1[u]? = some (.lst [.lst (ns.map .int), .int a', .int v']) → 0 ≤ v' → 0 ≤ a' → a' ≤ k + 1 → But u S S1 → 0 ≤ v'.fmod m ∧ v'.fmod m < m ∧ Urn u (k + 1) (S1.set u (.lst [.lst (ns.map .int), .int a', .int (v'.fdiv m)])) ∧ But u S (S1.set u (.lst [.lst (ns.map .int), .int a', .int (v'.fdiv m)])) := fun S1 a' v' h1 h2 h3 h4 hb => by
    refine ⟨Int.fmod_nonneg_of_pos _ hm, Int.fmod_lt_of_pos _ hm, ⟨ns, a', v'.fdiv m, ?_, h0, h3, by omega, ?_, hl⟩, hb.trans (But.set u S1 _)⟩
    · rw [List.getElem?_set_self (by rw [hb.len]; exact hul)]
    · rw [Int.fdiv_eq_ediv_of_nonneg _ (by omega)]
      exact Int.ediv_nonneg h2 (by omega)
  rw [pull_def]
  by_cases c : v < m
  · obtain ⟨v1, p1, p2⟩ := s_pullV u m (ns := ns) (a := a) S h0 ha hl none none
    obtain ⟨v2, p3, p4⟩ := s_pullW u m (ns := ns) (a := a) (v := v1) S ha (by omega) p2 hl none
    have e1 := ix_ref (i := 2) hS (d := .int v) rfl
    have e2 := ix_ref (i := 0) hS (d := .lst (ns.map .int)) rfl
    have e3 := ix_ref (i := 1) hS (d := .int a) rfl
    have g1 : gSubM (mVar 0) (mC (.int 1)) (.int (a + 1)) [some (.ref u), some (.int m), some (.lst (ns.map .int)), some (.int a), some (.int v2), none] S = some (_, S.set u (.lst [.lst (ns.map .int), .int (a + 1), .int v])) := gsub_at (k := 1) (.int (a + 1)) rfl rfl hS (by simp)
    have hS1 : (S.set u (.lst [.lst (ns.map .int), .int (a + 1), .int v]))[u]? = some (.lst ([.lst (ns.map .int), .int (a + 1), .int v])) := by
      rw [List.getElem?_set_self hul]
    have g2 : gSubM (mVar 0) (mC (.int 2)) (.int v2) [some (.ref u), some (.int m), some (.lst (ns.map .int)), some (.int a), some (.int v2), none] (S.set u (.lst [.lst (ns.map .int), .int (a + 1), .int v])) = some (_, (S.set u (.lst [.lst (ns.map .int), .int (a + 1), .int v])).set u (.lst [.lst (ns.map .int), .int (a + 1), .int v2])) := gsub_at (k := 2) (.int v2) rfl rfl hS1 (by simp)
    rw [List.set_set] at g2
    have hS2 : (S.set u (.lst [.lst (ns.map .int), .int (a + 1), .int v2]))[u]? = some (.lst ([.lst (ns.map .int), .int (a + 1), .int v2])) := by
      rw [List.getElem?_set_self hul]
    have ff := fin _ (a + 1) v2 (some (.lst (ns.map .int))) (some (.int a)) (some (.int v2)) hS2 p4
    obtain ⟨l1, l2, l3, l4⟩ := last _ (a + 1) v2 hS2 p4 (by omega) (by omega) (But.set u S _)
    refine ⟨_, _, ?_, l1, l2, l3, l4⟩
    rw [x_fun, x_seq]
    have : (mIfS (mB (mOp ltD (mOp ixD (mVar 0) (mC (.int 2))) (mVar 1))) (mSeq (mPar 2 3 (mOp ixD (mVar 0) (mC (.int 0))) (mOp ixD (mVar 0) (mC (.int 1)))) (mSeq (mAsg pullV (gN 4)) (mSeq pullW pullX))) mNext) (start0 6 [.ref u, .int m]) S
       = .go .nx [some (.ref u), some (.int m), some (.lst (ns.map .int)), some (.int a), some (.int v2), none] (S.set u (.lst [.lst (ns.map .int), .int (a + 1), .int v2])) := by
      simp [e1, e2, e3, c, p1, p3, pullX, g1, g2]
    rw [this, O.then_nx, ff]
  · have e1 := ix_ref (i := 2) hS (d := .int v) rfl
    have ff := fin _ a v none none none hS hv
    obtain ⟨l1, l2, l3, l4⟩ := last _ a v hS hv (by omega) (by omega) (But.refl u S)
    refine ⟨_, _, ?_, l1, l2, l3, l4⟩
    rw [x_fun, x_seq]
    have : (mIfS (mB (mOp ltD (mOp ixD (mVar 0) (mC (.int 2))) (mVar 1))) (mSeq (mPar 2 3 (mOp ixD (mVar 0) (mC (.int 0))) (mOp ixD (mVar 0) (mC (.int 1)))) (mSeq (mAsg pullV (gN 4)) (mSeq pullW pullX))) mNext) (start0 6 [.ref u, .int m]) S
       = .go .nx [some (.ref u), some (.int m), none, none, none, none] S := by
      simp [e1, c]
    rw [this, O.then_nx, ff]
theorem s_item {u k : Nat} {l : List D} {S : Store} (h : Urn u k S) (h0 : l ≠ []) (hl : l.length < 2 ^ 60) (hk : k < 2 ^ 63) :
    ∃ (d : D) (S' : Store), m_L_item [.ref u, .lst l] S = .ok d S' ∧ d ∈ l ∧ Urn u (k + 1) S' ∧ But u S S' := by
  have hp : 0 < l.length := List.length_pos_iff.mpr h0
  obtain ⟨r, S', e, r0, r1, h1, h2⟩ := s_pull (m := (l.length : Int)) (n := 60) h (by omega) (by unfold Sz; omega) (by decide) hk
  obtain ⟨j, hj⟩ := Int.eq_ofNat_of_zero_le r0
  subst hj
  have hjl : j < l.length := by omega
  refine ⟨l[j], S', ?_, List.getElem_mem hjl, h1, h2⟩
  have e2 : atI l ((j : Nat) : Int) = some l[j] := by rw [atI_nat]; simp [hjl]
  unfold m_L_item
  simp [e, e2]
/-- a comprehension of one value each -/
theorem lc_map {i : Nat} {te : EM} {ρ : Env} {S : Store} {f : D → D} : ∀ {ds : List D}, (∀ d ∈ ds, te (ρ.set i (some d)) S = .ok (f d) S) → mLcL (gN i) mYes te ρ ds S = .ok (ds.map f) S
  | [], _ => rfl
  | d :: ds, h => by
    have h1 := h d List.mem_cons_self
    have h2 := lc_map (ds := ds) (te := te) (ρ := ρ) (S := S) (f := f) fun z hz => h z (List.mem_cons_of_mem _ hz)
    simp [mLcL, h1, h2]
def urnB : SM := mAsg (mOp addD (mOp ixD (mVar 1) (mOp modD (mVar 2) (mC (.int 13)))) (mCB (one absD) (mCons (mVar 3) mNil))) (gSubM (mVar 1) (mOp modD (mVar 2) (mC (.int 13))))
theorem urn_def : m_L_urn = mFun 4 (mSeq (mAsg (mLcN [3] (mIt (mSl (mVar 0) mNoP (mPart (mC (.int 13))))) (gN 3) mYes (mCB (one absD) (mCons (mVar 3) mNil))) (gN 1))
  (mSeq (mFor (mEnum (mSl (mVar 0) (mPart (mC (.int 13))) (mPart (mC (.int 60))))) (gTupM 2 (gConsM (gN 2) (gConsM (gN 3) gNilM))) urnB)
  (mRet (mNew (mCons (mFrz (mVar 1)) (mCons (mC (.int 0)) (mCons (mC (.int 0)) mNil))))))) := rfl
theorem urn_loop {d0 : D} : ∀ (ds : List Int) (i : Nat) (acc : List Int) (S : Store) (x2 x3 : Option D), (ds ≠ [] → acc.length = 13) → (∀ z ∈ acc, 0 ≤ z) → S[0]? = some (.lst (acc.map .int)) →
    ∃ (acc' : List Int) (y2 y3 : Option D), mForL (gTupM 2 (gConsM (gN 2) (gConsM (gN 3) gNilM))) urnB ((enumL i (ds.map D.int)).map D.wt) [some d0, some (.ref 0), x2, x3] S = .go .nx [some d0, some (.ref 0), y2, y3] (S.set 0 (.lst (acc'.map .int))) ∧ (∀ z ∈ acc', 0 ≤ z) ∧ acc'.length = acc.length
  | [], i, acc, S, x2, x3, _, h0, hS => ⟨acc, x2, x3, by
      simp [enumL]
      apply List.ext_getElem?
      intro k
      by_cases hk : k = 0
      · subst hk; rw [List.getElem?_set_self (List.getElem?_eq_some_iff.mp hS).1, hS]
      · rw [List.getElem?_set_ne (Ne.symm hk)], h0, rfl⟩
  | z :: ds, i, acc, S, x2, x3, hn, h0, hS => by
    have hl := hn (by simp)
    have h1 := Int.fmod_nonneg_of_pos (i : Int) (b := 13) (by decide)
    have h2 := Int.fmod_lt_of_pos (i : Int) (b := 13) (by decide)
    obtain ⟨j, hj⟩ := Int.eq_ofNat_of_zero_le h1
    have hjl : j < acc.length := by omega
    have hul := (List.getElem?_eq_some_iff.mp hS).1
    have e1 : ixD (.ref 0) (.int (j : Nat)) S = .ok (.int acc[j]) S := ix_ref hS (by rw [atI_nat]; simp [hjl])
    have e2 : (if z < 0 then -z else z) = (z.natAbs : Int) := by split <;> omega
    have e3 : gSubM (mVar 1) (mOp modD (mVar 2) (mC (.int 13))) (.int (acc[j] + z.natAbs)) [some d0, some (.ref 0), some (.int (i : Nat)), some (.int z)] S = some (_, S.set 0 (.lst ((acc.map D.int).set j (.int (acc[j] + z.natAbs))))) :=
      gsub_at (k := j) _ rfl (by simp [hj]) hS (by simpa using hjl)
    obtain ⟨acc', y2, y3, e, p1, p2⟩ := urn_loop (d0 := d0) ds (i + 1) (acc.set j (acc[j] + z.natAbs)) (S.set 0 (.lst ((acc.map D.int).set j (.int (acc[j] + z.natAbs))))) (some (.int (i : Nat))) (some (.int z)) (fun _ => by simpa using hl)
      (fun w hw => by
        rcases List.mem_or_eq_of_mem_set hw with h | h
        · exact h0 w h
        · have := h0 _ (List.getElem_mem hjl); omega)
      (by rw [List.getElem?_set_self hul, List.map_set])
    rw [List.set_set] at e
    refine ⟨acc', y2, y3, ?_, p1, by simpa using p2⟩
    rw [← e]
    simp [enumL, mForL, urnB, hj, e1, e2, e3]
theorem s_urn (ns : List Int) (hl : ns.length ≤ 63) : ∃ S, m_L_urn [.lst (ns.map .int)] [] = .ok (.ref 1) S ∧ Urn 1 0 S ∧ S.length = 2 := by
  have h13 : HT.sIx ns.length ns.length (some 13) = min 13 ns.length := HT.sIx_nat _ _ 13
  have h13' : HT.sIx ns.length 0 (some 13) = min 13 ns.length := HT.sIx_nat _ _ 13
  have h60 : HT.sIx ns.length ns.length (some 60) = min 60 ns.length := HT.sIx_nat _ _ 60
  have c1 : cutD (ns.map D.int) none (some 13) = (ns.take (min 13 ns.length)).map D.int := by
    simp [cutD, h13, HT.sIx_none]
  have c2 : cutD (ns.map D.int) (some 13) (some 60) = ((ns.drop (min 13 ns.length)).take (min 60 ns.length - min 13 ns.length)).map D.int := by
    simp [cutD, h13', h60]
  have lc := lc_map (i := 3) (te := mCB (one absD) (mCons (mVar 3) mNil)) (ρ := [some (.lst (ns.map .int)), none, none, none]) (S := []) (ds := (ns.take (min 13 ns.length)).map D.int) (f := fun d => match d with | .int i => .int (if i < 0 then -i else i) | d => d) (fun d hd => by
    obtain ⟨z, _, rfl⟩ := List.mem_map.mp hd
    simp)
  rw [List.map_map] at lc
  have em : (ns.take (min 13 ns.length)).map ((fun d => match d with | D.int i => D.int (if i < 0 then -i else i) | d => d) ∘ D.int) = ((ns.take (min 13 ns.length)).map fun i => if i < 0 then -i else i).map D.int := by
    rw [List.map_map]; rfl
  rw [em] at lc
  obtain ⟨acc', y2, y3, e, p1, p2⟩ := urn_loop (d0 := .lst (ns.map .int)) ((ns.drop (min 13 ns.length)).take (min 60 ns.length - min 13 ns.length)) 0 ((ns.take (min 13 ns.length)).map fun i => if i < 0 then -i else i) [.lst (((ns.take (min 13 ns.length)).map fun i => if i < 0 then -i else i).map D.int)] none none
    (fun hne => by
      have : ns.length > 13 := by
        rcases Nat.lt_or_ge 13 ns.length with q | q
        · exact q
        · exact absurd (by rw [List.drop_eq_nil_of_le (by omega)]; simp) hne
      simp; omega)
    (fun z hz => by
      obtain ⟨w, _, rfl⟩ := List.mem_map.mp hz
      split <;> omega) rfl
  rw [List.set_cons_zero] at e
  refine ⟨[.dead, .lst [.lst (acc'.map .int), .int 0, .int 0]], ?_, ⟨acc', 0, 0, rfl, p1, by decide, by decide, by decide, ?_⟩, rfl⟩
  · rw [urn_def]
    have cc : decide (((ns.take (min 13 ns.length)).map D.int).length ≤ sizeLine) = true := by
      simp [sizeLine]; omega
    have cc' : ((ns.take (min 13 ns.length)).map D.int).length ≤ sizeLine := by simpa using cc
    have A : mAsg (mLcN [3] (mIt (mSl (mVar 0) mNoP (mPart (mC (.int 13))))) (gN 3) mYes (mCB (one absD) (mCons (mVar 3) mNil))) (gN 1) (start0 4 [.lst (ns.map .int)]) [] = .go .nx [some (.lst (ns.map .int)), some (.ref 0), none, none] [.lst (((ns.take (min 13 ns.length)).map fun i => if i < 0 then -i else i).map D.int)] := by
      have := x_part [some (.lst (ns.map .int)), none, none, none] [] (mC (.int 13)) 13 [] rfl (by decide)
      simp only [x_asg, x_lc, x_it, x_sl, start_def, List.map, List.length, List.replicate, List.cons_append, List.nil_append, x_var, List.getElem?_cons_zero, R.bind_ok, x_noP, this, slD, c1, x_itL, if_pos cc', lstOf_lst, wipeD, List.set, lc]
      simp [plL]
    have B : mFor (mEnum (mSl (mVar 0) (mPart (mC (.int 13))) (mPart (mC (.int 60))))) (gTupM 2 (gConsM (gN 2) (gConsM (gN 3) gNilM))) urnB [some (.lst (ns.map .int)), some (.ref 0), none, none] [.lst (((ns.take (min 13 ns.length)).map fun i => if i < 0 then -i else i).map D.int)] = .go .nx [some (.lst (ns.map .int)), some (.ref 0), y2, y3] [.lst (acc'.map .int)] := by
      have q1 := x_part [some (.lst (ns.map .int)), some (.ref 0), none, none] [.lst (((ns.take (min 13 ns.length)).map fun i => if i < 0 then -i else i).map D.int)] (mC (.int 13)) 13 _ rfl (by decide)
      have q2 := x_part [some (.lst (ns.map .int)), some (.ref 0), none, none] [.lst (((ns.take (min 13 ns.length)).map fun i => if i < 0 then -i else i).map D.int)] (mC (.int 60)) 60 _ rfl (by decide)
      simp only [x_for, mEnum, x_sl, x_var, List.getElem?_cons_zero, R.bind_ok, q1, q2, slD, lstOf_lst, c2, R.to_ok, e]
    rw [x_fun, x_seq, A, O.then_nx, x_seq, B]
    simp [frzD, sizeLine]
  · rw [p2]; simp; omega
end DL

/-! k04's plain law. -/
namespace DL
open PySem PySem.Spec PyProof.Rows L2
theorem Urn.app {u k : Nat} {S X : Store} (h : Urn u k S) : Urn u k (S ++ X) := by
  obtain ⟨ns, a, v, h1, h2⟩ := h.ex
  exact ⟨ns, a, v, by rw [List.getElem?_append_left (List.getElem?_eq_some_iff.mp h1).1]; exact h1, h2⟩
theorem k_InvalidCommand (S : Store) : ∃ X, m_L_kind [.exc "InvalidCommand" [] []] S = .ok (.str "command") (S ++ X) := by
  have h0 : tab_ValueError.lookup ("InvalidCommand" : Str) = some true := by decide +kernel
  have h1 : tab_InvalidCommand.lookup ("InvalidCommand" : Str) = some true := by decide +kernel
  have h2 : tab_NoCrossing.lookup ("InvalidCommand" : Str) = some false := by decide +kernel
  have h3 : tab_NoMark.lookup ("InvalidCommand" : Str) = some false := by decide +kernel
  have h4 : tab_NoPoint.lookup ("InvalidCommand" : Str) = some false := by decide +kernel
  have h5 : tab_NoRound.lookup ("InvalidCommand" : Str) = some false := by decide +kernel
  have h6 : tab_NoRule.lookup ("InvalidCommand" : Str) = some false := by decide +kernel
  have h7 : tab_NotReached.lookup ("InvalidCommand" : Str) = some false := by decide +kernel
  have h8 : tab_SyntaxProblem.lookup ("InvalidCommand" : Str) = some false := by decide +kernel
  have h9 : tab_TooMany.lookup ("InvalidCommand" : Str) = some false := by decide +kernel
  have h10 : tab_ZeroDivisor.lookup ("InvalidCommand" : Str) = some false := by decide +kernel
  have q1 : (xcs_line.contains ("SyntaxProblem" : Str)) = true := by decide +kernel
  have q2 : (xcs_column.contains ("SyntaxProblem" : Str)) = true := by decide +kernel
  have q3 : (xcs_limit.contains ("TooMany" : Str)) = true := by decide +kernel
  refine ⟨?_, ?_⟩
  rotate_left
  · unfold m_L_kind
    simp [h0, h1, h2, h3, h4, h5, h6, h7, h8, h9, h10, q1, q2, q3, mIsC, isC, mIs, isD, tyT, mXfC, xfC, xfD, List.lookup_cons, sizeLine, addN, lstOf, isL, isQ, appendD, countD, indexD, seqOf, plains, plain, derD, eqB, ixD, atI, ixN, List.findIdx?, List.findIdx?.go, List.countP, List.countP.go]
    all_goals rfl
theorem k_NoCrossing (S : Store) : ∃ X, m_L_kind [.exc "NoCrossing" [] []] S = .ok (.str "crossing") (S ++ X) := by
  have h0 : tab_ValueError.lookup ("NoCrossing" : Str) = some true := by decide +kernel
  have h1 : tab_InvalidCommand.lookup ("NoCrossing" : Str) = some false := by decide +kernel
  have h2 : tab_NoCrossing.lookup ("NoCrossing" : Str) = some true := by decide +kernel
  have h3 : tab_NoMark.lookup ("NoCrossing" : Str) = some false := by decide +kernel
  have h4 : tab_NoPoint.lookup ("NoCrossing" : Str) = some false := by decide +kernel
  have h5 : tab_NoRound.lookup ("NoCrossing" : Str) = some false := by decide +kernel
  have h6 : tab_NoRule.lookup ("NoCrossing" : Str) = some false := by decide +kernel
  have h7 : tab_NotReached.lookup ("NoCrossing" : Str) = some false := by decide +kernel
  have h8 : tab_SyntaxProblem.lookup ("NoCrossing" : Str) = some false := by decide +kernel
  have h9 : tab_TooMany.lookup ("NoCrossing" : Str) = some false := by decide +kernel
  have h10 : tab_ZeroDivisor.lookup ("NoCrossing" : Str) = some false := by decide +kernel
  have q1 : (xcs_line.contains ("SyntaxProblem" : Str)) = true := by decide +kernel
  have q2 : (xcs_column.contains ("SyntaxProblem" : Str)) = true := by decide +kernel
  have q3 : (xcs_limit.contains ("TooMany" : Str)) = true := by decide +kernel
  refine ⟨?_, ?_⟩
  rotate_left
  · unfold m_L_kind
    simp [h0, h1, h2, h3, h4, h5, h6, h7, h8, h9, h10, q1, q2, q3, mIsC, isC, mIs, isD, tyT, mXfC, xfC, xfD, List.lookup_cons, sizeLine, addN, lstOf, isL, isQ, appendD, countD, indexD, seqOf, plains, plain, derD, eqB, ixD, atI, ixN, List.findIdx?, List.findIdx?.go, List.countP, List.countP.go]
    all_goals rfl
theorem k_NoMark (S : Store) : ∃ X, m_L_kind [.exc "NoMark" [] []] S = .ok (.str "mark") (S ++ X) := by
  have h0 : tab_ValueError.lookup ("NoMark" : Str) = some true := by decide +kernel
  have h1 : tab_InvalidCommand.lookup ("NoMark" : Str) = some false := by decide +kernel
  have h2 : tab_NoCrossing.lookup ("NoMark" : Str) = some false := by decide +kernel
  have h3 : tab_NoMark.lookup ("NoMark" : Str) = some true := by decide +kernel
  have h4 : tab_NoPoint.lookup ("NoMark" : Str) = some false := by decide +kernel
  have h5 : tab_NoRound.lookup ("NoMark" : Str) = some false := by decide +kernel
  have h6 : tab_NoRule.lookup ("NoMark" : Str) = some false := by decide +kernel
  have h7 : tab_NotReached.lookup ("NoMark" : Str) = some false := by decide +kernel
  have h8 : tab_SyntaxProblem.lookup ("NoMark" : Str) = some false := by decide +kernel
  have h9 : tab_TooMany.lookup ("NoMark" : Str) = some false := by decide +kernel
  have h10 : tab_ZeroDivisor.lookup ("NoMark" : Str) = some false := by decide +kernel
  have q1 : (xcs_line.contains ("SyntaxProblem" : Str)) = true := by decide +kernel
  have q2 : (xcs_column.contains ("SyntaxProblem" : Str)) = true := by decide +kernel
  have q3 : (xcs_limit.contains ("TooMany" : Str)) = true := by decide +kernel
  refine ⟨?_, ?_⟩
  rotate_left
  · unfold m_L_kind
    simp [h0, h1, h2, h3, h4, h5, h6, h7, h8, h9, h10, q1, q2, q3, mIsC, isC, mIs, isD, tyT, mXfC, xfC, xfD, List.lookup_cons, sizeLine, addN, lstOf, isL, isQ, appendD, countD, indexD, seqOf, plains, plain, derD, eqB, ixD, atI, ixN, List.findIdx?, List.findIdx?.go, List.countP, List.countP.go]
    all_goals rfl
theorem k_NoPoint (S : Store) : ∃ X, m_L_kind [.exc "NoPoint" [] []] S = .ok (.str "point") (S ++ X) := by
  have h0 : tab_ValueError.lookup ("NoPoint" : Str) = some true := by decide +kernel
  have h1 : tab_InvalidCommand.lookup ("NoPoint" : Str) = some false := by decide +kernel
  have h2 : tab_NoCrossing.lookup ("NoPoint" : Str) = some false := by decide +kernel
  have h3 : tab_NoMark.lookup ("NoPoint" : Str) = some false := by decide +kernel
  have h4 : tab_NoPoint.lookup ("NoPoint" : Str) = some true := by decide +kernel
  have h5 : tab_NoRound.lookup ("NoPoint" : Str) = some false := by decide +kernel
  have h6 : tab_NoRule.lookup ("NoPoint" : Str) = some false := by decide +kernel
  have h7 : tab_NotReached.lookup ("NoPoint" : Str) = some false := by decide +kernel
  have h8 : tab_SyntaxProblem.lookup ("NoPoint" : Str) = some false := by decide +kernel
  have h9 : tab_TooMany.lookup ("NoPoint" : Str) = some false := by decide +kernel
  have h10 : tab_ZeroDivisor.lookup ("NoPoint" : Str) = some false := by decide +kernel
  have q1 : (xcs_line.contains ("SyntaxProblem" : Str)) = true := by decide +kernel
  have q2 : (xcs_column.contains ("SyntaxProblem" : Str)) = true := by decide +kernel
  have q3 : (xcs_limit.contains ("TooMany" : Str)) = true := by decide +kernel
  refine ⟨?_, ?_⟩
  rotate_left
  · unfold m_L_kind
    simp [h0, h1, h2, h3, h4, h5, h6, h7, h8, h9, h10, q1, q2, q3, mIsC, isC, mIs, isD, tyT, mXfC, xfC, xfD, List.lookup_cons, sizeLine, addN, lstOf, isL, isQ, appendD, countD, indexD, seqOf, plains, plain, derD, eqB, ixD, atI, ixN, List.findIdx?, List.findIdx?.go, List.countP, List.countP.go]
    all_goals rfl
theorem k_NoRound (S : Store) : ∃ X, m_L_kind [.exc "NoRound" [] []] S = .ok (.str "round") (S ++ X) := by
  have h0 : tab_ValueError.lookup ("NoRound" : Str) = some true := by decide +kernel
  have h1 : tab_InvalidCommand.lookup ("NoRound" : Str) = some false := by decide +kernel
  have h2 : tab_NoCrossing.lookup ("NoRound" : Str) = some false := by decide +kernel
  have h3 : tab_NoMark.lookup ("NoRound" : Str) = some false := by decide +kernel
  have h4 : tab_NoPoint.lookup ("NoRound" : Str) = some false := by decide +kernel
  have h5 : tab_NoRound.lookup ("NoRound" : Str) = some true := by decide +kernel
  have h6 : tab_NoRule.lookup ("NoRound" : Str) = some false := by decide +kernel
  have h7 : tab_NotReached.lookup ("NoRound" : Str) = some false := by decide +kernel
  have h8 : tab_SyntaxProblem.lookup ("NoRound" : Str) = some false := by decide +kernel
  have h9 : tab_TooMany.lookup ("NoRound" : Str) = some false := by decide +kernel
  have h10 : tab_ZeroDivisor.lookup ("NoRound" : Str) = some false := by decide +kernel
  have q1 : (xcs_line.contains ("SyntaxProblem" : Str)) = true := by decide +kernel
  have q2 : (xcs_column.contains ("SyntaxProblem" : Str)) = true := by decide +kernel
  have q3 : (xcs_limit.contains ("TooMany" : Str)) = true := by decide +kernel
  refine ⟨?_, ?_⟩
  rotate_left
  · unfold m_L_kind
    simp [h0, h1, h2, h3, h4, h5, h6, h7, h8, h9, h10, q1, q2, q3, mIsC, isC, mIs, isD, tyT, mXfC, xfC, xfD, List.lookup_cons, sizeLine, addN, lstOf, isL, isQ, appendD, countD, indexD, seqOf, plains, plain, derD, eqB, ixD, atI, ixN, List.findIdx?, List.findIdx?.go, List.countP, List.countP.go]
    all_goals rfl
theorem k_NoRule (S : Store) : ∃ X, m_L_kind [.exc "NoRule" [] []] S = .ok (.str "rule") (S ++ X) := by
  have h0 : tab_ValueError.lookup ("NoRule" : Str) = some true := by decide +kernel
  have h1 : tab_InvalidCommand.lookup ("NoRule" : Str) = some false := by decide +kernel
  have h2 : tab_NoCrossing.lookup ("NoRule" : Str) = some false := by decide +kernel
  have h3 : tab_NoMark.lookup ("NoRule" : Str) = some false := by decide +kernel
  have h4 : tab_NoPoint.lookup ("NoRule" : Str) = some false := by decide +kernel
  have h5 : tab_NoRound.lookup ("NoRule" : Str) = some false := by decide +kernel
  have h6 : tab_NoRule.lookup ("NoRule" : Str) = some true := by decide +kernel
  have h7 : tab_NotReached.lookup ("NoRule" : Str) = some false := by decide +kernel
  have h8 : tab_SyntaxProblem.lookup ("NoRule" : Str) = some false := by decide +kernel
  have h9 : tab_TooMany.lookup ("NoRule" : Str) = some false := by decide +kernel
  have h10 : tab_ZeroDivisor.lookup ("NoRule" : Str) = some false := by decide +kernel
  have q1 : (xcs_line.contains ("SyntaxProblem" : Str)) = true := by decide +kernel
  have q2 : (xcs_column.contains ("SyntaxProblem" : Str)) = true := by decide +kernel
  have q3 : (xcs_limit.contains ("TooMany" : Str)) = true := by decide +kernel
  refine ⟨?_, ?_⟩
  rotate_left
  · unfold m_L_kind
    simp [h0, h1, h2, h3, h4, h5, h6, h7, h8, h9, h10, q1, q2, q3, mIsC, isC, mIs, isD, tyT, mXfC, xfC, xfD, List.lookup_cons, sizeLine, addN, lstOf, isL, isQ, appendD, countD, indexD, seqOf, plains, plain, derD, eqB, ixD, atI, ixN, List.findIdx?, List.findIdx?.go, List.countP, List.countP.go]
    all_goals rfl
theorem k_NotReached (S : Store) : ∃ X, m_L_kind [.exc "NotReached" [] []] S = .ok (.str "reached") (S ++ X) := by
  have h0 : tab_ValueError.lookup ("NotReached" : Str) = some true := by decide +kernel
  have h1 : tab_InvalidCommand.lookup ("NotReached" : Str) = some false := by decide +kernel
  have h2 : tab_NoCrossing.lookup ("NotReached" : Str) = some false := by decide +kernel
  have h3 : tab_NoMark.lookup ("NotReached" : Str) = some false := by decide +kernel
  have h4 : tab_NoPoint.lookup ("NotReached" : Str) = some false := by decide +kernel
  have h5 : tab_NoRound.lookup ("NotReached" : Str) = some false := by decide +kernel
  have h6 : tab_NoRule.lookup ("NotReached" : Str) = some false := by decide +kernel
  have h7 : tab_NotReached.lookup ("NotReached" : Str) = some true := by decide +kernel
  have h8 : tab_SyntaxProblem.lookup ("NotReached" : Str) = some false := by decide +kernel
  have h9 : tab_TooMany.lookup ("NotReached" : Str) = some false := by decide +kernel
  have h10 : tab_ZeroDivisor.lookup ("NotReached" : Str) = some false := by decide +kernel
  have q1 : (xcs_line.contains ("SyntaxProblem" : Str)) = true := by decide +kernel
  have q2 : (xcs_column.contains ("SyntaxProblem" : Str)) = true := by decide +kernel
  have q3 : (xcs_limit.contains ("TooMany" : Str)) = true := by decide +kernel
  refine ⟨?_, ?_⟩
  rotate_left
  · unfold m_L_kind
    simp [h0, h1, h2, h3, h4, h5, h6, h7, h8, h9, h10, q1, q2, q3, mIsC, isC, mIs, isD, tyT, mXfC, xfC, xfD, List.lookup_cons, sizeLine, addN, lstOf, isL, isQ, appendD, countD, indexD, seqOf, plains, plain, derD, eqB, ixD, atI, ixN, List.findIdx?, List.findIdx?.go, List.countP, List.countP.go]
    all_goals rfl
theorem k_ZeroDivisor (S : Store) : ∃ X, m_L_kind [.exc "ZeroDivisor" [] []] S = .ok (.str "zero") (S ++ X) := by
  have h0 : tab_ValueError.lookup ("ZeroDivisor" : Str) = some true := by decide +kernel
  have h1 : tab_InvalidCommand.lookup ("ZeroDivisor" : Str) = some false := by decide +kernel
  have h2 : tab_NoCrossing.lookup ("ZeroDivisor" : Str) = some false := by decide +kernel
  have h3 : tab_NoMark.lookup ("ZeroDivisor" : Str) = some false := by decide +kernel
  have h4 : tab_NoPoint.lookup ("ZeroDivisor" : Str) = some false := by decide +kernel
  have h5 : tab_NoRound.lookup ("ZeroDivisor" : Str) = some false := by decide +kernel
  have h6 : tab_NoRule.lookup ("ZeroDivisor" : Str) = some false := by decide +kernel
  have h7 : tab_NotReached.lookup ("ZeroDivisor" : Str) = some false := by decide +kernel
  have h8 : tab_SyntaxProblem.lookup ("ZeroDivisor" : Str) = some false := by decide +kernel
  have h9 : tab_TooMany.lookup ("ZeroDivisor" : Str) = some false := by decide +kernel
  have h10 : tab_ZeroDivisor.lookup ("ZeroDivisor" : Str) = some true := by decide +kernel
  have q1 : (xcs_line.contains ("SyntaxProblem" : Str)) = true := by decide +kernel
  have q2 : (xcs_column.contains ("SyntaxProblem" : Str)) = true := by decide +kernel
  have q3 : (xcs_limit.contains ("TooMany" : Str)) = true := by decide +kernel
  refine ⟨?_, ?_⟩
  rotate_left
  · unfold m_L_kind
    simp [h0, h1, h2, h3, h4, h5, h6, h7, h8, h9, h10, q1, q2, q3, mIsC, isC, mIs, isD, tyT, mXfC, xfC, xfD, List.lookup_cons, sizeLine, addN, lstOf, isL, isQ, appendD, countD, indexD, seqOf, plains, plain, derD, eqB, ixD, atI, ixN, List.findIdx?, List.findIdx?.go, List.countP, List.countP.go]
    all_goals rfl
theorem k_Syntax (i j : Int) (S : Store) : ∃ X, m_L_kind [.exc "SyntaxProblem" ["column", "line"] [.int j, .int i]] S = .ok (.tup [.str "syntax", .int i, .int j]) (S ++ X) := by
  have h0 : tab_ValueError.lookup ("SyntaxProblem" : Str) = some true := by decide +kernel
  have h1 : tab_InvalidCommand.lookup ("SyntaxProblem" : Str) = some false := by decide +kernel
  have h2 : tab_NoCrossing.lookup ("SyntaxProblem" : Str) = some false := by decide +kernel
  have h3 : tab_NoMark.lookup ("SyntaxProblem" : Str) = some false := by decide +kernel
  have h4 : tab_NoPoint.lookup ("SyntaxProblem" : Str) = some false := by decide +kernel
  have h5 : tab_NoRound.lookup ("SyntaxProblem" : Str) = some false := by decide +kernel
  have h6 : tab_NoRule.lookup ("SyntaxProblem" : Str) = some false := by decide +kernel
  have h7 : tab_NotReached.lookup ("SyntaxProblem" : Str) = some false := by decide +kernel
  have h8 : tab_SyntaxProblem.lookup ("SyntaxProblem" : Str) = some true := by decide +kernel
  have h9 : tab_TooMany.lookup ("SyntaxProblem" : Str) = some false := by decide +kernel
  have h10 : tab_ZeroDivisor.lookup ("SyntaxProblem" : Str) = some false := by decide +kernel
  have q1 : (xcs_line.contains ("SyntaxProblem" : Str)) = true := by decide +kernel
  have q2 : (xcs_column.contains ("SyntaxProblem" : Str)) = true := by decide +kernel
  have q3 : (xcs_limit.contains ("TooMany" : Str)) = true := by decide +kernel
  refine ⟨?_, ?_⟩
  rotate_left
  · unfold m_L_kind
    simp [h0, h1, h2, h3, h4, h5, h6, h7, h8, h9, h10, q1, q2, q3, mIsC, isC, mIs, isD, tyT, mXfC, xfC, xfD, List.lookup_cons, sizeLine, addN, lstOf, isL, isQ, appendD, countD, indexD, seqOf, plains, plain, derD, eqB, ixD, atI, ixN, List.findIdx?, List.findIdx?.go, List.countP, List.countP.go]
    all_goals rfl
theorem k_Many (i : Int) (S : Store) : ∃ X, m_L_kind [.exc "TooMany" ["limit"] [.int i]] S = .ok (.tup [.str "many", .int i]) (S ++ X) := by
  have h0 : tab_ValueError.lookup ("TooMany" : Str) = some true := by decide +kernel
  have h1 : tab_InvalidCommand.lookup ("TooMany" : Str) = some false := by decide +kernel
  have h2 : tab_NoCrossing.lookup ("TooMany" : Str) = some false := by decide +kernel
  have h3 : tab_NoMark.lookup ("TooMany" : Str) = some false := by decide +kernel
  have h4 : tab_NoPoint.lookup ("TooMany" : Str) = some false := by decide +kernel
  have h5 : tab_NoRound.lookup ("TooMany" : Str) = some false := by decide +kernel
  have h6 : tab_NoRule.lookup ("TooMany" : Str) = some false := by decide +kernel
  have h7 : tab_NotReached.lookup ("TooMany" : Str) = some false := by decide +kernel
  have h8 : tab_SyntaxProblem.lookup ("TooMany" : Str) = some false := by decide +kernel
  have h9 : tab_TooMany.lookup ("TooMany" : Str) = some true := by decide +kernel
  have h10 : tab_ZeroDivisor.lookup ("TooMany" : Str) = some false := by decide +kernel
  have q1 : (xcs_line.contains ("SyntaxProblem" : Str)) = true := by decide +kernel
  have q2 : (xcs_column.contains ("SyntaxProblem" : Str)) = true := by decide +kernel
  have q3 : (xcs_limit.contains ("TooMany" : Str)) = true := by decide +kernel
  refine ⟨?_, ?_⟩
  rotate_left
  · unfold m_L_kind
    simp [h0, h1, h2, h3, h4, h5, h6, h7, h8, h9, h10, q1, q2, q3, mIsC, isC, mIs, isD, tyT, mXfC, xfC, xfD, List.lookup_cons, sizeLine, addN, lstOf, isL, isQ, appendD, countD, indexD, seqOf, plains, plain, derD, eqB, ixD, atI, ixN, List.findIdx?, List.findIdx?.go, List.countP, List.countP.go]
    all_goals rfl
end DL

/-! k04's plain law. -/
namespace DL
open PySem PySem.Spec PyProof.Rows L2
theorem toT {m : List D → M D} {l : List D} {S : Store} {d : D} (h : ∃ X, m l S = .ok d (S ++ X)) : ∃ T, m l S = .ok d T := by
  obtain ⟨X, h⟩ := h
  exact ⟨_, h⟩
theorem s_twin {d : D} (S : Store) (h : Shw d) : m_L_twin [d, d] S = .ok (.bl true) S := by
  unfold m_L_twin
  simp [repr_ok S h, eq_str]
theorem shw_any {w1 w2 w3 w4 w5 w6 w7 w8 w9 w0 : Str} {r1 r2 r3 : Int} (h1 : Sz 14000 r1) (h2 : Sz 14000 r2) (h3 : Sz 14000 r3) (p : ∀ x ∈ [w1, w2, w3, w4, w5, w6, w7, w8, w9, w0], PyData.strOk x = true ∧ x.cps.size ≤ 10) : Shw (.lst [.str w1, .str w2, .str w3, .str w4, .str w5, .str w6, .str w7, .str w8, .tup [.str w9, .int r1, .int r2], .tup [.str w0, .int r3]]) := by
  simp only [List.mem_cons, List.not_mem_nil, or_false, forall_eq_or_imp, forall_eq] at p
  obtain ⟨⟨a1, b1⟩, ⟨a2, b2⟩, ⟨a3, b3⟩, ⟨a4, b4⟩, ⟨a5, b5⟩, ⟨a6, b6⟩, ⟨a7, b7⟩, ⟨a8, b8⟩, ⟨a9, b9⟩, ⟨a10, b10⟩⟩ := p
  refine shw_of ?_ ?_ ?_
  · simp only [plain, plains, a1, a2, a3, a4, a5, a6, a7, a8, a9, a10, Bool.and_true]
  · simp only [szD, szDs]
    exact ⟨trivial, trivial, trivial, trivial, trivial, trivial, trivial, trivial, ⟨trivial, h1, h2, trivial⟩, ⟨trivial, h3, trivial⟩, trivial⟩
  · simp only [toPy, toPys, PyData.bulk, PyData.bulkAll]
    omega
theorem shw_words {r1 r2 r3 : Int} (h1 : Sz 14000 r1) (h2 : Sz 14000 r2) (h3 : Sz 14000 r3) : Shw (.lst [.str "command", .str "crossing", .str "mark", .str "point", .str "round", .str "rule", .str "reached", .str "zero", .tup [.str "syntax", .int r1, .int r2], .tup [.str "many", .int r3]]) :=
  shw_any h1 h2 h3 (by decide +kernel)
theorem law_holds : LawD m_law := by
  intro ns hl _
  obtain ⟨S, e, u, _⟩ := s_urn ns hl
  obtain ⟨r1, S1, e1, a0, a1, u1, _⟩ := s_pull (m := 1000) (n := 11) u (by decide) (by unfold Sz; decide) (by decide) (by omega)
  obtain ⟨r2, S2, e2, b0, b1, u2, _⟩ := s_pull (m := 1000) (n := 11) u1 (by decide) (by unfold Sz; decide) (by decide) (by omega)
  obtain ⟨r3, S3, e3, c0, c1, u3, _⟩ := s_pull (m := 1000) (n := 11) u2 (by decide) (by unfold Sz; decide) (by decide) (by omega)
  obtain ⟨d, S4, e4, hd, u4, _⟩ := s_item (l := [.str "", .str "x", .str "not a number"]) u3 (by simp) (by simp) (by omega)
  have lg : ∀ r : Int, 0 ≤ r → r < 1000 → r.natAbs.log2 < 1920 := fun r h0 h1 => by
    have : r.natAbs < 2 ^ 10 := by omega
    by_cases z : r.natAbs = 0
    · rw [z]; decide
    · have := (Nat.log2_lt z).mpr this
      omega
  have ex : ∀ c, tab_SlopeError.lookup c = some true → ∀ ns ds S, isC tab_SlopeError (.exc c ns ds) S = .ok (.bl true) S := fun c h ns ds S => by simp [isC, h]
  obtain ⟨T1, k1⟩ := toT (k_InvalidCommand S4)
  obtain ⟨T2, k2⟩ := toT (k_NoCrossing T1)
  obtain ⟨T3, k3⟩ := toT (k_NoMark T2)
  obtain ⟨T4, k4⟩ := toT (k_NoPoint T3)
  obtain ⟨T5, k5⟩ := toT (k_NoRound T4)
  obtain ⟨T6, k6⟩ := toT (k_NoRule T5)
  obtain ⟨T7, k7⟩ := toT (k_NotReached T6)
  obtain ⟨T8, k8⟩ := toT (k_ZeroDivisor T7)
  obtain ⟨T9, k9⟩ := toT (k_Syntax r1 r2 T8)
  obtain ⟨T10, k10⟩ := toT (k_Many r3 T9)
  refine ⟨T10, ?_⟩
  unfold m_law e_law_4 t_law_3 e_law_2 e_law_1
  have r30 : List.range 3 = [0, 1, 2] := rfl
  have A : (mLc [8] (mRange1 (mC (.int 3))) (gN 8) mYes (mCall 2 m_L_pull (mCons (mVar 1) (mCons (mC (.int 1000)) mNil)))) [some (.lst (ns.map .int)), some (.ref 1), none, none, none, none, none, none, none, none] S = .ok (.lst [.int r1, .int r2, .int r3]) S3 := by
    simp [mLcL, rangeL, r30, e1, e2, e3, sizeLine, wipeD, fzL]
  rw [x_fun]
  simp only [start_def, List.map, List.length, Nat.reduceSub, List.replicate, List.cons_append, List.nil_append, x_seq, x_asg, x_call, x_cons, x_nil, x_var, List.getElem?_cons_zero, List.getElem?_cons_succ, R.bind_ok, R.to_ok, x_gN, List.set, O.then_nx, List.length_cons, List.length_nil, Nat.reduceAdd, if_true, e]
  rw [A]
  have lg1 := lg r1 a0 a1
  have lg2 := lg r2 b0 b1
  have lg3 := lg r3 c0 c1
  have i1 : ∀ S, excI "SyntaxProblem" ["line", "column"] [.int r1, .int r2] S = .ok (.exc "SyntaxProblem" ["column", "line"] [.int r2, .int r1]) S := fun S => by simp [excI, intsD, lg1, lg2]
  have i2 : ∀ S, excI "TooMany" ["limit"] [.int r3] S = .ok (.exc "TooMany" ["limit"] [.int r3]) S := fun S => by simp [excI, intsD, lg3]
  have x1 := ex "InvalidCommand" (by decide +kernel)
  have x2 := ex "NoCrossing" (by decide +kernel)
  have x3 := ex "NoMark" (by decide +kernel)
  have x4 := ex "NoPoint" (by decide +kernel)
  have x5 := ex "NoRound" (by decide +kernel)
  have x6 := ex "NoRule" (by decide +kernel)
  have x7 := ex "NotReached" (by decide +kernel)
  have x8 := ex "ZeroDivisor" (by decide +kernel)
  have x9 := ex "SyntaxProblem" (by decide +kernel)
  have x10 := ex "TooMany" (by decide +kernel)
  have q1 : eqB (.lst []) (.lst []) = true := by simp [eqB, eqBs]
  have tw := s_twin T10 (shw_words (r1 := r1) (r2 := r2) (r3 := r3) (by unfold Sz; exact Nat.lt_trans (show _ < 2 ^ 10 by omega) (Nat.pow_lt_pow_right (by decide) (by decide))) (by unfold Sz; exact Nat.lt_trans (show _ < 2 ^ 10 by omega) (Nat.pow_lt_pow_right (by decide) (by decide))) (by unfold Sz; exact Nat.lt_trans (show _ < 2 ^ 10 by omega) (Nat.pow_lt_pow_right (by decide) (by decide))))
  simp [e4, mExc0, mExcI, i1, i2, sizeLine, addD, lstOf, mLcL, wipeD, fzL, mIsC, x1, x2, x3, x4, x5, x6, x7, x8, x9, x10, neD, plain, plains, q1, k1, k2, k3, k4, k5, k6, k7, k8, k9, k10, tw]
end DL

namespace DL
open PySem PySem.Spec PyProof.Rows L2
def top (i : Nat) : Stmt := PySem.Challenge.pw_slopeland_k04_errors.main.body.getD i (.Pass ⟨0, 0, 0, 0⟩)
structure Top (K : PySem.W.Frag) (mg : Str → Option Value) : Prop where
  b_ValueError : mg "ValueError" = none
  b_abs : mg "abs" = none
  b_enumerate : mg "enumerate" = none
  b_isinstance : mg "isinstance" = none
  b_len : mg "len" = none
  b_range : mg "range" = none
  b_repr : mg "repr" = none
  x_InvalidCommand : ExcF K mg "InvalidCommand"
  x_NoCrossing : ExcF K mg "NoCrossing"
  x_NoMark : ExcF K mg "NoMark"
  x_NoPoint : ExcF K mg "NoPoint"
  x_NoRound : ExcF K mg "NoRound"
  x_NoRule : ExcF K mg "NoRule"
  x_NotReached : ExcF K mg "NotReached"
  x_ZeroDivisor : ExcF K mg "ZeroDivisor"
  i_InvalidCommand : IsCD K mg "InvalidCommand" tab_InvalidCommand
  i_NoCrossing : IsCD K mg "NoCrossing" tab_NoCrossing
  i_NoMark : IsCD K mg "NoMark" tab_NoMark
  i_NoPoint : IsCD K mg "NoPoint" tab_NoPoint
  i_NoRound : IsCD K mg "NoRound" tab_NoRound
  i_NoRule : IsCD K mg "NoRule" tab_NoRule
  i_NotReached : IsCD K mg "NotReached" tab_NotReached
  i_SlopeError : IsCD K mg "SlopeError" tab_SlopeError
  i_SyntaxProblem : IsCD K mg "SyntaxProblem" tab_SyntaxProblem
  i_TooMany : IsCD K mg "TooMany" tab_TooMany
  i_ZeroDivisor : IsCD K mg "ZeroDivisor" tab_ZeroDivisor
  j_ValueError : IsT K mg (.type "ValueError") tab_ValueError
  f_column : XfD K mg "column" xcs_column
  f_limit : XfD K mg "limit" xcs_limit
  f_line : XfD K mg "line" xcs_line
  triv : True
section
variable {P : Program} {w : World} {K : PySem.W.Frag} {mg : Str → Option Value} {base : Heap}
abbrev zi_SyntaxProblem : Stmt := (bodyD (top 3)).getD 0 (.Pass ⟨0, 0, 0, 0⟩)
theorem ok_n_SyntaxProblem {C fI : Addr} {fd : FuncData} (hC : mg "SyntaxProblem" = some (.ref C)) (T : OexC K C) (iC : PySem.W.findIn K (.ref C) "__init__" = some (some (.ref fI))) (tI : PySem.W.typeIn K (.ref fI) = some (.type "function")) (F : Fun K "__init__" "SyntaxProblem.__init__" zi_SyntaxProblem fI fd) (hno : ∀ f ∈ (["line", "column"] : List Str), PySem.W.findIn K (.ref C) f = some none) (B : BaseI K mg "SlopeError") : ExcIF P w K mg base "SyntaxProblem" ["line", "column"] := by
  obtain ⟨CS, b1, b2, b3, b4⟩ := B.ex
  refine ⟨C, fI, fd, ["self", "line", "column"], hC, T, iC, tI, F.ok (N := ["self", "line", "column"]) ⟨rfl, rfl, rfl, by decide +kernel, rfl, by decide +kernel, by decide +kernel⟩ (fun vs H Q E ⟨a, C, is, e, hl, _⟩ => by rw [e]; simp [hl]) fun cdv A outer s H vs Q E hr ⟨a, C, is, e, hl, hb, T, hno, ha, k⟩ => ?_, F.binds (fun _ _ _ _ _ _ us hl => match us, hl with | [_, _, _], _ => rfl), hno⟩
  refine ⟨_, pss_cons (ps_expr (pe_clsinit rfl b1 b2 b3 b4 (pa_cons (pv 0) (pa_cons (pe_joined (.cons pe_str (.cons (pe_fmt (pv 1)) (.cons pe_str (.cons (pe_fmt (pv 2)) .nil))))) pa_nil)))) (pss_cons (ps_ost (pv 0) (pv 1)) (pss_one (ps_ost (pv 0) (pv 2)))), ?_⟩
  exact read_2 (by decide +kernel) (by decide +kernel) e hl hb T hno ha k
abbrev zi_TooMany : Stmt := (bodyD (top 4)).getD 0 (.Pass ⟨0, 0, 0, 0⟩)
theorem ok_n_TooMany {C fI : Addr} {fd : FuncData} (hC : mg "TooMany" = some (.ref C)) (T : OexC K C) (iC : PySem.W.findIn K (.ref C) "__init__" = some (some (.ref fI))) (tI : PySem.W.typeIn K (.ref fI) = some (.type "function")) (F : Fun K "__init__" "TooMany.__init__" zi_TooMany fI fd) (hno : ∀ f ∈ (["limit"] : List Str), PySem.W.findIn K (.ref C) f = some none) (B : BaseI K mg "SlopeError") : ExcIF P w K mg base "TooMany" ["limit"] := by
  obtain ⟨CS, b1, b2, b3, b4⟩ := B.ex
  refine ⟨C, fI, fd, ["self", "limit"], hC, T, iC, tI, F.ok (N := ["self", "limit"]) ⟨rfl, rfl, rfl, by decide +kernel, rfl, by decide +kernel, by decide +kernel⟩ (fun vs H Q E ⟨a, C, is, e, hl, _⟩ => by rw [e]; simp [hl]) fun cdv A outer s H vs Q E hr ⟨a, C, is, e, hl, hb, T, hno, ha, k⟩ => ?_, F.binds (fun _ _ _ _ _ _ us hl => match us, hl with | [_, _], _ => rfl), hno⟩
  refine ⟨_, pss_cons (ps_expr (pe_clsinit rfl b1 b2 b3 b4 (pa_cons (pv 0) (pa_cons (pe_joined (.cons pe_str (.cons (pe_fmt (pv 1)) .nil))) pa_nil)))) (pss_one (ps_ost (pv 0) (pv 1))), ?_⟩
  exact read_1 (by decide +kernel) e hl hb T hno ha k
abbrev zs_L_twin : Stmt := top 17
abbrev n_L_twin : List Str := ["_law_found", "_law_due"]
theorem sc_L_twin : FnScope n_L_twin ["_law_found", "_law_due"] (defScope zs_L_twin) := ⟨rfl, rfl, rfl, by decide +kernel, rfl, by decide +kernel, by decide +kernel⟩
theorem ok_L_twin {f : Addr} {fd : FuncData} (F : Fun K "_law_twin" "_law_twin" zs_L_twin f fd) (hm : mg "_law_twin" = some (.ref f)) (T : Top K mg) (ND : base.NoDigits) : Cal P w K mg base 2 "_law_twin" 2 m_L_twin := by
  have sc := sc_L_twin
  refine cal_mk hm F (fun _ _ _ _ _ _ us hl => match us, hl with | [_, _], _ => rfl) (fn_ofD (k := 1) F sc fun cdv A outer s H E W hr hg tk => ?_)
  have hu : (A.deeper (envOfC "_law_twin" (defScope zs_L_twin) s.heap.objs.size f cdv)).units + 65 < cLine := by have := hr.un; omega
  exact (ds_one (ds_ret (d_cmp (od_eq (Nat.lt_of_succ_lt hu)) (d_callB (cd_repr ND hg (Nat.lt_of_succ_lt hu)) T.b_repr (da_cons (d_var 0) da_nil)) (d_callB (cd_repr ND hg (Nat.lt_of_succ_lt hu)) T.b_repr (da_cons (d_var 1) da_nil)))))
abbrev zs_L_kind : Stmt := top 18
abbrev n_L_kind : List Str := ["_law_caught", "_law_found"]
theorem sc_L_kind : FnScope n_L_kind ["_law_caught"] (defScope zs_L_kind) := ⟨rfl, rfl, rfl, by decide +kernel, rfl, by decide +kernel, by decide +kernel⟩
theorem ok_L_kind {f : Addr} {fd : FuncData} (F : Fun K "_law_kind" "_law_kind" zs_L_kind f fd) (hm : mg "_law_kind" = some (.ref f)) (T : Top K mg) (ND : base.NoDigits) : Cal P w K mg base 2 "_law_kind" 1 m_L_kind := by
  have sc := sc_L_kind
  refine cal_mk hm F (fun _ _ _ _ _ _ us hl => match us, hl with | [_], _ => rfl) (fn_ofD (k := 1) F sc fun cdv A outer s H E W hr hg tk => ?_)
  have hu : (A.deeper (envOfC "_law_kind" (defScope zs_L_kind) s.heap.objs.size f cdv)).units + 65 < cLine := by have := hr.un; omega
  exact (ds_cons (ds_if (db_not (db_val (d_isB T.b_isinstance T.b_ValueError (by decide +kernel) T.j_ValueError (d_var 0)))) (ds_one (ds_ret d_str)) ds_nil)
  (ds_cons (ds_set 1 sc.nd (d_new (da_cons (d_isC T.b_isinstance T.i_InvalidCommand (d_var 0)) (da_cons (d_isC T.b_isinstance T.i_NoCrossing (d_var 0)) (da_cons (d_isC T.b_isinstance T.i_NoMark (d_var 0)) da_nil)))))
  (ds_cons (ds_set 1 sc.nd (d_op od_addN (d_var 1) (d_lst (da_cons (d_isC T.b_isinstance T.i_NoPoint (d_var 0)) (da_cons (d_isC T.b_isinstance T.i_NoRound (d_var 0)) (da_cons (d_isC T.b_isinstance T.i_NoRule (d_var 0)) da_nil))))))
  (ds_cons (ds_set 1 sc.nd (d_op od_addN (d_var 1) (d_lst (da_cons (d_isC T.b_isinstance T.i_NotReached (d_var 0)) (da_cons (d_isC T.b_isinstance T.i_SyntaxProblem (d_var 0)) da_nil)))))
  (ds_cons (ds_set 1 sc.nd (d_op od_addN (d_var 1) (d_lst (da_cons (d_isC T.b_isinstance T.i_TooMany (d_var 0)) da_nil))))
  (ds_cons (ds_expr (d_met md_append PySem.F.plainAttrs_list PySem.F.slot_list_append PySem.F.type_list_append (d_var 1) (da_cons (d_isC T.b_isinstance T.i_ZeroDivisor (d_var 0)) da_nil)))
  (ds_cons (ds_if (db_cmp (od_ne (Nat.lt_of_succ_lt hu)) (d_metA (ma_count hu) (d_var 1) (da_cons d_bl da_nil)) d_int) (ds_one (ds_ret d_str)) ds_nil)
  (ds_cons (ds_if (db_val (d_ix (d_var 1) d_int)) (ds_one (ds_ret (d_tup (da_cons d_str (da_cons (d_xf T.f_line (d_var 0)) (da_cons (d_xf T.f_column (d_var 0)) da_nil)))))) ds_nil)
  (ds_cons (ds_if (db_val (d_ix (d_var 1) d_int)) (ds_one (ds_ret (d_tup (da_cons d_str (da_cons (d_xf T.f_limit (d_var 0)) da_nil))))) ds_nil)
  (ds_one (ds_ret (d_ix (d_lst (da_cons d_str (da_cons d_str (da_cons d_str (da_cons d_str (da_cons d_str (da_cons d_str (da_cons d_str (da_cons d_str (da_cons d_str (da_cons d_str da_nil))))))))))) (d_metA (ma_index hu) (d_var 1) (da_cons d_bl da_nil))))))))))))))
abbrev zs_L_blown : Stmt := top 13
abbrev n_L_blown : List Str := ["_law_value", "_law_at", "_law_modulus", "_law_found", "_law_turn"]
theorem sc_L_blown : FnScope n_L_blown ["_law_value", "_law_at"] (defScope zs_L_blown) := ⟨rfl, rfl, rfl, by decide +kernel, rfl, by decide +kernel, by decide +kernel⟩
theorem ok_L_blown {f : Addr} {fd : FuncData} (F : Fun K "_law_blown" "_law_blown" zs_L_blown f fd) (hm : mg "_law_blown" = some (.ref f)) (T : Top K mg) (ND : base.NoDigits) : Cal P w K mg base 2 "_law_blown" 2 m_L_blown := by
  have sc := sc_L_blown
  refine cal_mk hm F (fun _ _ _ _ _ _ us hl => match us, hl with | [_, _], _ => rfl) (fn_ofD (k := 1) F sc fun cdv A outer s H E W hr hg tk => ?_)
  have hu : (A.deeper (envOfC "_law_blown" (defScope zs_L_blown) s.heap.objs.size f cdv)).units + 65 < cLine := by have := hr.un; omega
  exact (ds_cons (ds_set 2 sc.nd d_int)
  (ds_cons (ds_set 3 sc.nd (d_op od_mod (d_op od_add (d_op od_add (d_op od_mul (d_var 0) d_int) (d_op od_mul d_int (d_var 1))) d_int) (d_var 2)))
  (ds_cons (ds_for (passes_of rfl) rfl (di_range1 T.b_range d_int) (dg_name 4 sc.nd) (ds_one (ds_set 3 sc.nd (d_op od_mod (d_op od_add (d_op od_add (d_op od_add (d_op od_mul (d_var 3) (d_var 3)) (d_op od_mul d_int (d_var 3))) (d_op od_mul d_int (d_var 4))) (d_var 1)) (d_var 2)))))
  (ds_one (ds_ret (d_op od_add (d_op od_mul (d_var 3) (d_var 2)) (d_op od_mod (d_op od_add (d_op od_mul (d_var 3) d_int) (d_var 1)) (d_var 2))))))))
abbrev zs_L_pull : Stmt := top 15
abbrev n_L_pull : List Str := ["_law_urn_here", "_law_many", "_law_numbers", "_law_at", "_law_value", "_law_found"]
theorem sc_L_pull : FnScope n_L_pull ["_law_urn_here", "_law_many"] (defScope zs_L_pull) := ⟨rfl, rfl, rfl, by decide +kernel, rfl, by decide +kernel, by decide +kernel⟩
theorem ok_L_pull {f : Addr} {fd : FuncData} (F : Fun K "_law_pull" "_law_pull" zs_L_pull f fd) (hm : mg "_law_pull" = some (.ref f)) (T : Top K mg) (ND : base.NoDigits) (c_L_blown : Cal P w K mg base 2 "_law_blown" 2 m_L_blown) : Cal P w K mg base 3 "_law_pull" 2 m_L_pull := by
  have sc := sc_L_pull
  refine cal_mk hm F (fun _ _ _ _ _ _ us hl => match us, hl with | [_, _], _ => rfl) (fn_ofD (k := 2) F sc fun cdv A outer s H E W hr hg tk => ?_)
  have hu : (A.deeper (envOfC "_law_pull" (defScope zs_L_pull) s.heap.objs.size f cdv)).units + 65 < cLine := by have := hr.un; omega
  exact (ds_cons (ds_if (db_cmp (od_lt) (d_ix (d_var 0) d_int) (d_var 1)) (ds_cons (ds_par 2 3 rfl sc.nd (d_ix (d_var 0) d_int) (d_ix (d_var 0) d_int))
  (ds_cons (ds_set 4 sc.nd (d_if (db_cmp (od_ne (Nat.lt_of_succ_lt hu)) (d_var 2) (d_lst da_nil)) (d_ix (d_var 2) (d_op od_mod (d_var 3) (d_callB (cd_len) T.b_len (da_cons (d_var 2) da_nil)))) d_int))
  (ds_cons (ds_if (db_bool (dw_or (db_cmp (od_lt) (d_var 4) (d_op od_pow d_int d_int)) (dw_or1 (db_cmp (od_ge) (d_var 3) (d_callB (cd_len) T.b_len (da_cons (d_var 2) da_nil)))))) (ds_one (ds_set 4 sc.nd (d_call c_L_blown (hr.mono (by decide)) hg tk (da_cons (d_op od_add (d_op od_mod (d_var 4) (d_op od_pow d_int d_int)) (d_op od_fdiv (d_var 3) (d_op od_add (d_callB (cd_len) T.b_len (da_cons (d_var 2) da_nil)) d_int))) (da_cons (d_var 3) da_nil))))) ds_nil)
  (ds_cons (ds_asg (dg_sub (W := W) (d_var 0) d_int) (d_op od_add (d_var 3) d_int))
  (ds_one (ds_asg (dg_sub (W := W) (d_var 0) d_int) (d_var 4))))))) ds_nil)
  (ds_cons (ds_set 5 sc.nd (d_op od_mod (d_ix (d_var 0) d_int) (d_var 1)))
  (ds_cons (ds_asg (dg_sub (W := W) (d_var 0) d_int) (d_op od_fdiv (d_ix (d_var 0) d_int) (d_var 1)))
  (ds_one (ds_ret (d_var 5))))))
abbrev zs_L_item : Stmt := top 16
abbrev n_L_item : List Str := ["_law_urn_here", "_law_items"]
theorem sc_L_item : FnScope n_L_item ["_law_urn_here", "_law_items"] (defScope zs_L_item) := ⟨rfl, rfl, rfl, by decide +kernel, rfl, by decide +kernel, by decide +kernel⟩
theorem ok_L_item {f : Addr} {fd : FuncData} (F : Fun K "_law_item" "_law_item" zs_L_item f fd) (hm : mg "_law_item" = some (.ref f)) (T : Top K mg) (ND : base.NoDigits) (c_L_pull : Cal P w K mg base 3 "_law_pull" 2 m_L_pull) : Cal P w K mg base 4 "_law_item" 2 m_L_item := by
  have sc := sc_L_item
  refine cal_mk hm F (fun _ _ _ _ _ _ us hl => match us, hl with | [_, _], _ => rfl) (fn_ofD (k := 3) F sc fun cdv A outer s H E W hr hg tk => ?_)
  have hu : (A.deeper (envOfC "_law_item" (defScope zs_L_item) s.heap.objs.size f cdv)).units + 65 < cLine := by have := hr.un; omega
  exact (ds_one (ds_ret (d_ix (d_var 1) (d_call c_L_pull (hr.mono (by decide)) hg tk (da_cons (d_var 0) (da_cons (d_callB (cd_len) T.b_len (da_cons (d_var 1) da_nil)) da_nil))))))
abbrev zs_L_urn : Stmt := top 14
abbrev n_L_urn : List Str := ["_law_script", "_law_numbers", "_law_at", "_law_one"]
theorem sc_L_urn : FnScope n_L_urn ["_law_script"] (defScope zs_L_urn) := ⟨rfl, rfl, rfl, by decide +kernel, rfl, by decide +kernel, by decide +kernel⟩
theorem ok_L_urn {f : Addr} {fd : FuncData} (F : Fun K "_law_urn" "_law_urn" zs_L_urn f fd) (hm : mg "_law_urn" = some (.ref f)) (T : Top K mg) (ND : base.NoDigits) : Cal P w K mg base 2 "_law_urn" 1 m_L_urn := by
  have sc := sc_L_urn
  refine cal_mk hm F (fun _ _ _ _ _ _ us hl => match us, hl with | [_], _ => rfl) (fn_ofD (k := 1) F sc fun cdv A outer s H E W hr hg tk => ?_)
  have hu : (A.deeper (envOfC "_law_urn" (defScope zs_L_urn) s.heap.objs.size f cdv)).units + 65 < cLine := by have := hr.un; omega
  exact (ds_cons (ds_setLc (own := [("_law_one", 3)]) finL_pl 1 rfl sc.nd (di_seq (d_sl (d_var 0) do_none (do_some d_int))) (blkOk_by (N := n_L_urn) (sc := defScope zs_L_urn) (by decide +kernel)) (fun _ _ _ _ _ => (dgw_name 3 (by decide) sc.nd)) (fun _ _ _ _ _ => dt_nil) (fun _ _ _ _ _ => (d_callB (cd_abs) T.b_abs (da_cons (d_var 3) da_nil))) (sw_true rfl rfl rfl (by decide +kernel)))
  (ds_cons (ds_for (passes_of rfl) rfl (di_enum T.b_enumerate (d_sl (d_var 0) (do_some d_int) (do_some d_int))) (dg_tup rfl (dgs_cons (dg_name 2 sc.nd) (dgs_cons (dg_name 3 sc.nd) dgs_nil))) (ds_one (ds_asg (dg_sub (W := W) (d_var 1) (d_op od_mod (d_var 2) d_int)) (d_op od_add (d_ix (d_var 1) (d_op od_mod (d_var 2) d_int)) (d_callB (cd_abs) T.b_abs (da_cons (d_var 3) da_nil))))))
  (ds_one (ds_ret (d_new (da_cons (d_frz (d_var 1)) (da_cons d_int (da_cons d_int da_nil))))))))
abbrev zs_law : Stmt := top 19
abbrev n_law : List Str := ["_law_script", "_law_urn_here", "_law_line", "_law_spot", "_law_limit", "_law_text", "_law_errors", "_law_words", "_law_turn", "_law_error"]
theorem sc_law : FnScope n_law ["_law_script"] (defScope zs_law) := ⟨rfl, rfl, rfl, by decide +kernel, rfl, by decide +kernel, by decide +kernel⟩
theorem ok_law {f : Addr} {fd : FuncData} (F : Fun K "law" "law" zs_law f fd) (hm : mg "law" = some (.ref f)) (T : Top K mg) (ND : base.NoDigits) (c_L_twin : Cal P w K mg base 2 "_law_twin" 2 m_L_twin) (c_L_kind : Cal P w K mg base 2 "_law_kind" 1 m_L_kind) (c_L_item : Cal P w K mg base 4 "_law_item" 2 m_L_item) (c_L_pull : Cal P w K mg base 3 "_law_pull" 2 m_L_pull) (c_L_urn : Cal P w K mg base 2 "_law_urn" 1 m_L_urn) (n_SyntaxProblem : ExcIF P w K mg base "SyntaxProblem" ["line", "column"]) (n_TooMany : ExcIF P w K mg base "TooMany" ["limit"]) : FnD P w K mg base 5 f fd ["_law_script"] m_law := by
  have sc := sc_law
  refine fn_ofD (k := 4) F sc fun cdv A outer s H E W hr hg tk => ?_
  have hu : (A.deeper (envOfC "law" (defScope zs_law) s.heap.objs.size f cdv)).units + 65 < cLine := by have := hr.un; omega
  exact (ds_cons (ds_set 1 sc.nd (d_call c_L_urn (hr.mono (by decide)) hg tk (da_cons (d_var 0) da_nil)))
  (ds_cons (ds_asg (dg_tup rfl (dgs_cons (dg_name 2 sc.nd) (dgs_cons (dg_name 3 sc.nd) (dgs_cons (dg_name 4 sc.nd) dgs_nil)))) (d_lc (own := [("_law_turn", 8)]) finL_fz rfl sc.nd (di_range1 T.b_range d_int) (blkOk_by (N := n_law) (sc := defScope zs_law) (by decide +kernel)) (fun _ _ _ _ _ => (dgw_name 8 (by decide) sc.nd)) (fun _ _ _ _ _ => dt_nil) (fun _ _ _ _ _ => (d_call c_L_pull (hr.mono (by decide)) hg takes0 (da_cons (d_var 1) (da_cons d_int da_nil))))))
  (ds_cons (ds_set 5 sc.nd (d_call c_L_item (hr.mono (by decide)) hg tk (da_cons (d_var 1) (da_cons (d_lst (da_cons d_str (da_cons d_str (da_cons d_str da_nil)))) da_nil))))
  (ds_cons (ds_set 6 sc.nd (d_lst (da_cons (d_exc0 T.x_InvalidCommand (d_var 5)) (da_cons (d_exc0 T.x_NoCrossing (d_var 5)) (da_cons (d_exc0 T.x_NoMark (d_var 5)) (da_cons (d_exc0 T.x_NoPoint (d_var 5)) da_nil))))))
  (ds_cons (ds_set 6 sc.nd (d_op od_add (d_var 6) (d_lst (da_cons (d_exc0 T.x_NoRound (d_var 5)) (da_cons (d_exc0 T.x_NoRule (d_var 5)) da_nil)))))
  (ds_cons (ds_set 6 sc.nd (d_op od_add (d_var 6) (d_lst (da_cons (d_exc0 T.x_NotReached (d_var 5)) (da_cons (d_exc0 T.x_ZeroDivisor (d_var 5)) (da_cons (d_excI n_SyntaxProblem (hr.mono (by decide)) (da_cons (d_var 2) (da_cons (d_var 3) da_nil))) (da_cons (d_excI n_TooMany (hr.mono (by decide)) (da_cons (d_var 4) da_nil)) da_nil)))))))
  (ds_cons (ds_set 7 sc.nd (d_lst (da_cons d_str (da_cons d_str (da_cons d_str (da_cons d_str (da_cons d_str (da_cons d_str (da_cons d_str (da_cons d_str da_nil))))))))))
  (ds_cons (ds_set 7 sc.nd (d_op od_add (d_var 7) (d_lst (da_cons (d_tup (da_cons d_str (da_cons (d_var 2) (da_cons (d_var 3) da_nil)))) (da_cons (d_tup (da_cons d_str (da_cons (d_var 4) da_nil))) da_nil)))))
  (ds_cons (ds_if (db_cmp (od_ne (Nat.lt_of_succ_lt hu)) (d_lc (own := [("_law_error", 9)]) finL_fz rfl sc.nd (di_seq (d_var 6)) (blkOk_by (N := n_law) (sc := defScope zs_law) (by decide +kernel)) (fun _ _ _ _ _ => (dgw_name 9 (by decide) sc.nd)) (fun _ _ _ _ _ => (dt_one (db_not (db_val (d_isC T.b_isinstance T.i_SlopeError (d_var 9)))))) (fun _ _ _ _ _ => d_int)) (d_lst da_nil)) (ds_one (ds_ret d_bl)) ds_nil)
  (ds_one (ds_ret (d_call c_L_twin (hr.mono (by decide)) hg tk (da_cons (d_lc (own := [("_law_error", 9)]) finL_fz rfl sc.nd (di_seq (d_var 6)) (blkOk_by (N := n_law) (sc := defScope zs_law) (by decide +kernel)) (fun _ _ _ _ _ => (dgw_name 9 (by decide) sc.nd)) (fun _ _ _ _ _ => dt_nil) (fun _ _ _ _ _ => (d_call c_L_kind (hr.mono (by decide)) hg takes0 (da_cons (d_var 9) da_nil)))) (da_cons (d_var 7) da_nil))))))))))))))
end
end DL

namespace DL
open PySem PySem.Spec PyProof.Rows L2
theorem all_mk {l : PySem.W.OpenLaw} {w : World} {K : PySem.W.Frag} {h : Heap} {mg : Str → Option Value} {fa : Addr} (X : K.In h) (G : h.Ns mainGlobals mg) (hfa : mg "law" = some (.ref fa))
    (d_L_twin : DefK K "_law_twin" zs_L_twin)
    (d_L_kind : DefK K "_law_kind" zs_L_kind)
    (d_L_blown : DefK K "_law_blown" zs_L_blown)
    (d_L_pull : DefK K "_law_pull" zs_L_pull)
    (d_L_item : DefK K "_law_item" zs_L_item)
    (d_L_urn : DefK K "_law_urn" zs_L_urn)
    (d_law : DefK K "law" zs_law)
    (b_ValueError : PySem.W.nsIn K mainGlobals "ValueError" = some none)
    (b_abs : PySem.W.nsIn K mainGlobals "abs" = some none)
    (b_enumerate : PySem.W.nsIn K mainGlobals "enumerate" = some none)
    (b_isinstance : PySem.W.nsIn K mainGlobals "isinstance" = some none)
    (b_len : PySem.W.nsIn K mainGlobals "len" = some none)
    (b_range : PySem.W.nsIn K mainGlobals "range" = some none)
    (b_repr : PySem.W.nsIn K mainGlobals "repr" = some none)
    (x_InvalidCommand : ExcK K "InvalidCommand")
    (x_NoCrossing : ExcK K "NoCrossing")
    (x_NoMark : ExcK K "NoMark")
    (x_NoPoint : ExcK K "NoPoint")
    (x_NoRound : ExcK K "NoRound")
    (x_NoRule : ExcK K "NoRule")
    (x_NotReached : ExcK K "NotReached")
    (x_ZeroDivisor : ExcK K "ZeroDivisor")
    (n_SyntaxProblem : InitK K "SyntaxProblem" "SyntaxProblem.__init__" zi_SyntaxProblem ["line", "column"])
    (n_TooMany : InitK K "TooMany" "TooMany.__init__" zi_TooMany ["limit"])
    (y_SlopeError : BaseK K "SlopeError")
    (z_ZeroDivisor : XcK K "ZeroDivisor")
    (z_SyntaxProblem : XcK K "SyntaxProblem")
    (z_TooMany : XcK K "TooMany")
    (z_NoPoint : XcK K "NoPoint")
    (z_NoRule : XcK K "NoRule")
    (z_NoCrossing : XcK K "NoCrossing")
    (z_NotReached : XcK K "NotReached")
    (z_NoMark : XcK K "NoMark")
    (z_InvalidCommand : XcK K "InvalidCommand")
    (z_NoRound : XcK K "NoRound")
    (i_InvalidCommand : ∃ CS, NsK K "InvalidCommand" CS ∧ Each (IsPK K "InvalidCommand") tab_InvalidCommand)
    (i_NoCrossing : ∃ CS, NsK K "NoCrossing" CS ∧ Each (IsPK K "NoCrossing") tab_NoCrossing)
    (i_NoMark : ∃ CS, NsK K "NoMark" CS ∧ Each (IsPK K "NoMark") tab_NoMark)
    (i_NoPoint : ∃ CS, NsK K "NoPoint" CS ∧ Each (IsPK K "NoPoint") tab_NoPoint)
    (i_NoRound : ∃ CS, NsK K "NoRound" CS ∧ Each (IsPK K "NoRound") tab_NoRound)
    (i_NoRule : ∃ CS, NsK K "NoRule" CS ∧ Each (IsPK K "NoRule") tab_NoRule)
    (i_NotReached : ∃ CS, NsK K "NotReached" CS ∧ Each (IsPK K "NotReached") tab_NotReached)
    (i_SlopeError : ∃ CS, NsK K "SlopeError" CS ∧ Each (IsPK K "SlopeError") tab_SlopeError)
    (i_SyntaxProblem : ∃ CS, NsK K "SyntaxProblem" CS ∧ Each (IsPK K "SyntaxProblem") tab_SyntaxProblem)
    (i_TooMany : ∃ CS, NsK K "TooMany" CS ∧ Each (IsPK K "TooMany") tab_TooMany)
    (i_ZeroDivisor : ∃ CS, NsK K "ZeroDivisor" CS ∧ Each (IsPK K "ZeroDivisor") tab_ZeroDivisor)
    (j_ValueError : Each (IsTK K "ValueError") tab_ValueError)
    (f_column : Each (XfPK K "column") xcs_column)
    (f_limit : Each (XfPK K "limit") xcs_limit)
    (f_line : Each (XfPK K "line") xcs_line)
    : ∃ fd : FuncData, (∀ (s : Shared) (v : Value), BindsTo s fd ⟨[v], []⟩ [("_law_script", v)]) ∧ ∀ base : Heap, K.In base → base.Ns mainGlobals mg → base.NoDigits → FnD l.prog w K mg base 5 fa fd ["_law_script"] m_law := by
  have T : Top K mg := { b_ValueError := PySem.W.mg_none_of X G b_ValueError, b_abs := PySem.W.mg_none_of X G b_abs, b_enumerate := PySem.W.mg_none_of X G b_enumerate, b_isinstance := PySem.W.mg_none_of X G b_isinstance, b_len := PySem.W.mg_none_of X G b_len, b_range := PySem.W.mg_none_of X G b_range, b_repr := PySem.W.mg_none_of X G b_repr, x_InvalidCommand := x_InvalidCommand.exc X G, x_NoCrossing := x_NoCrossing.exc X G, x_NoMark := x_NoMark.exc X G, x_NoPoint := x_NoPoint.exc X G, x_NoRound := x_NoRound.exc X G, x_NoRule := x_NoRule.exc X G, x_NotReached := x_NotReached.exc X G, x_ZeroDivisor := x_ZeroDivisor.exc X G, i_InvalidCommand := (let ⟨_, n, e⟩ := i_InvalidCommand; isCD_of X G n (.cons z_ZeroDivisor (.cons z_SyntaxProblem (.cons z_TooMany (.cons z_NoPoint (.cons z_NoRule (.cons z_NoCrossing (.cons z_NotReached (.cons z_NoMark (.cons z_InvalidCommand (.cons z_NoRound .nil)))))))))) e), i_NoCrossing := (let ⟨_, n, e⟩ := i_NoCrossing; isCD_of X G n (.cons z_ZeroDivisor (.cons z_SyntaxProblem (.cons z_TooMany (.cons z_NoPoint (.cons z_NoRule (.cons z_NoCrossing (.cons z_NotReached (.cons z_NoMark (.cons z_InvalidCommand (.cons z_NoRound .nil)))))))))) e), i_NoMark := (let ⟨_, n, e⟩ := i_NoMark; isCD_of X G n (.cons z_ZeroDivisor (.cons z_SyntaxProblem (.cons z_TooMany (.cons z_NoPoint (.cons z_NoRule (.cons z_NoCrossing (.cons z_NotReached (.cons z_NoMark (.cons z_InvalidCommand (.cons z_NoRound .nil)))))))))) e), i_NoPoint := (let ⟨_, n, e⟩ := i_NoPoint; isCD_of X G n (.cons z_ZeroDivisor (.cons z_SyntaxProblem (.cons z_TooMany (.cons z_NoPoint (.cons z_NoRule (.cons z_NoCrossing (.cons z_NotReached (.cons z_NoMark (.cons z_InvalidCommand (.cons z_NoRound .nil)))))))))) e), i_NoRound := (let ⟨_, n, e⟩ := i_NoRound; isCD_of X G n (.cons z_ZeroDivisor (.cons z_SyntaxProblem (.cons z_TooMany (.cons z_NoPoint (.cons z_NoRule (.cons z_NoCrossing (.cons z_NotReached (.cons z_NoMark (.cons z_InvalidCommand (.cons z_NoRound .nil)))))))))) e), i_NoRule := (let ⟨_, n, e⟩ := i_NoRule; isCD_of X G n (.cons z_ZeroDivisor (.cons z_SyntaxProblem (.cons z_TooMany (.cons z_NoPoint (.cons z_NoRule (.cons z_NoCrossing (.cons z_NotReached (.cons z_NoMark (.cons z_InvalidCommand (.cons z_NoRound .nil)))))))))) e), i_NotReached := (let ⟨_, n, e⟩ := i_NotReached; isCD_of X G n (.cons z_ZeroDivisor (.cons z_SyntaxProblem (.cons z_TooMany (.cons z_NoPoint (.cons z_NoRule (.cons z_NoCrossing (.cons z_NotReached (.cons z_NoMark (.cons z_InvalidCommand (.cons z_NoRound .nil)))))))))) e), i_SlopeError := (let ⟨_, n, e⟩ := i_SlopeError; isCD_of X G n (.cons z_ZeroDivisor (.cons z_SyntaxProblem (.cons z_TooMany (.cons z_NoPoint (.cons z_NoRule (.cons z_NoCrossing (.cons z_NotReached (.cons z_NoMark (.cons z_InvalidCommand (.cons z_NoRound .nil)))))))))) e), i_SyntaxProblem := (let ⟨_, n, e⟩ := i_SyntaxProblem; isCD_of X G n (.cons z_ZeroDivisor (.cons z_SyntaxProblem (.cons z_TooMany (.cons z_NoPoint (.cons z_NoRule (.cons z_NoCrossing (.cons z_NotReached (.cons z_NoMark (.cons z_InvalidCommand (.cons z_NoRound .nil)))))))))) e), i_TooMany := (let ⟨_, n, e⟩ := i_TooMany; isCD_of X G n (.cons z_ZeroDivisor (.cons z_SyntaxProblem (.cons z_TooMany (.cons z_NoPoint (.cons z_NoRule (.cons z_NoCrossing (.cons z_NotReached (.cons z_NoMark (.cons z_InvalidCommand (.cons z_NoRound .nil)))))))))) e), i_ZeroDivisor := (let ⟨_, n, e⟩ := i_ZeroDivisor; isCD_of X G n (.cons z_ZeroDivisor (.cons z_SyntaxProblem (.cons z_TooMany (.cons z_NoPoint (.cons z_NoRule (.cons z_NoCrossing (.cons z_NotReached (.cons z_NoMark (.cons z_InvalidCommand (.cons z_NoRound .nil)))))))))) e), j_ValueError := isT_of X G (.cons z_ZeroDivisor (.cons z_SyntaxProblem (.cons z_TooMany (.cons z_NoPoint (.cons z_NoRule (.cons z_NoCrossing (.cons z_NotReached (.cons z_NoMark (.cons z_InvalidCommand (.cons z_NoRound .nil)))))))))) j_ValueError, f_column := xfD_of X G (.cons z_SyntaxProblem .nil) f_column, f_limit := xfD_of X G (.cons z_TooMany .nil) f_limit, f_line := xfD_of X G (.cons z_SyntaxProblem .nil) f_line, triv := trivial }
  obtain ⟨_, _, _, _, _, _, _, _, _, _, _, m1_SyntaxProblem, m2_SyntaxProblem, m3_SyntaxProblem, m4_SyntaxProblem, m5_SyntaxProblem, m6_SyntaxProblem, m7_SyntaxProblem, m8_SyntaxProblem⟩ := n_SyntaxProblem
  obtain ⟨_, _, _, _, _, _, _, _, _, _, _, m1_TooMany, m2_TooMany, m3_TooMany, m4_TooMany, m5_TooMany, m6_TooMany, m7_TooMany, m8_TooMany⟩ := n_TooMany
  obtain ⟨f_L_twin, fd_L_twin, h_L_twin, F_L_twin, B_L_twin⟩ := d_L_twin.get X G
  obtain ⟨f_L_kind, fd_L_kind, h_L_kind, F_L_kind, B_L_kind⟩ := d_L_kind.get X G
  obtain ⟨f_L_blown, fd_L_blown, h_L_blown, F_L_blown, B_L_blown⟩ := d_L_blown.get X G
  obtain ⟨f_L_pull, fd_L_pull, h_L_pull, F_L_pull, B_L_pull⟩ := d_L_pull.get X G
  obtain ⟨f_L_item, fd_L_item, h_L_item, F_L_item, B_L_item⟩ := d_L_item.get X G
  obtain ⟨f_L_urn, fd_L_urn, h_L_urn, F_L_urn, B_L_urn⟩ := d_L_urn.get X G
  obtain ⟨f_law, fd_law, h_law, F_law, B_law⟩ := d_law.get X G
  have e := hfa.symm.trans h_law
  cases e
  refine ⟨fd_law, fun s v => ?_, fun base _ _ ND => ?_⟩
  · obtain ⟨_, _, _, _, _, _, rfl⟩ := B_law
    exact .of_eq rfl
  have n_SyntaxProblem := ok_n_SyntaxProblem (P := l.prog) (w := w) (base := base) (PySem.W.mg_of X G m1_SyntaxProblem) m2_SyntaxProblem m3_SyntaxProblem m4_SyntaxProblem (fun_mk m5_SyntaxProblem m6_SyntaxProblem m7_SyntaxProblem) m8_SyntaxProblem.mem (y_SlopeError.get X G)
  have n_TooMany := ok_n_TooMany (P := l.prog) (w := w) (base := base) (PySem.W.mg_of X G m1_TooMany) m2_TooMany m3_TooMany m4_TooMany (fun_mk m5_TooMany m6_TooMany m7_TooMany) m8_TooMany.mem (y_SlopeError.get X G)
  have c_L_twin := ok_L_twin (P := l.prog) (w := w) (base := base) F_L_twin h_L_twin T ND 
  have c_L_kind := ok_L_kind (P := l.prog) (w := w) (base := base) F_L_kind h_L_kind T ND 
  have c_L_blown := ok_L_blown (P := l.prog) (w := w) (base := base) F_L_blown h_L_blown T ND 
  have c_L_pull := ok_L_pull (P := l.prog) (w := w) (base := base) F_L_pull h_L_pull T ND c_L_blown
  have c_L_item := ok_L_item (P := l.prog) (w := w) (base := base) F_L_item h_L_item T ND c_L_pull
  have c_L_urn := ok_L_urn (P := l.prog) (w := w) (base := base) F_L_urn h_L_urn T ND 
  exact ok_law F_law h_law T ND c_L_twin c_L_kind c_L_item c_L_pull c_L_urn n_SyntaxProblem n_TooMany
end DL
open PySem PySem.W PyProof.Rows in
set_option maxRecDepth 100000 in
set_option maxHeartbeats 0 in
theorem PySem.Challenge.cw_slopeland_k04_errors_holds : PySem.Challenge.rw_slopeland_k04_errors.Holds := by
  w_on; o_law; k_head; (case hw => w_witness2)
  k_fill
  refine DL.walk_D (l := PySem.Challenge.rw_slopeland_k04_errors) (k := 5) (x := "_law_script") (m := DL.m_law) rfl rfl ⟨rfl, by decide, by decide⟩ (fun w h Y => PySem.W.kIn_of Y) ?F DL.law_holds
  case F =>
    intro w mg fa h KX G hmg
    refine' DL.all_mk KX G hmg ?d_L_twin ?d_L_kind ?d_L_blown ?d_L_pull ?d_L_item ?d_L_urn ?d_law ?b_ValueError ?b_abs ?b_enumerate ?b_isinstance ?b_len ?b_range ?b_repr ?x_InvalidCommand ?x_NoCrossing ?x_NoMark ?x_NoPoint ?x_NoRound ?x_NoRule ?x_NotReached ?x_ZeroDivisor ?n_SyntaxProblem ?n_TooMany ?y_SlopeError ?z_ZeroDivisor ?z_SyntaxProblem ?z_TooMany ?z_NoPoint ?z_NoRule ?z_NoCrossing ?z_NotReached ?z_NoMark ?z_InvalidCommand ?z_NoRound ?i_InvalidCommand ?i_NoCrossing ?i_NoMark ?i_NoPoint ?i_NoRound ?i_NoRule ?i_NotReached ?i_SlopeError ?i_SyntaxProblem ?i_TooMany ?i_ZeroDivisor ?j_ValueError ?f_column ?f_limit ?f_line
    (case d_L_twin => exact DL.defK (by k_is) (by k_is) (by k_is) (by k_is) rfl)
    (case d_L_kind => exact DL.defK (by k_is) (by k_is) (by k_is) (by k_is) rfl)
    (case d_L_blown => exact DL.defK (by k_is) (by k_is) (by k_is) (by k_is) rfl)
    (case d_L_pull => exact DL.defK (by k_is) (by k_is) (by k_is) (by k_is) rfl)
    (case d_L_item => exact DL.defK (by k_is) (by k_is) (by k_is) (by k_is) rfl)
    (case d_L_urn => exact DL.defK (by k_is) (by k_is) (by k_is) (by k_is) rfl)
    (case d_law => exact DL.defK (by k_is) (by k_is) (by k_is) (by k_is) rfl)
    (case b_ValueError => k_is)
    (case b_abs => k_is)
    (case b_enumerate => k_is)
    (case b_isinstance => k_is)
    (case b_len => k_is)
    (case b_range => k_is)
    (case b_repr => k_is)
    (case x_InvalidCommand => exact DL.excK (by k_is) (by k_exc) (by k_is) (by k_is) (by k_is))
    (case x_NoCrossing => exact DL.excK (by k_is) (by k_exc) (by k_is) (by k_is) (by k_is))
    (case x_NoMark => exact DL.excK (by k_is) (by k_exc) (by k_is) (by k_is) (by k_is))
    (case x_NoPoint => exact DL.excK (by k_is) (by k_exc) (by k_is) (by k_is) (by k_is))
    (case x_NoRound => exact DL.excK (by k_is) (by k_exc) (by k_is) (by k_is) (by k_is))
    (case x_NoRule => exact DL.excK (by k_is) (by k_exc) (by k_is) (by k_is) (by k_is))
    (case x_NotReached => exact DL.excK (by k_is) (by k_exc) (by k_is) (by k_is) (by k_is))
    (case x_ZeroDivisor => exact DL.excK (by k_is) (by k_exc) (by k_is) (by k_is) (by k_is))
    (case n_SyntaxProblem => exact ⟨_, _, _, _, _, _, _, _, _, _, _, by k_is, DL.oexC (by k_is) (by decide +kernel) (by k_is) (by k_is) (by k_is) (by k_is), by k_is, by k_is, by k_is, by k_is, by k_is, (DL.Each.cons (by k_is) (DL.Each.cons (by k_is) DL.Each.nil))⟩)
    (case n_TooMany => exact ⟨_, _, _, _, _, _, _, _, _, _, _, by k_is, DL.oexC (by k_is) (by decide +kernel) (by k_is) (by k_is) (by k_is) (by k_is), by k_is, by k_is, by k_is, by k_is, by k_is, (DL.Each.cons (by k_is) DL.Each.nil)⟩)
    (case y_SlopeError => exact DL.baseK (by k_is) (by k_is) (by k_is) (by k_is))
    (case z_ZeroDivisor => exact DL.xcK (by k_is) (by k_is) (by k_is) (by k_is) (by k_is) (by k_is) (by k_is) (by k_is) (by k_is))
    (case z_SyntaxProblem => exact DL.xcK (by k_is) (by k_is) (by k_is) (by k_is) (by k_is) (by k_is) (by k_is) (by k_is) (by k_is))
    (case z_TooMany => exact DL.xcK (by k_is) (by k_is) (by k_is) (by k_is) (by k_is) (by k_is) (by k_is) (by k_is) (by k_is))
    (case z_NoPoint => exact DL.xcK (by k_is) (by k_is) (by k_is) (by k_is) (by k_is) (by k_is) (by k_is) (by k_is) (by k_is))
    (case z_NoRule => exact DL.xcK (by k_is) (by k_is) (by k_is) (by k_is) (by k_is) (by k_is) (by k_is) (by k_is) (by k_is))
    (case z_NoCrossing => exact DL.xcK (by k_is) (by k_is) (by k_is) (by k_is) (by k_is) (by k_is) (by k_is) (by k_is) (by k_is))
    (case z_NotReached => exact DL.xcK (by k_is) (by k_is) (by k_is) (by k_is) (by k_is) (by k_is) (by k_is) (by k_is) (by k_is))
    (case z_NoMark => exact DL.xcK (by k_is) (by k_is) (by k_is) (by k_is) (by k_is) (by k_is) (by k_is) (by k_is) (by k_is))
    (case z_InvalidCommand => exact DL.xcK (by k_is) (by k_is) (by k_is) (by k_is) (by k_is) (by k_is) (by k_is) (by k_is) (by k_is))
    (case z_NoRound => exact DL.xcK (by k_is) (by k_is) (by k_is) (by k_is) (by k_is) (by k_is) (by k_is) (by k_is) (by k_is))
    (case i_InvalidCommand => exact ⟨_, DL.nsK (by k_is), (DL.Each.cons (DL.isPK (by k_is) (by k_is) (by kit_is)) (DL.Each.cons (DL.isPK (by k_is) (by k_is) (by kit_is)) (DL.Each.cons (DL.isPK (by k_is) (by k_is) (by kit_is)) (DL.Each.cons (DL.isPK (by k_is) (by k_is) (by kit_is)) (DL.Each.cons (DL.isPK (by k_is) (by k_is) (by kit_is)) (DL.Each.cons (DL.isPK (by k_is) (by k_is) (by kit_is)) (DL.Each.cons (DL.isPK (by k_is) (by k_is) (by kit_is)) (DL.Each.cons (DL.isPK (by k_is) (by k_is) (by kit_is)) (DL.Each.cons (DL.isPK (by k_is) (by k_is) (by kit_is)) (DL.Each.cons (DL.isPK (by k_is) (by k_is) (by kit_is)) DL.Each.nil))))))))))⟩)
    (case i_NoCrossing => exact ⟨_, DL.nsK (by k_is), (DL.Each.cons (DL.isPK (by k_is) (by k_is) (by kit_is)) (DL.Each.cons (DL.isPK (by k_is) (by k_is) (by kit_is)) (DL.Each.cons (DL.isPK (by k_is) (by k_is) (by kit_is)) (DL.Each.cons (DL.isPK (by k_is) (by k_is) (by kit_is)) (DL.Each.cons (DL.isPK (by k_is) (by k_is) (by kit_is)) (DL.Each.cons (DL.isPK (by k_is) (by k_is) (by kit_is)) (DL.Each.cons (DL.isPK (by k_is) (by k_is) (by kit_is)) (DL.Each.cons (DL.isPK (by k_is) (by k_is) (by kit_is)) (DL.Each.cons (DL.isPK (by k_is) (by k_is) (by kit_is)) (DL.Each.cons (DL.isPK (by k_is) (by k_is) (by kit_is)) DL.Each.nil))))))))))⟩)
    (case i_NoMark => exact ⟨_, DL.nsK (by k_is), (DL.Each.cons (DL.isPK (by k_is) (by k_is) (by kit_is)) (DL.Each.cons (DL.isPK (by k_is) (by k_is) (by kit_is)) (DL.Each.cons (DL.isPK (by k_is) (by k_is) (by kit_is)) (DL.Each.cons (DL.isPK (by k_is) (by k_is) (by kit_is)) (DL.Each.cons (DL.isPK (by k_is) (by k_is) (by kit_is)) (DL.Each.cons (DL.isPK (by k_is) (by k_is) (by kit_is)) (DL.Each.cons (DL.isPK (by k_is) (by k_is) (by kit_is)) (DL.Each.cons (DL.isPK (by k_is) (by k_is) (by kit_is)) (DL.Each.cons (DL.isPK (by k_is) (by k_is) (by kit_is)) (DL.Each.cons (DL.isPK (by k_is) (by k_is) (by kit_is)) DL.Each.nil))))))))))⟩)
    (case i_NoPoint => exact ⟨_, DL.nsK (by k_is), (DL.Each.cons (DL.isPK (by k_is) (by k_is) (by kit_is)) (DL.Each.cons (DL.isPK (by k_is) (by k_is) (by kit_is)) (DL.Each.cons (DL.isPK (by k_is) (by k_is) (by kit_is)) (DL.Each.cons (DL.isPK (by k_is) (by k_is) (by kit_is)) (DL.Each.cons (DL.isPK (by k_is) (by k_is) (by kit_is)) (DL.Each.cons (DL.isPK (by k_is) (by k_is) (by kit_is)) (DL.Each.cons (DL.isPK (by k_is) (by k_is) (by kit_is)) (DL.Each.cons (DL.isPK (by k_is) (by k_is) (by kit_is)) (DL.Each.cons (DL.isPK (by k_is) (by k_is) (by kit_is)) (DL.Each.cons (DL.isPK (by k_is) (by k_is) (by kit_is)) DL.Each.nil))))))))))⟩)
    (case i_NoRound => exact ⟨_, DL.nsK (by k_is), (DL.Each.cons (DL.isPK (by k_is) (by k_is) (by kit_is)) (DL.Each.cons (DL.isPK (by k_is) (by k_is) (by kit_is)) (DL.Each.cons (DL.isPK (by k_is) (by k_is) (by kit_is)) (DL.Each.cons (DL.isPK (by k_is) (by k_is) (by kit_is)) (DL.Each.cons (DL.isPK (by k_is) (by k_is) (by kit_is)) (DL.Each.cons (DL.isPK (by k_is) (by k_is) (by kit_is)) (DL.Each.cons (DL.isPK (by k_is) (by k_is) (by kit_is)) (DL.Each.cons (DL.isPK (by k_is) (by k_is) (by kit_is)) (DL.Each.cons (DL.isPK (by k_is) (by k_is) (by kit_is)) (DL.Each.cons (DL.isPK (by k_is) (by k_is) (by kit_is)) DL.Each.nil))))))))))⟩)
    (case i_NoRule => exact ⟨_, DL.nsK (by k_is), (DL.Each.cons (DL.isPK (by k_is) (by k_is) (by kit_is)) (DL.Each.cons (DL.isPK (by k_is) (by k_is) (by kit_is)) (DL.Each.cons (DL.isPK (by k_is) (by k_is) (by kit_is)) (DL.Each.cons (DL.isPK (by k_is) (by k_is) (by kit_is)) (DL.Each.cons (DL.isPK (by k_is) (by k_is) (by kit_is)) (DL.Each.cons (DL.isPK (by k_is) (by k_is) (by kit_is)) (DL.Each.cons (DL.isPK (by k_is) (by k_is) (by kit_is)) (DL.Each.cons (DL.isPK (by k_is) (by k_is) (by kit_is)) (DL.Each.cons (DL.isPK (by k_is) (by k_is) (by kit_is)) (DL.Each.cons (DL.isPK (by k_is) (by k_is) (by kit_is)) DL.Each.nil))))))))))⟩)
    (case i_NotReached => exact ⟨_, DL.nsK (by k_is), (DL.Each.cons (DL.isPK (by k_is) (by k_is) (by kit_is)) (DL.Each.cons (DL.isPK (by k_is) (by k_is) (by kit_is)) (DL.Each.cons (DL.isPK (by k_is) (by k_is) (by kit_is)) (DL.Each.cons (DL.isPK (by k_is) (by k_is) (by kit_is)) (DL.Each.cons (DL.isPK (by k_is) (by k_is) (by kit_is)) (DL.Each.cons (DL.isPK (by k_is) (by k_is) (by kit_is)) (DL.Each.cons (DL.isPK (by k_is) (by k_is) (by kit_is)) (DL.Each.cons (DL.isPK (by k_is) (by k_is) (by kit_is)) (DL.Each.cons (DL.isPK (by k_is) (by k_is) (by kit_is)) (DL.Each.cons (DL.isPK (by k_is) (by k_is) (by kit_is)) DL.Each.nil))))))))))⟩)
    (case i_SlopeError => exact ⟨_, DL.nsK (by k_is), (DL.Each.cons (DL.isPK (by k_is) (by k_is) (by kit_is)) (DL.Each.cons (DL.isPK (by k_is) (by k_is) (by kit_is)) (DL.Each.cons (DL.isPK (by k_is) (by k_is) (by kit_is)) (DL.Each.cons (DL.isPK (by k_is) (by k_is) (by kit_is)) (DL.Each.cons (DL.isPK (by k_is) (by k_is) (by kit_is)) (DL.Each.cons (DL.isPK (by k_is) (by k_is) (by kit_is)) (DL.Each.cons (DL.isPK (by k_is) (by k_is) (by kit_is)) (DL.Each.cons (DL.isPK (by k_is) (by k_is) (by kit_is)) (DL.Each.cons (DL.isPK (by k_is) (by k_is) (by kit_is)) (DL.Each.cons (DL.isPK (by k_is) (by k_is) (by kit_is)) DL.Each.nil))))))))))⟩)
    (case i_SyntaxProblem => exact ⟨_, DL.nsK (by k_is), (DL.Each.cons (DL.isPK (by k_is) (by k_is) (by kit_is)) (DL.Each.cons (DL.isPK (by k_is) (by k_is) (by kit_is)) (DL.Each.cons (DL.isPK (by k_is) (by k_is) (by kit_is)) (DL.Each.cons (DL.isPK (by k_is) (by k_is) (by kit_is)) (DL.Each.cons (DL.isPK (by k_is) (by k_is) (by kit_is)) (DL.Each.cons (DL.isPK (by k_is) (by k_is) (by kit_is)) (DL.Each.cons (DL.isPK (by k_is) (by k_is) (by kit_is)) (DL.Each.cons (DL.isPK (by k_is) (by k_is) (by kit_is)) (DL.Each.cons (DL.isPK (by k_is) (by k_is) (by kit_is)) (DL.Each.cons (DL.isPK (by k_is) (by k_is) (by kit_is)) DL.Each.nil))))))))))⟩)
    (case i_TooMany => exact ⟨_, DL.nsK (by k_is), (DL.Each.cons (DL.isPK (by k_is) (by k_is) (by kit_is)) (DL.Each.cons (DL.isPK (by k_is) (by k_is) (by kit_is)) (DL.Each.cons (DL.isPK (by k_is) (by k_is) (by kit_is)) (DL.Each.cons (DL.isPK (by k_is) (by k_is) (by kit_is)) (DL.Each.cons (DL.isPK (by k_is) (by k_is) (by kit_is)) (DL.Each.cons (DL.isPK (by k_is) (by k_is) (by kit_is)) (DL.Each.cons (DL.isPK (by k_is) (by k_is) (by kit_is)) (DL.Each.cons (DL.isPK (by k_is) (by k_is) (by kit_is)) (DL.Each.cons (DL.isPK (by k_is) (by k_is) (by kit_is)) (DL.Each.cons (DL.isPK (by k_is) (by k_is) (by kit_is)) DL.Each.nil))))))))))⟩)
    (case i_ZeroDivisor => exact ⟨_, DL.nsK (by k_is), (DL.Each.cons (DL.isPK (by k_is) (by k_is) (by kit_is)) (DL.Each.cons (DL.isPK (by k_is) (by k_is) (by kit_is)) (DL.Each.cons (DL.isPK (by k_is) (by k_is) (by kit_is)) (DL.Each.cons (DL.isPK (by k_is) (by k_is) (by kit_is)) (DL.Each.cons (DL.isPK (by k_is) (by k_is) (by kit_is)) (DL.Each.cons (DL.isPK (by k_is) (by k_is) (by kit_is)) (DL.Each.cons (DL.isPK (by k_is) (by k_is) (by kit_is)) (DL.Each.cons (DL.isPK (by k_is) (by k_is) (by kit_is)) (DL.Each.cons (DL.isPK (by k_is) (by k_is) (by kit_is)) (DL.Each.cons (DL.isPK (by k_is) (by k_is) (by kit_is)) DL.Each.nil))))))))))⟩)
    (case j_ValueError => exact (DL.Each.cons (DL.isTK (by k_is) (by kit_is)) (DL.Each.cons (DL.isTK (by k_is) (by kit_is)) (DL.Each.cons (DL.isTK (by k_is) (by kit_is)) (DL.Each.cons (DL.isTK (by k_is) (by kit_is)) (DL.Each.cons (DL.isTK (by k_is) (by kit_is)) (DL.Each.cons (DL.isTK (by k_is) (by kit_is)) (DL.Each.cons (DL.isTK (by k_is) (by kit_is)) (DL.Each.cons (DL.isTK (by k_is) (by kit_is)) (DL.Each.cons (DL.isTK (by k_is) (by kit_is)) (DL.Each.cons (DL.isTK (by k_is) (by kit_is)) DL.Each.nil)))))))))))
    (case f_column => exact (DL.Each.cons (DL.xfPK (by k_is) (by k_is)) DL.Each.nil))
    (case f_limit => exact (DL.Each.cons (DL.xfPK (by k_is) (by k_is)) DL.Each.nil))
    (case f_line => exact (DL.Each.cons (DL.xfPK (by k_is) (by k_is)) DL.Each.nil))

