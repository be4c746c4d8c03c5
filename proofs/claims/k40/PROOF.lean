import PyProof.Rows.All
import Wide.All
import OpenK.AllK
import Wide.FinOn
import HandS.ForMost
import HandS.ForExc
import HandS.Wide
import HandS.TupAny
import HandS.Style
import HandS.Deep
import HandS.IsInst
import HandS.Walk
import HandS.Zip
import HandS.EndBits
import KE.DataFind
import HandS.Strs
import HandS.ExcValue
import KE.KExcIs
import HandS.ExcField
import HandS.ExcIs
import HandS.DictComp
import HandS.NamedTupSort
import KE.GoesMore
import KE.GoesEnum
import KE.GoesZip
import HandS.ExcInit
import HandS.FStr
import HandS.Dict
import HandS.TupMul
import PyProof.ReprRoads
import HandS.Text
import PyProof.ListStr
import PySem.Challenge.RW_slopeland_k40_plans_parsed
set_option Elab.async false
set_option linter.all false
set_option maxRecDepth 100000
set_option maxHeartbeats 4000000
/-! The data layer, 1: data, stores, what stands for what. -/
namespace DL
open PySem PySem.Spec PyProof.Rows L2

/-- plain data; wt: a pair that an iterator made; ref: a place of the store; exc: an exception object as a value -/
inductive D where
  | non
  | bl (b : Bool)
  | int (i : Int)
  | str (x : Str)
  | tup (l : List D)
  | wt (l : List D)
  | lst (l : List D)
  | obj (c : Str) (ns : List Str) (ds : List D)
  | exc (c : Str) (ns : List Str) (ds : List D)
  | ref (n : Nat)
/-- what a place of the store holds -/
inductive Ob where
  | lst (l : List D)
  | ins (c : Str) (ns : List Str) (ds : List D)
  | dct (ks : List Key) (ds : List D)
  | dead
abbrev Store := List Ob
inductive R (α : Type) where
  | ok (a : α) (S : Store)
  | exn (e : D) (S : Store)
  | stuck
abbrev M (α : Type) := Store → R α
def R.bind {α β : Type} : R α → (α → M β) → R β
  | .ok a S, f => f a S
  | .exn e S, _ => .exn e S
  | .stuck, _ => .stuck
@[simp] theorem R.bind_ok {α β : Type} (a : α) (S : Store) (f : α → M β) : (R.ok a S).bind f = f a S := rfl
@[simp] theorem R.bind_exn {α β : Type} (e : D) (S : Store) (f : α → M β) : (R.exn e S : R α).bind f = .exn e S := rfl
@[simp] theorem R.bind_stuck {α β : Type} (f : α → M β) : (R.stuck : R α).bind f = .stuck := rfl
abbrev Env := List (Option D)

/-- the module: its written part, its names -/
structure G where
  K : PySem.W.Frag
  mg : Str → Option Value
/-- an exception object at a, of the class at C, with the dict dd -/
def XO (C : Addr) (dd : Option Addr) (a : Addr) : HO := .ext fun h => ∃ oe vs, h.get? a = some oe ∧ Zc (.ref C) dd oe ∧ oe.data = .fields vs
/-- the dict of an exception: its fields -/
def XD (F : Hp) (dd : Option Addr) (ns : List Str) (xs : List V) : Prop := (dd = none ∧ ns = [] ∧ xs = []) ∨ ∃ dx, dd = some dx ∧ F dx = some (.xd (ns.zip xs))

/-- the tuple at a has no attributes of its own -/
def DN (g : G) (F : Hp) (a : Addr) : Prop := ∃ o : Obj, o.dict = none ∧ ((∃ u, F a = some (.frz o u)) ∨ g.K.lookup a = some o)
section
variable (g : G) (F : Hp) (μ : List Addr)
mutual
def Rep : D → V → Prop
  | .non, v => v = .non
  | .bl b, v => v = .bl b
  | .int i, v => v = .int i
  | .str x, v => v = .str x
  | .tup l, v => ∃ a xs, v = .ref a ∧ (SqT g.K F a xs ∧ DN g F a) ∧ Reps l xs
  | .wt l, v => ∃ a xs, v = .ref a ∧ SqT g.K F a xs ∧ Reps l xs
  | .lst l, v => ∃ a xs, v = .ref a ∧ SqL g.K F a xs ∧ Reps l xs
  | .obj c ns ds, v => ∃ a C dx xs, v = .ref a ∧ g.mg c = some (.ref C) ∧ F a = some (.ins C dx (ns.zip xs)) ∧ Reps ds xs ∧ ns.length = ds.length
  | .exc c ns ds, v => ∃ a C dd xs, v = .ref a ∧ g.mg c = some (.ref C) ∧ F a = some (XO C dd a) ∧ XD F dd ns xs ∧ Reps ds xs ∧ ns.length = ds.length
  | .ref n, v => ∃ p, μ[n]? = some p ∧ v = .ref p
def Reps : List D → List V → Prop
  | [], xs => xs = []
  | d :: ds, xs => ∃ v vs, xs = v :: vs ∧ Rep d v ∧ Reps ds vs
end
def ObRep : Ob → HO → Prop
  | .lst l, o => ∃ xs, o = .lst xs ∧ Reps g F μ l xs
  | .ins c ns ds, o => ∃ C dx xs, g.mg c = some (.ref C) ∧ o = .ins C dx (ns.zip xs) ∧ Reps g F μ ds xs ∧ ns.length = ds.length
  | .dct ks ds, o => ∃ xs, o = .dK (ks.zip xs) ∧ Reps g F μ ds xs ∧ ks.length = ds.length
  | .dead, _ => True
end
/-- an exception in flight -/
def XRep (g : G) (F : Hp) (μ : List Addr) (e : D) (cls : Value) (dd : Option Addr) : Prop :=
  ∃ c ns ds C xs, e = .exc c ns ds ∧ g.mg c = some (.ref C) ∧ cls = .ref C ∧ XD F dd ns xs ∧ Reps g F μ ds xs ∧ ns.length = ds.length

/-- what grows: the frozen part, the places -/
structure Gr (F : Hp) (μ : List Addr) (F' : Hp) (μ' : List Addr) : Prop where
  f : ∀ a o, F a = some o → F' a = some o
  m : ∀ (n : Nat) (p : Addr), μ[n]? = some p → μ'[n]? = some p
theorem Gr.refl (F : Hp) (μ : List Addr) : Gr F μ F μ := ⟨fun _ _ h => h, fun _ _ h => h⟩
theorem Gr.trans {F F1 F2 : Hp} {μ μ1 μ2 : List Addr} (a : Gr F μ F1 μ1) (b : Gr F1 μ1 F2 μ2) : Gr F μ F2 μ2 := ⟨fun x o h => b.f x o (a.f x o h), fun n p h => b.m n p (a.m n p h)⟩

section
variable {g : G} {F F' : Hp} {μ μ' : List Addr}
theorem rd_mono (gr : Gr F μ F' μ') {a : Addr} {u : HO} (h : Rd F a u) : Rd F' a u := by
  rcases h with h | ⟨o, h⟩
  · exact .inl (gr.f _ _ h)
  · exact .inr ⟨o, gr.f _ _ h⟩
theorem sqL_mono (gr : Gr F μ F' μ') {a : Addr} {xs : List V} (h : SqL g.K F a xs) : SqL g.K F' a xs := h.imp (rd_mono gr) id
theorem sqT_mono (gr : Gr F μ F' μ') {a : Addr} {xs : List V} (h : SqT g.K F a xs) : SqT g.K F' a xs := h.imp (rd_mono gr) id
theorem dn_mono (gr : Gr F μ F' μ') {a : Addr} (h : DN g F a) : DN g F' a := by
  obtain ⟨o, h1, h2⟩ := h
  rcases h2 with ⟨u, h2⟩ | h2
  · exact ⟨o, h1, .inl ⟨u, gr.f _ _ h2⟩⟩
  · exact ⟨o, h1, .inr h2⟩
theorem xd_mono (gr : Gr F μ F' μ') {dd : Option Addr} {ns : List Str} {xs : List V} (h : XD F dd ns xs) : XD F' dd ns xs := by
  rcases h with h | ⟨dx, e, h⟩
  · exact .inl h
  · exact .inr ⟨dx, e, gr.f _ _ h⟩
mutual
theorem Rep.mono (gr : Gr F μ F' μ') : ∀ (d : D) {v : V}, Rep g F μ d v → Rep g F' μ' d v
  | .non, _, h => h
  | .bl _, _, h => h
  | .int _, _, h => h
  | .str _, _, h => h
  | .tup l, _, h => by
    simp only [Rep] at h ⊢
    obtain ⟨a, xs, e, h1, h2⟩ := h
    exact ⟨a, xs, e, ⟨sqT_mono gr h1.1, dn_mono gr h1.2⟩, Reps.mono gr l h2⟩
  | .wt l, _, h => by
    simp only [Rep] at h ⊢
    obtain ⟨a, xs, e, h1, h2⟩ := h
    exact ⟨a, xs, e, sqT_mono gr h1, Reps.mono gr l h2⟩
  | .lst l, _, h => by
    simp only [Rep] at h ⊢
    obtain ⟨a, xs, e, h1, h2⟩ := h
    exact ⟨a, xs, e, sqL_mono gr h1, Reps.mono gr l h2⟩
  | .obj c ns ds, _, h => by
    simp only [Rep] at h ⊢
    obtain ⟨a, C, dx, xs, e, h0, h1, h2, h3⟩ := h
    exact ⟨a, C, dx, xs, e, h0, gr.f _ _ h1, Reps.mono gr ds h2, h3⟩
  | .exc c ns ds, _, h => by
    simp only [Rep] at h ⊢
    obtain ⟨a, C, dd, xs, e, h0, h1, h2, h3, h4⟩ := h
    exact ⟨a, C, dd, xs, e, h0, gr.f _ _ h1, xd_mono gr h2, Reps.mono gr ds h3, h4⟩
  | .ref n, _, h => by
    simp only [Rep] at h ⊢
    obtain ⟨p, h1, h2⟩ := h
    exact ⟨p, gr.m _ _ h1, h2⟩
theorem Reps.mono (gr : Gr F μ F' μ') : ∀ (ds : List D) {vs : List V}, Reps g F μ ds vs → Reps g F' μ' ds vs
  | [], _, h => by simpa only [Reps] using h
  | d :: ds, _, h => by
    simp only [Reps] at h ⊢
    obtain ⟨v, vs, e, h1, h2⟩ := h
    exact ⟨v, vs, e, Rep.mono gr d h1, Reps.mono gr ds h2⟩
end
theorem ObRep.mono (gr : Gr F μ F' μ') : ∀ {o : Ob} {u : HO}, ObRep g F μ o u → ObRep g F' μ' o u
  | .lst l, _, ⟨xs, e, h⟩ => ⟨xs, e, h.mono gr⟩
  | .ins c ns ds, _, ⟨C, dx, xs, e0, e, h, hl⟩ => ⟨C, dx, xs, e0, e, h.mono gr, hl⟩
  | .dct ks ds, _, ⟨xs, e, h, hl⟩ => ⟨xs, e, h.mono gr, hl⟩
  | .dead, _, _ => trivial
theorem XRep.mono (gr : Gr F μ F' μ') {e : D} {cls : Value} {dd : Option Addr} (h : XRep g F μ e cls dd) : XRep g F' μ' e cls dd := by
  obtain ⟨c, ns, ds, C, xs, h1, h2, h3, h4, h5, h6⟩ := h
  exact ⟨c, ns, ds, C, xs, h1, h2, h3, xd_mono gr h4, h5.mono gr, h6⟩
theorem Reps.length : ∀ {ds : List D} {vs : List V}, Reps g F μ ds vs → ds.length = vs.length
  | [], _, h => by simp only [Reps] at h; subst h; rfl
  | d :: ds, _, h => by
    simp only [Reps] at h
    obtain ⟨v, vs, rfl, _, h⟩ := h
    simp [Reps.length h]
theorem reps_nil : Reps g F μ [] [] := by simp only [Reps]
theorem reps_cons {d : D} {ds : List D} {v : V} {vs : List V} (h : Rep g F μ d v) (t : Reps g F μ ds vs) : Reps g F μ (d :: ds) (v :: vs) := by
  simp only [Reps]; exact ⟨v, vs, rfl, h, t⟩
theorem Reps.get : ∀ {ds : List D} {vs : List V} {i : Nat} {d : D}, Reps g F μ ds vs → ds[i]? = some d → ∃ v, vs[i]? = some v ∧ Rep g F μ d v
  | [], _, _, _, _, e => by simp at e
  | x :: ds, _, i, d, h, e => by
    simp only [Reps] at h
    obtain ⟨v, vs, rfl, h1, h2⟩ := h
    cases i with
    | zero => simp at e; subst e; exact ⟨v, rfl, h1⟩
    | succ i => exact Reps.get (i := i) h2 (by simpa using e)
theorem Reps.getV : ∀ {ds : List D} {vs : List V} {i : Nat} {v : V}, Reps g F μ ds vs → vs[i]? = some v → ∃ d, ds[i]? = some d ∧ Rep g F μ d v
  | [], _, _, _, h, e => by simp only [Reps] at h; subst h; simp at e
  | x :: ds, _, i, d, h, e => by
    simp only [Reps] at h
    obtain ⟨v, vs, rfl, h1, h2⟩ := h
    cases i with
    | zero => simp at e; subst e; exact ⟨x, rfl, h1⟩
    | succ i => exact Reps.getV (i := i) h2 (by simpa using e)
theorem Reps.append : ∀ {ds es : List D} {vs ws : List V}, Reps g F μ ds vs → Reps g F μ es ws → Reps g F μ (ds ++ es) (vs ++ ws)
  | [], _, _, _, h, k => by simp only [Reps] at h; subst h; exact k
  | d :: ds, _, _, _, h, k => by
    simp only [Reps] at h
    obtain ⟨v, vs, rfl, h1, h2⟩ := h
    exact reps_cons h1 (Reps.append h2 k)
theorem Reps.take : ∀ {ds : List D} {vs : List V} (n : Nat), Reps g F μ ds vs → Reps g F μ (ds.take n) (vs.take n)
  | ds, vs, 0, _ => by simpa using reps_nil
  | [], _, n + 1, h => by simp only [Reps] at h; subst h; exact reps_nil
  | d :: ds, _, n + 1, h => by
    simp only [Reps] at h
    obtain ⟨v, vs, rfl, h1, h2⟩ := h
    exact reps_cons h1 (Reps.take n h2)
theorem Reps.drop : ∀ {ds : List D} {vs : List V} (n : Nat), Reps g F μ ds vs → Reps g F μ (ds.drop n) (vs.drop n)
  | ds, vs, 0, h => by simpa using h
  | [], _, n + 1, h => by simp only [Reps] at h; subst h; exact reps_nil
  | d :: ds, _, n + 1, h => by
    simp only [Reps] at h
    obtain ⟨v, vs, rfl, h1, h2⟩ := h
    exact Reps.drop n h2
theorem Reps.set : ∀ {ds : List D} {vs : List V} (i : Nat) {d : D} {v : V}, Reps g F μ ds vs → Rep g F μ d v → Reps g F μ (ds.set i d) (vs.set i v)
  | [], _, _, _, _, h, _ => by simp only [Reps] at h; subst h; simpa using reps_nil
  | x :: ds, _, i, d, v, h, k => by
    simp only [Reps] at h
    obtain ⟨w, vs, rfl, h1, h2⟩ := h
    cases i with
    | zero => exact reps_cons k h2
    | succ i => exact reps_cons h1 (Reps.set i h2 k)
theorem Reps.reverse : ∀ {ds : List D} {vs : List V}, Reps g F μ ds vs → Reps g F μ ds.reverse vs.reverse
  | [], _, h => by simp only [Reps] at h; subst h; exact reps_nil
  | d :: ds, _, h => by
    simp only [Reps] at h
    obtain ⟨v, vs, rfl, h1, h2⟩ := h
    rw [List.reverse_cons, List.reverse_cons]
    exact (Reps.reverse h2).append (reps_cons h1 reps_nil)
theorem reps_ints : ∀ (ns : List Int), Reps g F μ (ns.map D.int) (ns.map V.int)
  | [] => reps_nil
  | n :: ns => reps_cons (by simp only [Rep]) (reps_ints ns)
end

/-- the abstract heap H holds what the store says, beside the frozen part F; P: what others hold for themselves -/
structure Rel (g : G) (P : Hp) (F : Hp) (μ : List Addr) (S : Store) (H : Hp) : Prop where
  sub : ∀ a o, F a = some o → H a = some o
  len : μ.length = S.length
  live : ∀ (n : Nat) (o : Ob) (p : Addr), S[n]? = some o → μ[n]? = some p → (o = .dead ∧ H p ≠ none) ∨ ∃ u, F p = none ∧ H p = some u ∧ ObRep g F μ o u
  inj : ∀ (m n : Nat) (p : Addr), μ[m]? = some p → μ[n]? = some p → m = n
  priv : ∀ (a : Addr) (o : HO), P a = some o → H a = some o ∧ F a = none ∧ ∀ n : Nat, μ[n]? ≠ some a

/-- slots: what the data say of them -/
structure EnvR (g : G) (F : Hp) (μ : List Addr) (ρ : Env) (σ : L2.St) : Prop where
  len : ρ.length = σ.length
  at_ : ∀ (i : Nat) (d : D), ρ[i]? = some (some d) → ∃ v, σ[i]? = some (some v) ∧ Rep g F μ d v
section
variable {g : G} {P F F' : Hp} {μ μ' : List Addr} {ρ : Env} {σ : L2.St} {S : Store} {H : Hp}
theorem EnvR.mono (gr : Gr F μ F' μ') (h : EnvR g F μ ρ σ) : EnvR g F' μ' ρ σ := ⟨h.len, fun i d e => by
  obtain ⟨v, h1, h2⟩ := h.at_ i d e
  exact ⟨v, h1, h2.mono gr⟩⟩
theorem EnvR.set {i : Nat} {d : D} {v : V} (h : EnvR g F μ ρ σ) (r : Rep g F μ d v) : EnvR g F μ (ρ.set i (some d)) (σ.set i (some v)) := ⟨by simp [h.len], fun j e hj => by
  by_cases hij : i = j
  · subst hij
    have hlt : i < ρ.length := by
      rcases Nat.lt_or_ge i ρ.length with q | q
      · exact q
      · rw [List.getElem?_eq_none (by simpa using q)] at hj; cases hj
    rw [List.getElem?_set_self hlt] at hj
    cases hj
    exact ⟨v, List.getElem?_set_self (by rw [← h.len]; exact hlt), r⟩
  · rw [List.getElem?_set_ne hij] at hj
    obtain ⟨w, h1, h2⟩ := h.at_ j e hj
    exact ⟨w, by rw [List.getElem?_set_ne hij]; exact h1, h2⟩⟩
/-- a new frozen thing -/
theorem Rel.froz {p : Addr} {o : HO} (r : Rel g P F μ S H) (hp : H p = none) : Rel g P (upd F p o) μ S (upd H p o) ∧ Gr F μ (upd F p o) μ := by
  have hF : F p = none := by
    cases e : F p with
    | none => rfl
    | some u => rw [r.sub p u e] at hp; cases hp
  have gr : Gr F μ (upd F p o) μ := ⟨fun a u e => by rw [upd_ne (ne_of_none e hF)]; exact e, fun _ _ h => h⟩
  refine ⟨⟨fun a u e => ?_, r.len, fun n ob q h1 h2 => ?_, r.inj, fun a u e => ?_⟩, gr⟩
  · by_cases ha : a = p
    · subst ha; rw [upd_same] at e ⊢; exact e
    · rw [upd_ne ha] at e ⊢; exact r.sub a u e
  · rcases r.live n ob q h1 h2 with ⟨e, h⟩ | ⟨u, f1, h1', k⟩
    · exact .inl ⟨e, by rw [upd_ne (fun z => h (by rw [z]; exact hp))]; exact h⟩
    · have ne : q ≠ p := fun z => by rw [z, hp] at h1'; cases h1'
      exact .inr ⟨u, by rw [upd_ne ne]; exact f1, by rw [upd_ne ne]; exact h1', k.mono gr⟩
  · obtain ⟨e1, e2, e3⟩ := r.priv a u e
    have ne := ne_of_none e1 hp
    exact ⟨by rw [upd_ne ne]; exact e1, by rw [upd_ne ne]; exact e2, e3⟩
/-- a new thing that H alone knows -/
theorem Rel.more {p : Addr} {o : HO} (r : Rel g P F μ S H) (hp : H p = none) : Rel g P F μ S (upd H p o) := by
  refine ⟨fun a u e => ?_, r.len, fun n ob q h1 h2 => ?_, r.inj, fun a u e => ?_⟩
  · rw [upd_ne (ne_of_none (r.sub a u e) hp)]; exact r.sub a u e
  · rcases r.live n ob q h1 h2 with ⟨e, h⟩ | ⟨u, f1, h1', k⟩
    · exact .inl ⟨e, by rw [upd_ne (fun z => h (by rw [z]; exact hp))]; exact h⟩
    · exact .inr ⟨u, f1, by rw [upd_ne (fun z => by rw [z, hp] at h1'; cases h1')]; exact h1', k⟩
  · obtain ⟨e1, e2, e3⟩ := r.priv a u e
    exact ⟨by rw [upd_ne (ne_of_none e1 hp)]; exact e1, e2, e3⟩
/-- .. and hides -/
theorem Rel.hide {p : Addr} {o : HO} (r : Rel g P F μ S H) (hp : H p = none) : Rel g (upd P p o) F μ S (upd H p o) := by
  have q := r.more (o := o) hp
  have hF : F p = none := by
    cases e : F p with
    | none => rfl
    | some u => rw [r.sub p u e] at hp; cases hp
  refine ⟨q.sub, q.len, q.live, q.inj, fun a u e => ?_⟩
  by_cases ha : a = p
  · subst ha
    rw [upd_same] at e; cases e
    refine ⟨upd_same, hF, fun n z => ?_⟩
    have hn : n < S.length := by rw [← r.len]; exact (List.getElem?_eq_some_iff.mp z).1
    rcases r.live n _ a (List.getElem?_eq_getElem hn) z with ⟨_, k⟩ | ⟨w, _, k, _⟩
    · exact k hp
    · rw [hp] at k; cases k
  · rw [upd_ne ha] at e
    exact q.priv a u e
/-- a hidden thing is written -/
theorem Rel.hidden {p : Addr} {o o' : HO} (r : Rel g P F μ S H) (hp : P p = some o) : Rel g (upd P p o') F μ S (upd H p o') := by
  obtain ⟨h1, h2, h3⟩ := r.priv p o hp
  refine ⟨fun a u e => ?_, r.len, fun n ob q k1 k2 => ?_, r.inj, fun a u e => ?_⟩
  · rw [upd_ne (ne_of_none e h2)]; exact r.sub a u e
  · have ne : q ≠ p := fun z => h3 n (by rw [k2, z])
    rw [upd_ne ne]; exact r.live n ob q k1 k2
  · by_cases ha : a = p
    · subst ha
      rw [upd_same] at e ⊢; cases e
      exact ⟨rfl, h2, h3⟩
    · rw [upd_ne ha] at e ⊢
      exact r.priv a u e
/-- less is hidden -/
theorem Rel.less {P' : Hp} (r : Rel g P F μ S H) (h : ∀ a o, P' a = some o → P a = some o) : Rel g P' F μ S H := ⟨r.sub, r.len, r.live, r.inj, fun a o e => r.priv a o (h a o e)⟩
/-- a hidden thing becomes frozen -/
theorem Rel.unhide {p : Addr} {o : HO} {P' : Hp} (r : Rel g P F μ S H) (hp : P p = some o) (h : ∀ a o, P' a = some o → P a = some o) (hn : P' p = none) : Rel g P' (upd F p o) μ S H ∧ Gr F μ (upd F p o) μ := by
  obtain ⟨h1, h2, h3⟩ := r.priv p o hp
  have gr : Gr F μ (upd F p o) μ := ⟨fun a u e => by rw [upd_ne (ne_of_none e h2)]; exact e, fun _ _ h => h⟩
  refine ⟨⟨fun a u e => ?_, r.len, fun n ob q k1 k2 => ?_, r.inj, fun a u e => ?_⟩, gr⟩
  · by_cases ha : a = p
    · subst ha; rw [upd_same] at e; cases e; exact h1
    · rw [upd_ne ha] at e; exact r.sub a u e
  · have ne : q ≠ p := fun z => h3 n (by rw [k2, z])
    rcases r.live n ob q k1 k2 with e | ⟨u, f1, h1', k⟩
    · exact .inl e
    · exact .inr ⟨u, by rw [upd_ne ne]; exact f1, h1', k.mono gr⟩
  · obtain ⟨e1, e2, e3⟩ := r.priv a u (h a u e)
    exact ⟨e1, by rw [upd_ne (ne_of_none e hn)]; exact e2, e3⟩
/-- a new place of the store -/
theorem Rel.push {p : Addr} {u : HO} {o : Ob} (r : Rel g P F μ S H) (hp : H p = none) (ho : ObRep g F (μ ++ [p]) o u) : Rel g P F (μ ++ [p]) (S ++ [o]) (upd H p u) ∧ Gr F μ F (μ ++ [p]) ∧ (μ ++ [p])[S.length]? = some p := by
  have hF : F p = none := by
    cases e : F p with
    | none => rfl
    | some u => rw [r.sub p u e] at hp; cases hp
  have gr : Gr F μ F (μ ++ [p]) := ⟨fun _ _ h => h, fun n q h => by
    have : n < μ.length := (List.getElem?_eq_some_iff.mp h).1
    rw [List.getElem?_append_left this]; exact h⟩
  have there : ∀ n q, μ[n]? = some q → q ≠ p := fun n q h z => by
    have hn : n < S.length := by rw [← r.len]; exact (List.getElem?_eq_some_iff.mp h).1
    rcases r.live n _ q (List.getElem?_eq_getElem hn) h with ⟨_, k⟩ | ⟨w, _, k, _⟩
    · exact k (by rw [z]; exact hp)
    · rw [z, hp] at k; cases k
  have last : (μ ++ [p])[S.length]? = some p := by rw [← r.len]; simp
  refine ⟨⟨fun a w e => ?_, by simp [r.len], fun n ob q h1 h2 => ?_, fun m n q h1 h2 => ?_, fun a w e => ?_⟩, gr, last⟩
  · rw [upd_ne (ne_of_none e hF)]; exact r.sub a w e
  · by_cases hn : n < S.length
    · rw [List.getElem?_append_left hn] at h1
      rw [List.getElem?_append_left (by rw [r.len]; exact hn)] at h2
      have ne := there n q h2
      rcases r.live n ob q h1 h2 with ⟨e, h⟩ | ⟨w, f1, h1', k⟩
      · exact .inl ⟨e, by rw [upd_ne ne]; exact h⟩
      · exact .inr ⟨w, f1, by rw [upd_ne ne]; exact h1', k.mono gr⟩
    · have e1 : n = S.length := by
        have := (List.getElem?_eq_some_iff.mp h1).1
        simp at this; omega
      subst e1
      rw [last] at h2; cases h2
      simp at h1; subst h1
      exact .inr ⟨u, hF, upd_same, ho⟩
  · by_cases hm : m < μ.length
    · by_cases hn : n < μ.length
      · rw [List.getElem?_append_left hm] at h1
        rw [List.getElem?_append_left hn] at h2
        exact r.inj m n q h1 h2
      · rw [List.getElem?_append_left hm] at h1
        have := (List.getElem?_eq_some_iff.mp h2).1
        have e2 : n = μ.length := by simp at this; omega
        subst e2; simp at h2; subst h2
        exact absurd rfl (there m _ h1)
    · have := (List.getElem?_eq_some_iff.mp h1).1
      have e1 : m = μ.length := by simp at this; omega
      subst e1; simp at h1; subst h1
      by_cases hn : n < μ.length
      · rw [List.getElem?_append_left hn] at h2
        exact absurd rfl (there n _ h2)
      · have := (List.getElem?_eq_some_iff.mp h2).1
        simp at this; omega
  · obtain ⟨e1, e2, e3⟩ := r.priv a w e
    have ne := ne_of_none e1 hp
    refine ⟨by rw [upd_ne ne]; exact e1, e2, fun n z => ?_⟩
    by_cases hn : n < μ.length
    · rw [List.getElem?_append_left hn] at z
      exact e3 n z
    · have := (List.getElem?_eq_some_iff.mp z).1
      have e1 : n = μ.length := by simp at this; omega
      subst e1; simp at z
      exact ne z.symm
/-- a hidden thing becomes a place -/
theorem Rel.place {p : Addr} {u : HO} {o : Ob} {P' : Hp} (r : Rel g P F μ S H) (hp : P p = some u) (h : ∀ a o, P' a = some o → P a = some o) (hn : P' p = none) (ho : ObRep g F (μ ++ [p]) o u) :
    Rel g P' F (μ ++ [p]) (S ++ [o]) H ∧ Gr F μ F (μ ++ [p]) ∧ (μ ++ [p])[S.length]? = some p := by
  obtain ⟨hH, hF, hμ⟩ := r.priv p u hp
  have gr : Gr F μ F (μ ++ [p]) := ⟨fun _ _ h => h, fun n q h => by
    have : n < μ.length := (List.getElem?_eq_some_iff.mp h).1
    rw [List.getElem?_append_left this]; exact h⟩
  have there : ∀ n q, μ[n]? = some q → q ≠ p := fun n q h z => hμ n (by rw [h, z])
  have last : (μ ++ [p])[S.length]? = some p := by rw [← r.len]; simp
  refine ⟨⟨r.sub, by simp [r.len], fun n ob q h1 h2 => ?_, fun m n q h1 h2 => ?_, fun a w e => ?_⟩, gr, last⟩
  · by_cases hn : n < S.length
    · rw [List.getElem?_append_left hn] at h1
      rw [List.getElem?_append_left (by rw [r.len]; exact hn)] at h2
      rcases r.live n ob q h1 h2 with e | ⟨w, f1, h1', k⟩
      · exact .inl e
      · exact .inr ⟨w, f1, h1', k.mono gr⟩
    · have e1 : n = S.length := by
        have := (List.getElem?_eq_some_iff.mp h1).1
        simp at this; omega
      subst e1
      rw [last] at h2; cases h2
      simp at h1; subst h1
      exact .inr ⟨u, hF, hH, ho⟩
  · by_cases hm : m < μ.length
    · by_cases hn : n < μ.length
      · rw [List.getElem?_append_left hm] at h1
        rw [List.getElem?_append_left hn] at h2
        exact r.inj m n q h1 h2
      · rw [List.getElem?_append_left hm] at h1
        have := (List.getElem?_eq_some_iff.mp h2).1
        have e2 : n = μ.length := by simp at this; omega
        subst e2; simp at h2; subst h2
        exact absurd rfl (there m _ h1)
    · have := (List.getElem?_eq_some_iff.mp h1).1
      have e1 : m = μ.length := by simp at this; omega
      subst e1; simp at h1; subst h1
      by_cases hn : n < μ.length
      · rw [List.getElem?_append_left hn] at h2
        exact absurd rfl (there n _ h2)
      · have := (List.getElem?_eq_some_iff.mp h2).1
        simp at this; omega
  · obtain ⟨e1, e2, e3⟩ := r.priv a w (h a w e)
    refine ⟨e1, e2, fun n z => ?_⟩
    have ne : a ≠ p := fun q => by rw [q, hn] at e; cases e
    by_cases hn : n < μ.length
    · rw [List.getElem?_append_left hn] at z
      exact e3 n z
    · have := (List.getElem?_eq_some_iff.mp z).1
      have e1 : n = μ.length := by simp at this; omega
      subst e1; simp at z
      exact ne z.symm
/-- a place is written -/
theorem Rel.write {n : Nat} {p : Addr} {u : HO} {o o' : Ob} (r : Rel g P F μ S H) (hs : S[n]? = some o) (hd : o ≠ .dead) (hm : μ[n]? = some p) (ho : ObRep g F μ o' u) : Rel g P F μ (S.set n o') (upd H p u) := by
  have hF : F p = none := by
    rcases r.live n o p hs hm with ⟨e, _⟩ | ⟨_, f, _⟩
    · exact absurd e hd
    · exact f
  have hn : n < S.length := (List.getElem?_eq_some_iff.mp hs).1
  refine ⟨fun a w e => ?_, by simpa using r.len, fun m ob q h1 h2 => ?_, r.inj, fun a w e => ?_⟩
  · rw [upd_ne (ne_of_none e hF)]; exact r.sub a w e
  · by_cases hnm : n = m
    · subst hnm
      rw [List.getElem?_set_self hn] at h1; cases h1
      rw [hm] at h2; cases h2
      exact .inr ⟨u, hF, upd_same, ho⟩
    · rw [List.getElem?_set_ne hnm] at h1
      have ne : q ≠ p := fun z => hnm (r.inj n m p hm (by rw [h2, z]))
      rcases r.live m ob q h1 h2 with ⟨e, h⟩ | ⟨w, f1, h1', k⟩
      · exact .inl ⟨e, by rw [upd_ne ne]; exact h⟩
      · exact .inr ⟨w, f1, by rw [upd_ne ne]; exact h1', k⟩
  · obtain ⟨e1, e2, e3⟩ := r.priv a w e
    exact ⟨by rw [upd_ne (fun z => e3 n (by rw [z]; exact hm))]; exact e1, e2, e3⟩
/-- a place becomes frozen -/
theorem Rel.freeze {n : Nat} {p : Addr} {u : HO} {o : Ob} (r : Rel g P F μ S H) (hs : S[n]? = some o) (hd : o ≠ .dead) (hm : μ[n]? = some p) (hu : H p = some u) : Rel g P (upd F p u) μ (S.set n .dead) H ∧ Gr F μ (upd F p u) μ ∧ ObRep g F μ o u := by
  rcases r.live n o p hs hm with ⟨e, _⟩ | ⟨u', hF, hu', k⟩
  · exact absurd e hd
  rw [hu] at hu'; cases hu'
  have hn : n < S.length := (List.getElem?_eq_some_iff.mp hs).1
  have gr : Gr F μ (upd F p u) μ := ⟨fun a u e => by rw [upd_ne (ne_of_none e hF)]; exact e, fun _ _ h => h⟩
  refine ⟨⟨fun a w e => ?_, by simpa using r.len, fun m ob q h1 h2 => ?_, r.inj, fun a w e => ?_⟩, gr, k⟩
  · by_cases ha : a = p
    · subst ha; rw [upd_same] at e; cases e; exact hu
    · rw [upd_ne ha] at e; exact r.sub a w e
  · by_cases hnm : n = m
    · subst hnm
      rw [List.getElem?_set_self hn] at h1; cases h1
      rw [hm] at h2; cases h2
      exact .inl ⟨rfl, by rw [hu]; intro z; cases z⟩
    · rw [List.getElem?_set_ne hnm] at h1
      have ne : q ≠ p := fun z => hnm (r.inj n m p hm (by rw [h2, z]))
      rcases r.live m ob q h1 h2 with h | ⟨w, f1, h1', k⟩
      · exact .inl h
      · exact .inr ⟨w, by rw [upd_ne ne]; exact f1, h1', k.mono gr⟩
  · obtain ⟨e1, e2, e3⟩ := r.priv a w e
    exact ⟨e1, by rw [upd_ne (fun z => e3 n (by rw [z]; exact hm))]; exact e2, e3⟩
end
end DL

/-! The data layer, 2: the judgements, calls. -/
namespace DL
open PySem PySem.Spec PyProof.Rows L2
abbrev EM := Env → M D
abbrev AM := Env → M (List D)
abbrev BM := Env → M Bool
abbrev gX (X : Cx) : G := ⟨X.K, X.mg⟩

/-- what a mirror's result tells: Q behind it, E where it raises -/
def Fin {α β : Type} (rep : Hp → List Addr → α → β → Prop) (g : G) (P F : Hp) (μ : List Addr) (r : R α) (Q : β → Hp → Prop) (E : XK) : Prop :=
  match r with
  | .ok a S => ∀ F' μ' H' b, Gr F μ F' μ' → Rel g P F' μ' S H' → rep F' μ' a b → Q b H'
  | .exn e S => ∀ F' μ' H' cls dd, Gr F μ F' μ' → Rel g P F' μ' S H' → XRep g F' μ' e cls dd → E cls dd H'
  | .stuck => False
abbrev repD (g : G) : Hp → List Addr → D → V → Prop := fun F μ => Rep g F μ
abbrev repA (g : G) : Hp → List Addr → List D → List V → Prop := fun F μ => Reps g F μ
abbrev repB : Hp → List Addr → Bool → Bool → Prop := fun _ _ a b => a = b
section
variable {α β γ δ : Type} {rep : Hp → List Addr → α → β → Prop} {rep' : Hp → List Addr → γ → δ → Prop} {g : G} {P F F1 : Hp} {μ μ1 : List Addr} {r : R α} {Q Q' : β → Hp → Prop} {E E' : XK}
theorem Fin.gr (gr : Gr F μ F1 μ1) (h : Fin rep g P F μ r Q E) : Fin rep g P F1 μ1 r Q E := by
  cases r with
  | ok a S => exact fun F' μ' H' b g' => h F' μ' H' b (gr.trans g')
  | exn e S => exact fun F' μ' H' c d g' => h F' μ' H' c d (gr.trans g')
  | stuck => exact h
theorem Fin.imp (h : Fin rep g P F μ r Q E) (hq : ∀ b H, Q b H → Q' b H) (he : ∀ c d H, E c d H → E' c d H) : Fin rep g P F μ r Q' E' := by
  cases r with
  | ok a S => exact fun F' μ' H' b g1 g2 g3 => hq _ _ (h F' μ' H' b g1 g2 g3)
  | exn e S => exact fun F' μ' H' c d g1 g2 g3 => he _ _ _ (h F' μ' H' c d g1 g2 g3)
  | stuck => exact h
/-- one after another -/
theorem Fin.bind {f : α → M γ} {Q : δ → Hp → Prop} (h : Fin rep' g P F μ (r.bind f) Q E) :
    Fin rep g P F μ r (fun b H1 => ∃ a F1 μ1 S1, Gr F μ F1 μ1 ∧ Rel g P F1 μ1 S1 H1 ∧ rep F1 μ1 a b ∧ Fin rep' g P F1 μ1 (f a S1) Q E) E := by
  cases r with
  | ok a S => exact fun F' μ' H' b g1 g2 g3 => ⟨a, F', μ', S, g1, g2, g3, Fin.gr g1 h⟩
  | exn e S => exact h
  | stuck => exact h
/-- at the end -/
theorem Fin.here {a : α} {S : Store} {b : β} {H : Hp} (h : Fin rep g P F μ (.ok a S) Q E) (rl : Rel g P F μ S H) (rp : rep F μ a b) : Q b H := h F μ H b (Gr.refl _ _) rl rp
end

/-- the reading of an expression by its mirror -/
def tD (g : G) (W : WX) (f : EM) : TE := fun σ H Q => ∃ P ρ F μ S, EnvR g F μ ρ σ ∧ Rel g P F μ S H ∧ Fin (repD g) g P F μ (f ρ S) Q (fun c d H' => W c d σ H')
def tDA (g : G) (W : WX) (f : AM) : TA := fun σ H Q => ∃ P ρ F μ S, EnvR g F μ ρ σ ∧ Rel g P F μ S H ∧ Fin (repA g) g P F μ (f ρ S) Q (fun c d H' => W c d σ H')
def tDB (g : G) (W : WX) (f : BM) : TT := fun σ H Q => ∃ P ρ F μ S, EnvR g F μ ρ σ ∧ Rel g P F μ S H ∧ Fin repB g P F μ (f ρ S) Q (fun c d H' => W c d σ H')
abbrev DE (X : Cx) (W : WX) (e : Expr) (f : EM) : Prop := PE X e (tD (gX X) W f)
abbrev DA (X : Cx) (W : WX) (es : List Expr) (f : AM) : Prop := PA X es (tDA (gX X) W f)
abbrev DB (X : Cx) (W : WX) (e : Expr) (f : BM) : Prop := PT X e (tDB (gX X) W f)
abbrev DW (X : Cx) (W : WX) (e : Expr) (f : BM) : Prop := PW X e (tDB (gX X) W f)

theorem PE.weak {X : Cx} {e : Expr} {t t' : TE} (h : PE X e t) (w : ∀ σ H Q, t' σ H Q → t σ H Q) : PE X e t' := ⟨fun pins s σ H Q I k => h.run pins s σ H Q I (w σ H Q k)⟩
theorem PT.weak {X : Cx} {e : Expr} {t t' : TT} (h : PT X e t) (w : ∀ σ H Q, t' σ H Q → t σ H Q) : PT X e t' := ⟨fun pins s σ H Q I k => h.run pins s σ H Q I (w σ H Q k)⟩
theorem PW.weak {X : Cx} {e : Expr} {t t' : TT} (h : PW X e t) (w : ∀ σ H Q, t' σ H Q → t σ H Q) : PW X e t' := ⟨fun wh pins s σ H Q I k => h.run wh pins s σ H Q I (w σ H Q k)⟩
theorem PA.weak {X : Cx} {es : List Expr} {t t' : TA} (h : PA X es t) (w : ∀ σ H Q, t' σ H Q → t σ H Q) : PA X es t' := ⟨fun p pins s σ H Q I k => h.run p pins s σ H Q I (w σ H Q k)⟩
theorem PS.weak {X : Cx} {st : Stmt} {t t' : TS} (h : PS X st t) (w : ∀ D σ H, t' D σ H → t D σ H) : PS X st t' := ⟨fun pins s σ H D I k => h.run pins s σ H D I (w D σ H k)⟩
theorem PSs.weak {X : Cx} {st : List Stmt} {t t' : TS} (h : PSs X st t) (w : ∀ D σ H, t' D σ H → t D σ H) : PSs X st t' := ⟨fun pins s σ H D I k => h.run pins s σ H D I (w D σ H k)⟩

section
variable {g : G} {W : WX} {P F : Hp} {μ : List Addr} {S : Store} {ρ : Env} {σ : L2.St} {H : Hp}
/-- the mirror's value, then Q -/
theorem tD.run {f : EM} {Q : VK} (e : EnvR g F μ ρ σ) (r : Rel g P F μ S H) (h : Fin (repD g) g P F μ (f ρ S) Q (fun c d H' => W c d σ H')) : tD g W f σ H Q := ⟨P, ρ, F, μ, S, e, r, h⟩
theorem tDA.run {f : AM} {Q : List V → Hp → Prop} (e : EnvR g F μ ρ σ) (r : Rel g P F μ S H) (h : Fin (repA g) g P F μ (f ρ S) Q (fun c d H' => W c d σ H')) : tDA g W f σ H Q := ⟨P, ρ, F, μ, S, e, r, h⟩
theorem tDB.run {f : BM} {Q : Bool → Hp → Prop} (e : EnvR g F μ ρ σ) (r : Rel g P F μ S H) (h : Fin repB g P F μ (f ρ S) Q (fun c d H' => W c d σ H')) : tDB g W f σ H Q := ⟨P, ρ, F, μ, S, e, r, h⟩
end

/-! ### names, constants -/
def mVar (i : Nat) : EM := fun ρ S => match ρ[i]? with
  | some (some d) => .ok d S
  | _ => .stuck
def mC (d : D) : EM := fun _ S => .ok d S
section
variable {X : Cx} {W : WX}
theorem d_var (i : Nat) {x : Str} {pos : Pos} (hN : X.N[i]? = some x := by rfl) (hv : Vis X.env.scope x := by first | exact Or.inl rfl | exact Or.inr (Or.inl rfl) | exact Or.inr (Or.inr rfl)) (hd : (x == ("__debug__" : Str)) = false := by decide)
    (hcd : (x == ("__classdict__" : Str)) = false := by decide) : DE X W (.Name x pos) (mVar i) := by
  refine PE.weak (pe_var hN hv hd hcd) fun σ H Q h => ?_
  obtain ⟨P, ρ, F, μ, S, e, r, h⟩ := h
  unfold mVar at h
  split at h
  · rename_i d q
    obtain ⟨v, h1, h2⟩ := e.at_ i d q
    exact ⟨v, h1, h.here r h2⟩
  · exact h.elim
theorem d_const {e : Expr} {v : V} {d : D} (h : PE X e (tC v)) (hr : ∀ F μ, Rep (gX X) F μ d v) : DE X W e (mC d) := PE.weak h fun σ H Q ⟨P, ρ, F, μ, S, e, r, k⟩ => k.here r (hr F μ)
theorem d_int {i j pos} : DE X W (.Constant (.int i) j pos) (mC (.int i)) := d_const pe_int fun _ _ => by simp only [Rep]
theorem d_bl {b j pos} : DE X W (.Constant (.bool b) j pos) (mC (.bl b)) := d_const pe_bl fun _ _ => by simp only [Rep]
theorem d_non {j pos} : DE X W (.Constant .none j pos) (mC .non) := d_const pe_non fun _ _ => by simp only [Rep]
theorem d_str {x j pos} : DE X W (.Constant (.str x) j pos) (mC (.str x)) := d_const pe_str fun _ _ => by simp only [Rep]
/-- a constant of the module -/
def GlobD (g : G) (x : Str) (d : D) : Prop := ∃ v u, g.mg x = some u ∧ RelV v u ∧ ∀ F μ, Rep g F μ d v
theorem d_glob {x : Str} {d : D} {pos : Pos} (G : GlobD (gX X) x d) (hg : Gl X x := by rfl) (hd : (x == ("__debug__" : Str)) = false := by decide) : DE X W (.Name x pos) (mC d) := by
  obtain ⟨v, u, h1, h2, h3⟩ := G
  exact d_const (pe_glob hg h1 h2 hd) h3
end

/-! ### arguments -/
def mNil : AM := fun _ S => .ok [] S
def mCons (f : EM) (r : AM) : AM := fun ρ S => (f ρ S).bind fun x S => (r ρ S).bind fun xs S => .ok (x :: xs) S
section
variable {X : Cx} {W : WX}
theorem da_nil : DA X W [] mNil := PA.weak pa_nil fun σ H Q ⟨P, ρ, F, μ, S, e, r, k⟩ => k.here r reps_nil
theorem da_cons {e : Expr} {es : List Expr} {f : EM} {fr : AM} (h : DE X W e f) (hr : DA X W es fr) (hs : starEach (e :: es) X.env = (false, eval e X.env) :: starEach es X.env := by rfl) : DA X W (e :: es) (mCons f fr) := by
  refine PA.weak (pa_cons h hr hs) fun σ H Q ⟨P, ρ, F, μ, S, en, r, k⟩ => ?_
  refine tD.run en r (Fin.imp (Fin.bind (rep := repD (gX X)) k) (fun v H1 ⟨a, F1, μ1, S1, g1, r1, p1, k1⟩ => ?_) fun _ _ _ z => z)
  refine tDA.run (en.mono g1) r1 (Fin.imp (Fin.bind (rep := repA (gX X)) k1) (fun vs H2 ⟨b, F2, μ2, S2, g2, r2, p2, k2⟩ => ?_) fun _ _ _ z => z)
  exact k2.here r2 (reps_cons (p1.mono g2) p2)
end

/-! ### operators by values -/
/-- a two-place operation as its mirror says -/
def OpD (X : Cx) (f : Value → Value → Sem Value) (m : D → D → M D) : Prop :=
  OpR X f (fun v w H Q => ∃ x y P F μ S E, Rel (gX X) P F μ S H ∧ Rep (gX X) F μ x v ∧ Rep (gX X) F μ y w ∧ Fin (repD (gX X)) (gX X) P F μ (m x y S) Q E)
def mOp (m : D → D → M D) (fa fb : EM) : EM := fun ρ S => (fa ρ S).bind fun x S => (fb ρ S).bind fun y S => m x y S
section
variable {X : Cx} {W : WX} {a b : Expr} {fa fb : EM} {m : D → D → M D} {pos : Pos}
theorem op_run {r : R2} (hr : r = fun v w H Q => ∃ x y P F μ S E, Rel (gX X) P F μ S H ∧ Rep (gX X) F μ x v ∧ Rep (gX X) F μ y w ∧ Fin (repD (gX X)) (gX X) P F μ (m x y S) Q E) :
    ∀ σ H Q, tD (gX X) W (mOp m fa fb) σ H Q → tOp r (tD (gX X) W fa) (tD (gX X) W fb) σ H Q := fun σ H Q ⟨P, ρ, F, μ, S, en, rl, k⟩ => by
  refine tD.run en rl (Fin.imp (Fin.bind (rep := repD (gX X)) k) (fun v H1 ⟨x, F1, μ1, S1, g1, r1, p1, k1⟩ => ?_) fun _ _ _ z => z)
  refine tD.run (en.mono g1) r1 (Fin.imp (Fin.bind (rep := repD (gX X)) k1) (fun w H2 ⟨y, F2, μ2, S2, g2, r2, p2, k2⟩ => ?_) fun _ _ _ z => z)
  rw [hr]
  exact ⟨x, y, P, F2, μ2, S2, _, r2, p1.mono g2, p2, k2⟩
theorem d_op {op : Operator} (ho : OpD X (binaryOp op) m) (ha : DE X W a fa) (hb : DE X W b fb) : DE X W (.BinOp a op b pos) (mOp m fa fb) := PE.weak (pe_op ho ha hb) (op_run rfl)
theorem d_cmp {op : CmpOp} (ho : OpD X (compareOp op) m) (ha : DE X W a fa) (hb : DE X W b fb) (hm : behindInMarks op b = false := by first | exact nomark _ | rfl) : DE X W (.Compare a [op] [b] pos) (mOp m fa fb) := PE.weak (pe_cmpR ho ha hb hm) (op_run rfl)
/-- a bool -/
def toB : D → M Bool
  | .bl b, S => .ok b S
  | _, _ => .stuck
def mB (f : EM) : BM := fun ρ S => (f ρ S).bind toB
theorem toB_fin {g : G} {P F : Hp} {μ : List Addr} {d : D} {S : Store} {H : Hp} {v : V} {Q : Bool → Hp → Prop} {E : XK} (k : Fin repB g P F μ (toB d S) Q E) (r : Rel g P F μ S H) (p : Rep g F μ d v) : ∃ c, v = .bl c ∧ Q c H := by
  cases d <;> first | exact k.elim | skip
  simp only [Rep] at p
  exact ⟨_, p, k.here r rfl⟩
theorem db_val {e : Expr} {f : EM} (h : DE X W e f) (he : ∀ whole, isTrue e X.env whole = (do let v ← whole; standAt e.pos; holding [v] (truthy v)) := by intro _; rfl) : DB X W e (mB f) :=
  PT.weak (pt_val h he) fun σ H Q ⟨P, ρ, F, μ, S, en, rl, k⟩ => tD.run en rl (Fin.imp (Fin.bind (rep := repD (gX X)) k) (fun v H1 ⟨x, F1, μ1, S1, g1, r1, p1, k1⟩ => toB_fin k1 r1 p1) fun _ _ _ z => z)
theorem db_cmp {op : CmpOp} (ho : OpD X (compareOp op) m) (ha : DE X W a fa) (hb : DE X W b fb) (hm : behindInMarks op b = false := by first | exact nomark _ | rfl) : DB X W (.Compare a [op] [b] pos) (mB (mOp m fa fb)) :=
  PT.weak (pt_cmpR ho ha hb hm) fun σ H Q ⟨P, ρ, F, μ, S, en, rl, k⟩ => op_run rfl σ H _ (tD.run en rl (Fin.imp (Fin.bind (rep := repD (gX X)) k) (fun v H1 ⟨x, F1, μ1, S1, g1, r1, p1, k1⟩ => toB_fin k1 r1 p1) fun _ _ _ z => z))
/-- a one-place operation -/
def UnD (X : Cx) (f : Value → Sem Value) (m : D → M D) : Prop := UnR X f (fun v H Q => ∃ x P F μ S E, Rel (gX X) P F μ S H ∧ Rep (gX X) F μ x v ∧ Fin (repD (gX X)) (gX X) P F μ (m x S) Q E)
def mUn (m : D → M D) (fa : EM) : EM := fun ρ S => (fa ρ S).bind m
theorem d_un {op : UnaryOp} {m : D → M D} (ho : UnD X (unaryOp op) m) (ha : DE X W a fa) : DE X W (.UnaryOp op a pos) (mUn m fa) :=
  PE.weak (pe_un ho ha) fun σ H Q ⟨P, ρ, F, μ, S, en, rl, k⟩ => tD.run en rl (Fin.imp (Fin.bind (rep := repD (gX X)) k) (fun v H1 ⟨x, F1, μ1, S1, g1, r1, p1, k1⟩ => ⟨x, P, F1, μ1, S1, _, r1, p1, k1⟩) fun _ _ _ z => z)
end

/-! ### and, or, not, if -/
def mAnd (f h : BM) : BM := fun ρ S => (f ρ S).bind fun b S => if b then h ρ S else .ok false S
def mOr (f h : BM) : BM := fun ρ S => (f ρ S).bind fun b S => if b then .ok true S else h ρ S
def mNot (f : BM) : BM := fun ρ S => (f ρ S).bind fun b S => .ok (!b) S
def mAndV (f h : EM) : EM := fun ρ S => (f ρ S).bind fun d S => (toB d S).bind fun b S => if b then h ρ S else .ok (.bl false) S
def mOrV (f h : EM) : EM := fun ρ S => (f ρ S).bind fun d S => (toB d S).bind fun b S => if b then .ok (.bl true) S else h ρ S
def mNotV (f : EM) : EM := fun ρ S => (f ρ S).bind fun d S => (toB d S).bind fun b S => .ok (.bl (!b)) S
def mIf (c : BM) (f h : EM) : EM := fun ρ S => (c ρ S).bind fun b S => if b then f ρ S else h ρ S
theorem toB_bind {γ δ : Type} {rep' : Hp → List Addr → γ → δ → Prop} {g : G} {P F : Hp} {μ : List Addr} {d : D} {S : Store} {v : V} {f : Bool → M γ} {Q : δ → Hp → Prop} {E : XK} (k : Fin rep' g P F μ ((toB d S).bind f) Q E) (p : Rep g F μ d v) :
    ∃ c, v = .bl c ∧ Fin rep' g P F μ (f c S) Q E := by
  cases d <;> first | exact k.elim | skip
  simp only [Rep] at p
  exact ⟨_, p, k⟩
section
variable {X : Cx} {W : WX} {a b c : Expr} {rest : List Expr} {fa fb : EM} {ta tb : BM} {pos : Pos}
theorem dw_and1 (h : DB X W a ta) : DW X W (.BoolOp .And [a] pos) ta := pw_and1 h
theorem dw_or1 (h : DB X W a ta) : DW X W (.BoolOp .Or [a] pos) ta := pw_or1 h
theorem dw_and (h : DB X W a ta) (hb : DW X W (.BoolOp .And (b :: rest) pos) tb) : DW X W (.BoolOp .And (a :: b :: rest) pos) (mAnd ta tb) := by
  refine PW.weak (pw_and h hb) fun σ H Q ⟨P, ρ, F, μ, S, en, rl, k⟩ => ?_
  refine tDB.run en rl (Fin.imp (Fin.bind (rep := repB) k) (fun v H1 ⟨x, F1, μ1, S1, g1, r1, p1, k1⟩ => ?_) fun _ _ _ z => z)
  cases p1
  cases v with
  | true => exact iteT (tDB.run (en.mono g1) r1 k1)
  | false => exact iteF (k1.here r1 rfl)
theorem dw_or (h : DB X W a ta) (hb : DW X W (.BoolOp .Or (b :: rest) pos) tb) : DW X W (.BoolOp .Or (a :: b :: rest) pos) (mOr ta tb) := by
  refine PW.weak (pw_or h hb) fun σ H Q ⟨P, ρ, F, μ, S, en, rl, k⟩ => ?_
  refine tDB.run en rl (Fin.imp (Fin.bind (rep := repB) k) (fun v H1 ⟨x, F1, μ1, S1, g1, r1, p1, k1⟩ => ?_) fun _ _ _ z => z)
  cases p1
  cases v with
  | true => exact iteT (k1.here r1 rfl)
  | false => exact iteF (tDB.run (en.mono g1) r1 k1)
theorem db_bool {e : Expr} (h : DW X W e ta) : DB X W e ta := PW.pt h
theorem db_not (h : DB X W a ta) : DB X W (.UnaryOp .Not a pos) (mNot ta) := by
  refine PT.weak (pt_not h) fun σ H Q ⟨P, ρ, F, μ, S, en, rl, k⟩ => ?_
  refine tDB.run en rl (Fin.imp (Fin.bind (rep := repB) k) (fun v H1 ⟨x, F1, μ1, S1, g1, r1, p1, k1⟩ => ?_) fun _ _ _ z => z)
  cases p1
  exact k1.here r1 rfl
theorem d_one {op} (h : DE X W a fa) : DE X W (.BoolOp op [a] pos) fa := pe_one h
theorem d_and (h : DE X W a fa) (hb : DE X W (.BoolOp .And (b :: rest) pos) fb) : DE X W (.BoolOp .And (a :: b :: rest) pos) (mAndV fa fb) := by
  refine PE.weak (pe_and h hb) fun σ H Q ⟨P, ρ, F, μ, S, en, rl, k⟩ => ?_
  refine tD.run en rl (Fin.imp (Fin.bind (rep := repD (gX X)) k) (fun v H1 ⟨x, F1, μ1, S1, g1, r1, p1, k1⟩ => ?_) fun _ _ _ z => z)
  obtain ⟨c, e, k2⟩ := toB_bind k1 p1
  refine ⟨c, e, ?_⟩
  cases c with
  | true => exact iteT (tD.run (en.mono g1) r1 k2)
  | false => exact iteF (k2.here r1 (by simp only [Rep]))
theorem d_or (h : DE X W a fa) (hb : DE X W (.BoolOp .Or (b :: rest) pos) fb) : DE X W (.BoolOp .Or (a :: b :: rest) pos) (mOrV fa fb) := by
  refine PE.weak (pe_or h hb) fun σ H Q ⟨P, ρ, F, μ, S, en, rl, k⟩ => ?_
  refine tD.run en rl (Fin.imp (Fin.bind (rep := repD (gX X)) k) (fun v H1 ⟨x, F1, μ1, S1, g1, r1, p1, k1⟩ => ?_) fun _ _ _ z => z)
  obtain ⟨c, e, k2⟩ := toB_bind k1 p1
  refine ⟨c, e, ?_⟩
  cases c with
  | true => exact iteT (k2.here r1 (by simp only [Rep]))
  | false => exact iteF (tD.run (en.mono g1) r1 k2)
theorem d_not (h : DE X W a fa) : DE X W (.UnaryOp .Not a pos) (mNotV fa) := by
  refine PE.weak (pe_not h) fun σ H Q ⟨P, ρ, F, μ, S, en, rl, k⟩ => ?_
  refine tD.run en rl (Fin.imp (Fin.bind (rep := repD (gX X)) k) (fun v H1 ⟨x, F1, μ1, S1, g1, r1, p1, k1⟩ => ?_) fun _ _ _ z => z)
  obtain ⟨c, e, k2⟩ := toB_bind k1 p1
  exact ⟨c, e, k2.here r1 (by simp only [Rep])⟩
theorem d_if (hc : DB X W c ta) (ha : DE X W a fa) (hb : DE X W b fb) : DE X W (.IfExp c a b pos) (mIf ta fa fb) := by
  refine PE.weak (pe_ifExp hc ha hb) fun σ H Q ⟨P, ρ, F, μ, S, en, rl, k⟩ => ?_
  refine tDB.run en rl (Fin.imp (Fin.bind (rep := repB) k) (fun v H1 ⟨x, F1, μ1, S1, g1, r1, p1, k1⟩ => ?_) fun _ _ _ z => z)
  cases p1
  cases v with
  | true => exact iteT (tD.run (en.mono g1) r1 k1)
  | false => exact iteF (tD.run (en.mono g1) r1 k1)
end

/-! ### statements -/
inductive Fl where
  | nx | rt (d : D) | bk | ct | ex (e : D)
/-- a statement's result -/
inductive O where
  | go (fl : Fl) (ρ : Env) (S : Store)
  | stuck
abbrev SM := Env → Store → O
/-- an expression in a statement: what it raises goes on as a flow -/
def R.to {α : Type} (r : R α) (ρ : Env) (k : α → Store → O) : O := match r with
  | .ok a S => k a S
  | .exn e S => .go (.ex e) ρ S
  | .stuck => .stuck
@[simp] theorem R.to_ok {α : Type} (a : α) (S : Store) (ρ : Env) (k : α → Store → O) : (R.ok a S).to ρ k = k a S := rfl
@[simp] theorem R.to_exn {α : Type} (e : D) (S : Store) (ρ : Env) (k : α → Store → O) : (R.exn e S : R α).to ρ k = .go (.ex e) ρ S := rfl
@[simp] theorem R.to_stuck {α : Type} (ρ : Env) (k : α → Store → O) : (R.stuck : R α).to ρ k = .stuck := rfl
def Fl.post (g : G) (F : Hp) (μ : List Addr) (fl : Fl) (ρ : Env) (H : Hp) (Dn : Ends) (W : WX) : Prop := match fl with
  | .nx => ∀ σ, EnvR g F μ ρ σ → Dn.nx σ H
  | .bk => ∀ σ, EnvR g F μ ρ σ → Dn.bk σ H
  | .ct => ∀ σ, EnvR g F μ ρ σ → Dn.ct σ H
  | .rt d => ∀ v, Rep g F μ d v → Dn.rt v H
  | .ex e => ∀ σ cls dd, EnvR g F μ ρ σ → XRep g F μ e cls dd → W cls dd σ H
def FinS (g : G) (P F : Hp) (μ : List Addr) (o : O) (Dn : Ends) (W : WX) : Prop := match o with
  | .go fl ρ S => ∀ F' μ' H', Gr F μ F' μ' → Rel g P F' μ' S H' → fl.post g F' μ' ρ H' Dn W
  | .stuck => False
def tDS (g : G) (W : WX) (f : SM) : TS := fun Dn σ H => ∃ P ρ F μ S, EnvR g F μ ρ σ ∧ Rel g P F μ S H ∧ FinS g P F μ (f ρ S) Dn W
abbrev DS (X : Cx) (W : WX) (st : Stmt) (f : SM) : Prop := PS X st (tDS (gX X) W f)
abbrev DSs (X : Cx) (W : WX) (st : List Stmt) (f : SM) : Prop := PSs X st (tDS (gX X) W f)
section
variable {g : G} {P F F1 : Hp} {μ μ1 : List Addr} {o : O} {Dn Dn' : Ends} {W W' : WX} {ρ : Env} {σ : L2.St} {S : Store} {H : Hp}
theorem FinS.gr (gr : Gr F μ F1 μ1) (h : FinS g P F μ o Dn W) : FinS g P F1 μ1 o Dn W := by
  cases o with
  | go fl ρ S => exact fun F' μ' H' g' => h F' μ' H' (gr.trans g')
  | stuck => exact h
theorem tDS.run {f : SM} (e : EnvR g F μ ρ σ) (r : Rel g P F μ S H) (h : FinS g P F μ (f ρ S) Dn W) : tDS g W f Dn σ H := ⟨P, ρ, F, μ, S, e, r, h⟩
theorem FinS.here {fl : Fl} (h : FinS g P F μ (.go fl ρ S) Dn W) (r : Rel g P F μ S H) : fl.post g F μ ρ H Dn W := h F μ H (Gr.refl _ _) r
/-- an expression, then the rest -/
theorem FinS.to {α β : Type} {rep : Hp → List Addr → α → β → Prop} {r : R α} {k : α → Store → O} (en : EnvR g F μ ρ σ) (h : FinS g P F μ (r.to ρ k) Dn W) :
    Fin rep g P F μ r (fun b H1 => ∃ a F1 μ1 S1, Gr F μ F1 μ1 ∧ Rel g P F1 μ1 S1 H1 ∧ rep F1 μ1 a b ∧ FinS g P F1 μ1 (k a S1) Dn W) (fun c d H' => W c d σ H') := by
  cases r with
  | ok a S => exact fun F' μ' H' b g1 g2 g3 => ⟨a, F', μ', S, g1, g2, g3, FinS.gr g1 h⟩
  | exn e S => exact fun F' μ' H' c d g1 g2 g3 => h F' μ' H' g1 g2 σ c d (en.mono g1) g3
  | stuck => exact h
end
/-! #### small ones -/
def mNext : SM := fun ρ S => .go .nx ρ S
def mBreak : SM := fun ρ S => .go .bk ρ S
def mCont : SM := fun ρ S => .go .ct ρ S
def O.then (o : O) (h : SM) : O := match o with
  | .go .nx ρ S => h ρ S
  | o => o
@[simp] theorem O.then_nx (ρ : Env) (S : Store) (h : SM) : (O.go .nx ρ S).then h = h ρ S := rfl
@[simp] theorem O.then_rt (d : D) (ρ : Env) (S : Store) (h : SM) : (O.go (.rt d) ρ S).then h = .go (.rt d) ρ S := rfl
@[simp] theorem O.then_bk (ρ : Env) (S : Store) (h : SM) : (O.go .bk ρ S).then h = .go .bk ρ S := rfl
@[simp] theorem O.then_ct (ρ : Env) (S : Store) (h : SM) : (O.go .ct ρ S).then h = .go .ct ρ S := rfl
@[simp] theorem O.then_ex (e : D) (ρ : Env) (S : Store) (h : SM) : (O.go (.ex e) ρ S).then h = .go (.ex e) ρ S := rfl
@[simp] theorem O.then_stuck (h : SM) : O.stuck.then h = .stuck := rfl
def mSeq (f h : SM) : SM := fun ρ S => (f ρ S).then h
def mDrop (f : EM) : SM := fun ρ S => (f ρ S).to ρ fun _ S => .go .nx ρ S
def mRet (f : EM) : SM := fun ρ S => (f ρ S).to ρ fun d S => .go (.rt d) ρ S
def mRetN : SM := fun ρ S => .go (.rt .non) ρ S
def mIfS (c : BM) (f h : SM) : SM := fun ρ S => (c ρ S).to ρ fun b S => if b then f ρ S else h ρ S
section
variable {X : Cx} {W : WX} {st : Stmt} {rest : List Stmt} {f h : SM} {e : Expr} {fe : EM} {pos : Pos}
theorem ds_nil : DSs X W [] mNext := PSs.weak pss_nil fun Dn σ H ⟨P, ρ, F, μ, S, en, rl, k⟩ => k.here rl σ en
theorem ds_one (h1 : DS X W st f) : DSs X W [st] f := pss_one h1
theorem ds_cons (h1 : DS X W st f) (h2 : DSs X W rest h) : DSs X W (st :: rest) (mSeq f h) := by
  refine PSs.weak (pss_cons h1 h2) fun Dn σ H ⟨P, ρ, F, μ, S, en, rl, k⟩ => ?_
  refine tDS.run en rl ?_
  unfold mSeq at k
  cases q : f ρ S with
  | stuck => rw [q] at k; exact k.elim
  | go fl ρ' S' =>
    rw [q] at k
    intro F' μ' H' g1 r1
    cases fl with
    | nx => exact fun σ' en' => tDS.run en' r1 (FinS.gr g1 k)
    | rt d => exact k F' μ' H' g1 r1
    | bk => exact k F' μ' H' g1 r1
    | ct => exact k F' μ' H' g1 r1
    | ex e => exact k F' μ' H' g1 r1
theorem ds_pass : DS X W (.Pass pos) mNext := PS.weak ps_pass fun Dn σ H ⟨P, ρ, F, μ, S, en, rl, k⟩ => k.here rl σ en
theorem ds_break : DS X W (.Break pos) mBreak := PS.weak ps_break fun Dn σ H ⟨P, ρ, F, μ, S, en, rl, k⟩ => k.here rl σ en
theorem ds_cont : DS X W (.Continue pos) mCont := PS.weak ps_continue fun Dn σ H ⟨P, ρ, F, μ, S, en, rl, k⟩ => k.here rl σ en
theorem ds_expr (he : DE X W e fe) (hs : swapsWith e none pos.line X.env = pure false := by rfl) : DS X W (.Expr e pos) (mDrop fe) := by
  refine PS.weak (ps_expr he hs) fun Dn σ H ⟨P, ρ, F, μ, S, en, rl, k⟩ => ?_
  refine tD.run en rl (Fin.imp (FinS.to (rep := repD (gX X)) en k) (fun v H1 ⟨a, F1, μ1, S1, g1, r1, p1, k1⟩ => ?_) fun _ _ _ z => z)
  exact k1.here r1 σ (en.mono g1)
theorem ds_ret (he : DE X W e fe) : DS X W (.Return (some e) pos) (mRet fe) := by
  refine PS.weak (ps_ret he) fun Dn σ H ⟨P, ρ, F, μ, S, en, rl, k⟩ => ?_
  refine tD.run en rl (Fin.imp (FinS.to (rep := repD (gX X)) en k) (fun v H1 ⟨a, F1, μ1, S1, g1, r1, p1, k1⟩ => ?_) fun _ _ _ z => z)
  exact k1.here r1 v p1
theorem ds_retN : DS X W (.Return none pos) mRetN := PS.weak ps_retN fun Dn σ H ⟨P, ρ, F, μ, S, en, rl, k⟩ => k.here rl .non (by simp only [Rep])
theorem ds_if {c : Expr} {a b : List Stmt} {tc : BM} (hc : DB X W c tc) (ha : DSs X W a f) (hb : DSs X W b h) : DS X W (.If c a b pos) (mIfS tc f h) := by
  refine PS.weak (ps_if hc ha hb) fun Dn σ H ⟨P, ρ, F, μ, S, en, rl, k⟩ => ?_
  refine tDB.run en rl (Fin.imp (FinS.to (rep := repB) en k) (fun v H1 ⟨a, F1, μ1, S1, g1, r1, p1, k1⟩ => ?_) fun _ _ _ z => z)
  cases p1
  cases v with
  | true => exact iteT (tDS.run (en.mono g1) r1 k1)
  | false => exact iteF (tDS.run (en.mono g1) r1 k1)
end
/-! #### targets -/
abbrev GM := D → Env → Store → Option (Env × Store)
def tDG (g : G) (f : GM) : TG := fun v σ H Q => ∃ d P ρ F μ S ρ' S', EnvR g F μ ρ σ ∧ Rel g P F μ S H ∧ Rep g F μ d v ∧ f d ρ S = some (ρ', S') ∧ ∀ F' μ' H' σ', Gr F μ F' μ' → Rel g P F' μ' S' H' → EnvR g F' μ' ρ' σ' → Q σ' H'
def tDGs (g : G) (f : List D → Env → Store → Option (Env × Store)) : TGs := fun vs σ H Q => ∃ ds P ρ F μ S ρ' S', EnvR g F μ ρ σ ∧ Rel g P F μ S H ∧ Reps g F μ ds vs ∧ f ds ρ S = some (ρ', S') ∧ ∀ F' μ' H' σ', Gr F μ F' μ' → Rel g P F' μ' S' H' → EnvR g F' μ' ρ' σ' → Q σ' H'
abbrev DG (X : Cx) (e : Expr) (f : GM) : Prop := PG X e (tDG (gX X) f)
abbrev DGs (X : Cx) (es : List Expr) (f : List D → Env → Store → Option (Env × Store)) : Prop := PGs X es (tDGs (gX X) f)
theorem PG.weak {X : Cx} {e : Expr} {t t' : TG} (h : PG X e t) (w : ∀ v σ H Q, t' v σ H Q → t v σ H Q) : PG X e t' := ⟨fun pins s σ H v u Q I r k => h.run pins s σ H v u Q I r (w v σ H Q k)⟩
theorem PGs.weak {X : Cx} {e : List Expr} {t t' : TGs} (h : PGs X e t) (w : ∀ v σ H Q, t' v σ H Q → t v σ H Q) : PGs X e t' := ⟨fun pins s σ H v u Q I r k => h.run pins s σ H v u Q I r (w v σ H Q k)⟩
def gN (i : Nat) : GM := fun d ρ S => some (ρ.set i (some d), S)
def gNilM : List D → Env → Store → Option (Env × Store) := fun ds ρ S => match ds with
  | [] => some (ρ, S)
  | _ => none
def gConsM (f : GM) (r : List D → Env → Store → Option (Env × Store)) : List D → Env → Store → Option (Env × Store) := fun ds ρ S => match ds with
  | d :: ds => (f d ρ S).bind fun x => r ds x.1 x.2
  | [] => none
def gTupM (n : Nat) (r : List D → Env → Store → Option (Env × Store)) : GM := fun d ρ S => match d with
  | .tup l => if l.length = n then r l ρ S else none
  | .wt l => if l.length = n then r l ρ S else none
  | .lst l => if l.length = n then r l ρ S else none
  | _ => none
def mAsg (fe : EM) (gm : GM) : SM := fun ρ S => (fe ρ S).to ρ fun d S => match gm d ρ S with
  | some (ρ', S') => .go .nx ρ' S'
  | none => .stuck
section
variable {X : Cx} {W : WX} {pos : Pos} {fe : EM} {gm : GM}
theorem dg_name (i : Nat) {x : Str} (hN : X.N.Nodup) (hi : X.N[i]? = some x := by rfl) (hx : Loc X.env.scope x := by first | exact .inl rfl | exact .inr rfl) (hf : X.fn x = true ∨ X.env.scope.names.lookup x = some .local := by first | exact .inl rfl | exact .inr rfl) : DG X (.Name x pos) (gN i) :=
  PG.weak (pg_name hN hi hx hf) fun v σ H Q ⟨d, P, ρ, F, μ, S, ρ', S', en, rl, p, e, k⟩ => by
    cases e
    exact k F μ H _ (Gr.refl _ _) rl (en.set p)
theorem dgs_nil : DGs X [] gNilM := PGs.weak pgs_nil fun v σ H Q ⟨ds, P, ρ, F, μ, S, ρ', S', en, rl, p, e, k⟩ => by
  cases ds with
  | cons _ _ => cases e
  | nil =>
    cases e
    simp only [Reps] at p
    exact ⟨p, k F μ H σ (Gr.refl _ _) rl en⟩
theorem dgs_cons {e : Expr} {es : List Expr} {r : List D → Env → Store → Option (Env × Store)} (h1 : DG X e gm) (h2 : DGs X es r)
    (hs : (assignEach (e :: es) X.env).map (·.2) = assign e X.env :: (assignEach es X.env).map (·.2) := by rfl) : DGs X (e :: es) (gConsM gm r) :=
  PGs.weak (pgs_cons h1 h2 hs) fun v σ H Q ⟨ds, P, ρ, F, μ, S, ρ', S', en, rl, p, e, k⟩ => by
    cases ds with
    | nil => cases e
    | cons d ds =>
      simp only [Reps] at p
      obtain ⟨v, vs, rfl, p1, p2⟩ := p
      unfold gConsM at e
      cases q : gm d ρ S with
      | none => simp [q] at e
      | some x =>
        simp [q] at e
        refine ⟨v, vs, rfl, d, P, ρ, F, μ, S, x.1, x.2, en, rl, p1, q, fun F' μ' H' σ' g1 r1 en1 => ?_⟩
        exact ⟨ds, P, x.1, F', μ', x.2, ρ', S', en1, r1, p2.mono g1, e, fun F2 μ2 H2 σ2 g2 => k F2 μ2 H2 σ2 (g1.trans g2)⟩
theorem pg_or {X : Cx} {e : Expr} {t t' : TG} (h : PG X e t) (h' : PG X e t') : PG X e (fun v σ H Q => t v σ H Q ∨ t' v σ H Q) := ⟨fun pins s σ H v u Q I r k => by
  rcases k with k | k
  · exact h.run pins s σ H v u Q I r k
  · exact h'.run pins s σ H v u Q I r k⟩
theorem dg_tup {es : List Expr} {k n : Nat} {r : List D → Env → Store → Option (Env × Store)} (hc : X.calm = true) (h : DGs X es r)
    (hn : (assignEach es X.env).length = n := by rfl) (hst : (assignEach es X.env).findIdx? (·.1) = none := by rfl) : DG X (.Tuple es k pos) (gTupM n r) :=
  PG.weak (pg_or (pg_tup hc h hn hst) (pg_lst hc h hn hst)) fun v σ H Q ⟨d, P, ρ, F, μ, S, ρ', S', en, rl, p, e, k⟩ => by
    have sb : Gr F μ H μ := ⟨rl.sub, fun _ _ h => h⟩
    cases d <;> first | (cases e; done) | skip
    · rename_i l
      have e : (if l.length = n then r l ρ S else none) = some (ρ', S') := e
      split at e
      · rename_i hl
        simp only [Rep] at p
        obtain ⟨a, xs, rfl, ⟨hs, _⟩, hr⟩ := p
        exact .inl ⟨a, xs, rfl, sqT_mono (g := gX X) sb hs, hr.length.symm.trans hl, l, P, ρ, F, μ, S, ρ', S', en, rl, hr, e, k⟩
      · cases e
    · rename_i l
      have e : (if l.length = n then r l ρ S else none) = some (ρ', S') := e
      split at e
      · rename_i hl
        simp only [Rep] at p
        obtain ⟨a, xs, rfl, hs, hr⟩ := p
        exact .inl ⟨a, xs, rfl, sqT_mono (g := gX X) sb hs, hr.length.symm.trans hl, l, P, ρ, F, μ, S, ρ', S', en, rl, hr, e, k⟩
      · cases e
    · rename_i l
      have e : (if l.length = n then r l ρ S else none) = some (ρ', S') := e
      split at e
      · rename_i hl
        simp only [Rep] at p
        obtain ⟨a, xs, rfl, hs, hr⟩ := p
        exact .inr ⟨a, xs, rfl, sqL_mono (g := gX X) sb hs, hr.length.symm.trans hl, l, P, ρ, F, μ, S, ρ', S', en, rl, hr, e, k⟩
      · cases e
/-- target = value -/
theorem ds_asg {tg e : Expr} (hg : DG X tg gm) (he : DE X W e fe) (hs : swapsWithSole [tg] e pos.line X.env = pure false := by rfl) (hw : swappedStores [tg] e X.env = pure none := by rfl)
    (h1 : (assignEach [tg] X.env).map (·.2) = [assign tg X.env] := by rfl) : DS X W (.Assign [tg] e pos) (mAsg fe gm) := by
  refine PS.weak (ps_asg he hg hs hw h1) fun Dn σ H ⟨P, ρ, F, μ, S, en, rl, k⟩ => ?_
  refine tD.run en rl (Fin.imp (FinS.to (rep := repD (gX X)) en k) (fun v H1 ⟨a, F1, μ1, S1, g1, r1, p1, k1⟩ => ?_) fun _ _ _ z => z)
  cases q : gm a ρ S1 with
  | none => simp only [q] at k1; exact k1.elim
  | some x =>
    simp only [q] at k1
    exact ⟨a, P, ρ, F1, μ1, S1, x.1, x.2, en.mono g1, r1, p1, q, fun F' μ' H' σ' g2 r2 en2 => k1 F' μ' H' g2 r2 σ' en2⟩
/-- name = value -/
theorem ds_set (i : Nat) {x : Str} {e : Expr} {pos' : Pos} (hN : X.N.Nodup) (he : DE X W e fe) (hi : X.N[i]? = some x := by rfl) (hx : Loc X.env.scope x := by first | exact .inl rfl | exact .inr rfl) (hs : swapsWith e (some (.Name x pos')) pos.line X.env = pure false := by rfl)
    (hf : X.fn x = true ∨ X.env.scope.names.lookup x = some .local := by first | exact .inl rfl | exact .inr rfl) : DS X W (.Assign [.Name x pos'] e pos) (mAsg fe (gN i)) := by
  refine PS.weak (ps_set hN hi hx he hs hf) fun Dn σ H ⟨P, ρ, F, μ, S, en, rl, k⟩ => ?_
  refine tD.run en rl (Fin.imp (FinS.to (rep := repD (gX X)) en k) (fun v H1 ⟨a, F1, μ1, S1, g1, r1, p1, k1⟩ => ?_) fun _ _ _ z => z)
  exact k1 F1 μ1 H1 (Gr.refl _ _) r1 _ ((en.mono g1).set p1)
/-- a, b = x, y (plain names) -/
def mPar (i j : Nat) (fa fb : EM) : SM := fun ρ S => ((fa ρ S).bind fun x S => (fb ρ S).bind fun y S => .ok (x, y) S).to ρ fun z S => .go .nx ((ρ.set i (some z.1)).set j (some z.2)) S
theorem ds_par (i j : Nat) {x y : Str} {a b : Expr} {fa fb : EM} {px py pt : Pos} {kt k2 pt2} (hc : X.calm = true) (hN : X.N.Nodup) (ha : DE X W a fa) (hb : DE X W b fb) (hi : X.N[i]? = some x := by rfl) (hj : X.N[j]? = some y := by rfl) (hij : i ≠ j := by decide)
    (hx : X.env.scope.names.lookup x = some .local := by rfl) (hy : X.env.scope.names.lookup y = some .local := by rfl)
    (hw : swappedStores [.Tuple [.Name x px, .Name y py] kt pt] (.Tuple [a, b] k2 pt2) X.env = pure (some [x, y]) := by rfl)
    (hs : swapsWithSole [.Tuple [.Name x px, .Name y py] kt pt] (.Tuple [a, b] k2 pt2) pos.line X.env = pure false := by rfl)
    (hs1 : starEach [b] X.env = (false, eval b X.env) :: starEach [] X.env := by rfl) (hs2 : starEach [a, b] X.env = (false, eval a X.env) :: starEach [b] X.env := by rfl) :
    DS X W (.Assign [.Tuple [.Name x px, .Name y py] kt pt] (.Tuple [a, b] k2 pt2) pos) (mPar i j fa fb) := by
  refine PS.weak (ps_par hc hN hi hj hij hx hy (pa_cons ha (pa_cons hb pa_nil hs1) hs2) hw hs) fun Dn σ H ⟨P, ρ, F, μ, S, en, rl, k⟩ => ?_
  have kk := FinS.to (rep := fun F μ (z : D × D) (w : V × V) => Rep (gX X) F μ z.1 w.1 ∧ Rep (gX X) F μ z.2 w.2) en k
  refine tD.run en rl (Fin.imp (Fin.bind (rep := repD (gX X)) kk) (fun v H1 ⟨x, F1, μ1, S1, g1, r1, p1, k1⟩ => ?_) fun _ _ _ z => z)
  refine tD.run (en.mono g1) r1 (Fin.imp (Fin.bind (rep := repD (gX X)) k1) (fun w H2 ⟨y, F2, μ2, S2, g2, r2, p2, k2⟩ => ?_) fun _ _ _ z => z)
  obtain ⟨z, F3, μ3, S3, g3, r3, ⟨q1, q2⟩, k3⟩ := k2.here (b := (v, w)) r2 ⟨p1.mono g2, p2⟩
  exact ⟨v, w, rfl, k3 F3 μ3 H2 (Gr.refl _ _) r3 _ (((en.mono g3).set q1).set q2)⟩
/-- name op= value -/
def InD (X : Cx) (op : Operator) (m : D → D → M D) : Prop := PIp X op (fun v w H Q => ∃ x y P F μ S E, Rel (gX X) P F μ S H ∧ Rep (gX X) F μ x v ∧ Rep (gX X) F μ y w ∧ Fin (repD (gX X)) (gX X) P F μ (m x y S) Q E)
def mAug (i : Nat) (m : D → D → M D) (fe : EM) : SM := fun ρ S => ((mVar i ρ S).bind fun x S => (fe ρ S).bind fun y S => m x y S).to ρ fun z S => .go .nx (ρ.set i (some z)) S
theorem ds_aug (i : Nat) {x : Str} {e : Expr} {op : Operator} {m : D → D → M D} {pos' : Pos} (hN : X.N.Nodup) (ho : InD X op m) (he : DE X W e fe) (hi : X.N[i]? = some x := by rfl) (hx : Loc X.env.scope x := by first | exact .inl rfl | exact .inr rfl)
    (hf : X.fn x = true ∨ X.env.scope.names.lookup x = some .local := by first | exact .inl rfl | exact .inr rfl) : DS X W (.AugAssign (.Name x pos') op e pos) (mAug i m fe) := by
  refine PS.weak (ps_aug hN hi hx he ho hf) fun Dn σ H ⟨P, ρ, F, μ, S, en, rl, k⟩ => ?_
  unfold mAug mVar at k
  cases q : ρ[i]? with
  | none => simp only [q] at k; exact k.elim
  | some o =>
    cases o with
    | none => simp only [q] at k; exact k.elim
    | some d =>
      simp only [q] at k
      obtain ⟨v, h1, h2⟩ := en.at_ i d q
      refine ⟨v, h1, ?_⟩
      have kk := FinS.to (rep := repD (gX X)) en k
      refine tD.run en rl (Fin.imp (Fin.bind (rep := repD (gX X)) kk) (fun w H1 ⟨y, F1, μ1, S1, g1, r1, p1, k1⟩ => ?_) fun _ _ _ z => z)
      refine ⟨d, y, P, F1, μ1, S1, _, r1, h2.mono g1, p1, Fin.imp k1 (fun u H2 ⟨z, F2, μ2, S2, g2, r2, p2, k2⟩ => ?_) fun _ _ _ z => z⟩
      exact k2 F2 μ2 H2 (Gr.refl _ _) r2 _ ((en.mono g2).set p2)
end

/-! ### defs -/
/-- the promise of a def by its mirror -/
def spD (g : G) (n : Nat) (m : List D → M D) : Sp := fun vs H Q E => vs.length = n ∧ ∃ ds P F μ S, Rel g P F μ S H ∧ Reps g F μ ds vs ∧ Fin (repD g) g P F μ (m ds S) Q E
/-- the def at f does what the mirror does -/
structure FnD (P : Program) (w : World) (K : PySem.W.Frag) (mg : Str → Option Value) (base : Heap) (k : Nat) (f : Addr) (fd : FuncData) (ps : List Str) (m : List D → M D) : Prop where
  run : ∀ (A : Around) (outer : List PySem.Env) (s : Shared) (H : Hp) (args : Args) (us : List Value) (vs : List V) (Q : VK) (E : XK), Room k A → A.guards = some [] → Env0 P w K mg base A outer s H → BindsTo s fd args (ps.zip us) → Vals vs us →
    spD ⟨K, mg⟩ ps.length m vs H Q E → codeAny (model P w) A (.call (.ref f) args) (CR (L2.CX P w) outer P w H s Q E) s
theorem FnD.mono {P : Program} {w : World} {K : PySem.W.Frag} {mg : Str → Option Value} {base : Heap} {j k : Nat} {f : Addr} {fd : FuncData} {ps : List Str} {m : List D → M D} (F : FnD P w K mg base j f fd ps m) (h : j ≤ k) : FnD P w K mg base k f fd ps m :=
  ⟨fun A outer s H args us vs Q E hr => F.run A outer s H args us vs Q E (hr.mono h)⟩
def start0 (n : Nat) (ds : List D) : Env := ds.map some ++ List.replicate (n - ds.length) none
/-- a def's mirror: n slots, its body -/
def mFun (n : Nat) (b : SM) : List D → M D := fun ds S => match b (start0 n ds) S with
  | .go .nx _ S => .ok .non S
  | .go (.rt d) _ S => .ok d S
  | .go (.ex e) _ S => .exn e S
  | _ => .stuck
theorem env_start {g : G} {F : Hp} {μ : List Addr} {N : List Str} {ds : List D} {vs : List V} (r : Reps g F μ ds vs) : EnvR g F μ (start0 N.length ds) (start N vs) := by
  have hl := r.length
  refine ⟨by simp [start0, L2.start, hl], fun i d e => ?_⟩
  unfold start0 at e
  by_cases hi : i < ds.length
  · rw [List.getElem?_append_left (by simpa using hi), List.getElem?_map] at e
    cases q : ds[i]? with
    | none => simp [q] at e
    | some d' =>
      simp [q] at e
      subst e
      obtain ⟨v, h1, h2⟩ := r.get q
      refine ⟨v, ?_, h2⟩
      unfold L2.start
      rw [List.getElem?_append_left (by simpa using (by omega : i < vs.length)), List.getElem?_map, h1]
      rfl
  · rw [List.getElem?_append_right (by simpa using hi)] at e
    simp [List.getElem?_replicate] at e
/-- THE RULE for a def: its body's mirror -/
theorem fn_ofD {P : Program} {w : World} {K : PySem.W.Frag} {mg : Str → Option Value} {base : Heap} {k : Nat} {f : Addr} {x qual : Str} {st : Stmt} {fd : FuncData} {N ps : List Str} {b : SM} (Fn : Fun K x qual st f fd) (Sc : FnScope N ps (defScope st))
    (hbody : ∀ (cdv : Value) (A : Around) (outer : List PySem.Env) (s : Shared) (H : Hp) (E : XK) (W : WX), Room k (A.deeper (envOfC qual (defScope st) s.heap.objs.size f cdv)) → A.guards = some [] →
      Takes (cxOf (L2.CX P w) P w K mg base N qual (defScope st) f cdv A outer s H E) W → DSs (cxOf (L2.CX P w) P w K mg base N qual (defScope st) f cdv A outer s H E) W (defBody st) b) : FnD P w K mg base (k + 1) f fd ps (mFun N.length b) := by
  obtain ⟨oc, od, kV, doc, pm, an, cdv, ct, osl, rfl, lk, hcd⟩ := Fn.ex
  refine ⟨fun A outer s H args us vs Q E hr hgd e0 hb r hsp => ?_⟩
  have hl := hsp.1
  have KX : K.In s.heap := e0.mod.kin.keeps fun b o e => (e0.bs b o e).1
  have lim : s.heap.NoLimit := e0.mod.nolimit.keeps fun b o e => (e0.bs b o e).1
  have hkind : ∀ y ∈ ps.zip us, (defScope st).names.lookup y.1 = some .local ∨ ((defScope st).names.lookup y.1 = some .cell ∧ ((cellsFrom (s.heap.objs.size + 1) (defScope st).names []).lookup y.1).isSome = true) := fun ⟨n, v⟩ hy => by
    rcases Sc.par n (List.of_mem_zip hy).1 with q | q
    · exact .inl q
    · exact .inr ⟨q, PySem.W.cellsFrom_some _ _ _ (.inl q)⟩
  refine codeAny_call_function hr.depth (KX _ _ lk) rfl Sc.co Sc.gen rfl (PySem.W.codeRec_of KX hcd) (hb _ _ _ _ ?_)
  refine wpAny_newFunctionEnv_cells Sc.kind hkind fun env he s1 x => ?_
  subst he
  refine ⟨lim.keeps x.toInCall.keep, codeAny_func ?_⟩
  have tk : Takes (cxOf (L2.CX P w) P w K mg base N qual (defScope st) f cdv A outer s H E) (fun cls d _ H' => E cls d H') := takes_of rfl rfl rfl rfl
  have ht := hbody cdv A outer s H E _ (hr.deeper _) hgd tk
  have I : Inv (cxOf (L2.CX P w) P w K mg base N qual (defScope st) f cdv A outer s H E) [] (start N vs) H s1 := inv_start Sc hr.hd e0 hl r x
  obtain ⟨_, ds, Pv, F, μ, S, rl, rp, fin⟩ := hsp
  refine wpAny_mono (ht.run [] s1 (start N vs) H { nx := fun _ H' => Q .non H', rt := Q } I (tDS.run (env_start rp) rl ?_)) (fun fl s' hs => ?_) fun e s' hs => hs
  · unfold mFun at fin
    cases q : b (start0 N.length ds) S with
    | stuck => rw [q] at fin; exact fin.elim
    | go fl ρ S' =>
      rw [q] at fin
      intro F' μ' H' g1 r1
      cases fl with
      | nx => exact fun σ _ => fin F' μ' H' .non g1 r1 (by simp only [Rep])
      | rt d => exact fun v p => fin F' μ' H' v g1 r1 p
      | ex e => exact fun σ cls dd _ p => fin F' μ' H' cls dd g1 r1 p
      | bk => exact fin.elim
      | ct => exact fin.elim
  · have fin : ∀ {σ' : L2.St} {H' : Hp} {v : V} {u : Value}, Inv (cxOf (L2.CX P w) P w K mg base N qual (defScope st) f cdv A outer s H E) [] σ' H' s' → RelV v u → Q v H' → CE outer P w H s Q u s' :=
      fun {σ' H' v u} J rv q => ⟨v, H', J.os, J.bare, J.base, J.hok, rv, q⟩
    cases fl with
    | ret u =>
      obtain ⟨v, σ', H', J, rv, q⟩ := hs
      exact fin J rv q
    | next =>
      obtain ⟨σ', H', J, q⟩ := hs
      exact fin (v := V.non) (u := Value.none) J rfl q
    | brk =>
      obtain ⟨_, _, _, q⟩ := hs
      exact False.elim q
    | cont =>
      obtain ⟨_, _, _, q⟩ := hs
      exact False.elim q

/-! ### calls -/
section
variable {X : Cx} {W : WX} {k : Nat} {f : Addr} {fd : FuncData} {ps : List Str} {m : List D → M D}
theorem run_fnD {pins : List (Addr × Obj)} {σ : L2.St} {H : Hp} {s : Shared} {Q : VK} {us : List Value} {vs : List V} (F : FnD X.prog X.w X.K X.mg X.base k f fd ps m) (hr : Room k X.A) (hg : X.A.guards = some []) (hb : Binds X.K fd ps []) (tk : Takes X W)
    (I : Inv X pins σ H s) (r : Vals vs us) (h : spD (gX X) ps.length m vs H Q (fun c d H' => W c d σ H')) : wpAny (model X.prog X.w) X.A (call (.ref f) us) (EP X pins σ Q) X.xe s := by
  have hl : us.length = ps.length := by rw [← r.length]; exact h.1
  have b := hb s us I.kIn (by rw [List.append_nil]; exact hl)
  rw [List.append_nil] at b
  refine wpAny_call (codeAny_mono (F.run X.A X.stack s H ⟨us, []⟩ us vs Q _ hr hg I.env0 b r h) fun r s' hq => ?_)
  cases r with
  | error e => exact passAt tk σ pins H s e s' I hq
  | ok fl =>
    cases fl with
    | ret u => exact I.after hq
    | next => exact False.elim hq
    | brk => exact False.elim hq
    | cont => exact False.elim hq
end
/-- the module's name x is a def of n parameters that does what m does -/
structure Cal (P : Program) (w : World) (K : PySem.W.Frag) (mg : Str → Option Value) (base : Heap) (k : Nat) (x : Str) (n : Nat) (m : List D → M D) : Prop where
  ex : ∃ f fd ps, mg x = some (.ref f) ∧ PySem.W.keepIn K (.ref f) = true ∧ Binds K fd ps [] ∧ FnD P w K mg base k f fd ps m ∧ ps.length = n
theorem Cal.mono {P : Program} {w : World} {K : PySem.W.Frag} {mg : Str → Option Value} {base : Heap} {j k n : Nat} {x : Str} {m : List D → M D} (c : Cal P w K mg base j x n m) (h : j ≤ k) : Cal P w K mg base k x n m := by
  obtain ⟨f, fd, ps, h1, h2, h3, h4, h5⟩ := c.ex
  exact ⟨f, fd, ps, h1, h2, h3, h4.mono h, h5⟩
def mCall (n : Nat) (m : List D → M D) (fa : AM) : EM := fun ρ S => (fa ρ S).bind fun ds S => if ds.length = n then m ds S else .stuck
section
variable {X : Cx} {W : WX} {k n : Nat} {x : Str} {m : List D → M D} {e : Expr} {es : List Expr} {fa : AM} {p pos : Pos}
theorem d_call (c : Cal X.prog X.w X.K X.mg X.base k x n m) (hr : Room k X.A) (hg : X.A.guards = some []) (tk : Takes X W) (ha : DA X W (e :: es) fa) (hgl : Gl X x := by rfl) (hdb : (x == ("__debug__" : Str)) = false := by decide)
    (he : starEach (e :: es) X.env = (false, eval e X.env) :: starEach es X.env := by rfl) (hpl : (backTo pos (starEach es X.env)).any (·.1) = false := by rfl) : DE X W (.Call (.Name x p) (e :: es) [] pos) (mCall n m fa) := by
  obtain ⟨f, fd, ps, hm, hk, hb, F, hn⟩ := c.ex
  refine ⟨fun pins s σ H Q I h => ?_⟩
  obtain ⟨P, ρ, Fz, μ, S, en, rl, h⟩ := h
  refine wpAny_Call_Name_kw (ld_glob I hgl hm ?_ hdb)
  refine PySem.W.callWith_K (h₀ := X.base) I.ok.mod.kin hk (thn (ha.run pos pins s σ H _ I (tDA.run en rl (Fin.imp (Fin.bind (rep := repA (gX X)) h) (fun vs H1 k1 => k1) fun _ _ _ z => z))) fun us s1 ⟨vs, H1, I1, r, q⟩ => ⟨I1.kIn, ?_⟩) he hpl
  obtain ⟨ds, F1, μ1, S1, g1, r1, p1, k1⟩ := q
  have hl : ds.length = n := by
    by_cases z : ds.length = n
    · exact z
    · rw [if_neg z] at k1; exact k1.elim
  rw [if_pos hl] at k1
  exact run_fnD F hr hg hb tk I1 r ⟨by rw [← p1.length, hl, hn], ds, P, F1, μ1, S1, r1, p1, k1⟩
end
end DL

/-! The data layer, 3: operators, comparisons. -/
namespace DL
open PySem PySem.Spec PyProof.Rows L2

theorem Rel.gr0 {g : G} {P F : Hp} {μ : List Addr} {S : Store} {H : Hp} (r : Rel g P F μ S H) : Gr F μ H μ := ⟨r.sub, fun _ _ h => h⟩
section
variable {g : G} {P F : Hp} {μ : List Addr} {S : Store} {H : Hp} {E : XK}
theorem rep_int {i : Int} : Rep g F μ (.int i) (.int i) := by simp only [Rep]
theorem rep_bl {i : Bool} : Rep g F μ (.bl i) (.bl i) := by simp only [Rep]
theorem rep_str {i : Str} : Rep g F μ (.str i) (.str i) := by simp only [Rep]
theorem rep_non : Rep g F μ .non .non := by simp only [Rep]
theorem Rep.int {i : Int} {v : V} (h : Rep g F μ (.int i) v) : v = .int i := by simpa only [Rep] using h
theorem Rep.bl {i : Bool} {v : V} (h : Rep g F μ (.bl i) v) : v = .bl i := by simpa only [Rep] using h
theorem Rep.str {i : Str} {v : V} (h : Rep g F μ (.str i) v) : v = .str i := by simpa only [Rep] using h
theorem Rep.non {v : V} (h : Rep g F μ .non v) : v = .non := by simpa only [Rep] using h
theorem Rep.tup (r : Rel g P F μ S H) {l : List D} {v : V} (h : Rep g F μ (.tup l) v) : ∃ a xs, v = .ref a ∧ SqT g.K H a xs ∧ Reps g F μ l xs := by
  simp only [Rep] at h
  obtain ⟨a, xs, e, ⟨h1, _⟩, h2⟩ := h
  exact ⟨a, xs, e, sqT_mono r.gr0 h1, h2⟩
theorem Rep.tupN (r : Rel g P F μ S H) {l : List D} {v : V} (h : Rep g F μ (.tup l) v) : ∃ a xs, v = .ref a ∧ (SqT g.K H a xs ∧ DN g H a) ∧ Reps g F μ l xs := by
  simp only [Rep] at h
  obtain ⟨a, xs, e, ⟨h1, h3⟩, h2⟩ := h
  exact ⟨a, xs, e, ⟨sqT_mono r.gr0 h1, dn_mono r.gr0 h3⟩, h2⟩
theorem Rep.wt (r : Rel g P F μ S H) {l : List D} {v : V} (h : Rep g F μ (.wt l) v) : ∃ a xs, v = .ref a ∧ SqT g.K H a xs ∧ Reps g F μ l xs := by
  simp only [Rep] at h
  obtain ⟨a, xs, e, h1, h2⟩ := h
  exact ⟨a, xs, e, sqT_mono r.gr0 h1, h2⟩
theorem Rep.lst (r : Rel g P F μ S H) {l : List D} {v : V} (h : Rep g F μ (.lst l) v) : ∃ a xs, v = .ref a ∧ SqL g.K H a xs ∧ Reps g F μ l xs := by
  simp only [Rep] at h
  obtain ⟨a, xs, e, h1, h2⟩ := h
  exact ⟨a, xs, e, sqL_mono r.gr0 h1, h2⟩
/-- a place that holds a list -/
theorem Rep.refL (r : Rel g P F μ S H) {n : Nat} {l : List D} {v : V} (h : Rep g F μ (.ref n) v) (e : S[n]? = some (.lst l)) : ∃ a xs, v = .ref a ∧ μ[n]? = some a ∧ H a = some (.lst xs) ∧ Reps g F μ l xs := by
  simp only [Rep] at h
  obtain ⟨p, h1, h2⟩ := h
  rcases r.live n _ p e h1 with ⟨z, _⟩ | ⟨u, f, hu, xs, hx, k⟩
  · cases z
  · subst hx
    exact ⟨p, xs, h2, h1, hu, k⟩
/-- a new tuple, a new list -/
theorem Fin.newT {l : List D} {xs : List V} {p : Addr} {Q : VK} (k : Fin (repD g) g P F μ (.ok (.tup l) S) Q E) (r : Rel g P F μ S H) (rp : Reps g F μ l xs) (hp : H p = none) {ob : Obj} (ho : ob.dict = none) : Q (.ref p) (upd H p (.frz ob (.tup xs))) := by
  obtain ⟨r1, g1⟩ := r.froz (o := .frz ob (.tup xs)) hp
  exact (k.gr g1).here r1 (by simp only [Rep]; exact ⟨p, xs, rfl, ⟨.inl (.inr ⟨_, upd_same⟩), ⟨ob, ho, .inl ⟨_, upd_same⟩⟩⟩, rp.mono g1⟩)
theorem Fin.newL {l : List D} {xs : List V} {p : Addr} {Q : VK} (k : Fin (repD g) g P F μ (.ok (.lst l) S) Q E) (r : Rel g P F μ S H) (rp : Reps g F μ l xs) (hp : H p = none) : Q (.ref p) (upd H p (.lst xs)) := by
  obtain ⟨r1, g1⟩ := r.froz (o := .lst xs) hp
  exact (k.gr g1).here r1 (by simp only [Rep]; exact ⟨p, xs, rfl, .inl (.inl upd_same), rp.mono g1⟩)
end

/-! ### what a list or tuple holds -/
/-- the items of a list (by value or at a place) -/
def lstOf (d : D) (S : Store) : Option (List D) := match d with
  | .lst l => some l
  | .ref n => match S[n]? with
    | some (.lst l) => some l
    | _ => none
  | _ => none
theorem lstOf_rep {g : G} {P F : Hp} {μ : List Addr} {S : Store} {H : Hp} (r : Rel g P F μ S H) {d : D} {l : List D} {v : V} (e : lstOf d S = some l) (h : Rep g F μ d v) : ∃ a xs, v = .ref a ∧ SqL g.K H a xs ∧ Reps g F μ l xs := by
  unfold lstOf at e
  split at e
  · cases e; exact h.lst r
  · split at e
    · cases e
      rename_i q
      obtain ⟨a, xs, h1, _, h2, h3⟩ := h.refL r q
      exact ⟨a, xs, h1, .of h2, h3⟩
    · cases e
  · cases e
def seqOf (d : D) (S : Store) : Option (List D) := match d with
  | .tup l => some l
  | .wt l => some l
  | d => lstOf d S
theorem seqOf_rep {g : G} {P F : Hp} {μ : List Addr} {S : Store} {H : Hp} (r : Rel g P F μ S H) {d : D} {l : List D} {v : V} (e : seqOf d S = some l) (h : Rep g F μ d v) : ∃ a xs, v = .ref a ∧ (SqL g.K H a xs ∨ SqT g.K H a xs) ∧ Reps g F μ l xs := by
  unfold seqOf at e
  split at e
  · cases e
    obtain ⟨a, xs, h1, h2, h3⟩ := h.tup r
    exact ⟨a, xs, h1, .inr h2, h3⟩
  · cases e
    obtain ⟨a, xs, h1, h2, h3⟩ := h.wt r
    exact ⟨a, xs, h1, .inr h2, h3⟩
  · obtain ⟨a, xs, h1, h2, h3⟩ := lstOf_rep r e h
    exact ⟨a, xs, h1, .inl h2, h3⟩
@[simp] theorem lstOf_lst (l : List D) (S : Store) : lstOf (.lst l) S = some l := rfl
@[simp] theorem seqOf_lst (l : List D) (S : Store) : seqOf (.lst l) S = some l := rfl
@[simp] theorem seqOf_tup (l : List D) (S : Store) : seqOf (.tup l) S = some l := rfl
@[simp] theorem seqOf_wt (l : List D) (S : Store) : seqOf (.wt l) S = some l := rfl
@[simp] theorem seqOf_ref (n : Nat) (S : Store) : seqOf (.ref n) S = lstOf (.ref n) S := rfl
theorem lstOf_ref {n : Nat} {S : Store} {l : List D} (h : S[n]? = some (.lst l)) : lstOf (.ref n) S = some l := by simp [lstOf, h]

/-! ### arithmetic -/
def b2 (b : Bool) : Int := if b then 1 else 0
def addD : D → D → M D
  | .int i, .int j, S => .ok (.int (i + j)) S
  | .int i, .bl j, S => .ok (.int (i + b2 j)) S
  | .str x, .str y, S => if x.length + y.length ≤ sizeLine then .ok (.str (x ++ y)) S else .stuck
  | .tup x, .tup y, S => if x.length + y.length ≤ sizeLine then .ok (.tup (x ++ y)) S else .stuck
  | x, y, S => match lstOf x S, lstOf y S with
    | some a, some b => if a.length + b.length ≤ sizeLine then .ok (.lst (a ++ b)) S else .stuck
    | _, _ => .stuck
def subD : D → D → M D
  | .int i, .int j, S => .ok (.int (i - j)) S
  | .bl i, .bl j, S => .ok (.int (b2 i - b2 j)) S
  | _, _, _ => .stuck
def mulD : D → D → M D
  | .int i, .int j, S => if i.natAbs.log2 + j.natAbs.log2 < 1000000 then .ok (.int (i * j)) S else .stuck
  | _, _, _ => .stuck
def fdivD : D → D → M D
  | .int i, .int j, S => if j ≠ 0 ∧ j.natAbs.log2 < 9000 then .ok (.int (i.fdiv j)) S else .stuck
  | _, _, _ => .stuck
def modD : D → D → M D
  | .int i, .int j, S => if j ≠ 0 then .ok (.int (i.fmod j)) S else .stuck
  | _, _, _ => .stuck
def powD : D → D → M D
  | .int i, .int j, S => if 0 ≤ j ∧ j ≤ 1000000 ∧ i.natAbs < 2 ^ 64 then .ok (.int (i ^ j.toNat)) S else .stuck
  | _, _, _ => .stuck
def negD : D → M D
  | .int i, S => .ok (.int (-i)) S
  | _, _ => .stuck
section
variable {X : Cx}
theorem op_catQ : OpR X (binaryOp .Add) (fun x y H Q => ∃ l b xs zs, x = .ref l ∧ y = .ref b ∧ SqL X.K H l xs ∧ SqL X.K H b zs ∧ xs.length + zs.length ≤ sizeLine ∧ ∀ p, H p = none → Q (.ref p) (upd H p (.lst (xs ++ zs)))) := by
  intro pins s σ H x y v u Q I rx ry h
  obtain ⟨l, b, xs, zs, rfl, rfl, hH, hB, hz, q⟩ := h
  cases rx
  cases ry
  obtain ⟨its, r, ⟨o, n, e, hc, hd, hs⟩, z⟩ := I.list hH
  obtain ⟨its2, r2, ⟨o2, n2, e2, hc2, hd2, hs2⟩, z2⟩ := I.list hB
  have l1 := r.length
  have l2 := r2.length
  obtain ⟨oc, od, oda, osl⟩ := o
  obtain ⟨oc2, od2, oda2, osl2⟩ := o2
  dsimp only at hc hd hs hc2 hd2 hs2
  subst hc hd hs hc2 hd2 hs2
  have ea : its.toArray ++ its2.toArray = (its ++ its2).toArray := by simp
  refine concat_meets ⟨_, e, rfl⟩ ⟨_, e2, rfl⟩ noFill_list_add seq_list_add PySem.F.slot_list_add PySem.F.entry_list_add (PySem.F.args_list_add_2 _ _) (list_addW l b its.toArray its2.toArray n n2 none none osl osl2 (by rw [List.size_toArray, List.size_toArray]; omega)) ⟨e, e2, ?_⟩
  rw [ea]
  exact ⟨.ref _, _, I.lnew (t' := s.toks) (r.append r2) (by rw [List.length_append]; omega), rfl, q _ I.fresh⟩
/-- () + t is t itself -/
theorem op_catT0 : OpR X (binaryOp .Add) (fun x y H Q => ∃ l b zs, x = .ref l ∧ y = .ref b ∧ SqT X.K H l [] ∧ SqT X.K H b zs ∧ Q (.ref b) H) := by
  intro pins s σ H x y v u Q I rx ry h
  obtain ⟨l, b, zs, rfl, rfl, hH, hB, q⟩ := h
  cases rx
  cases ry
  obtain ⟨its, r, ⟨o, e, hc, n, hs⟩, z⟩ := I.tuple hH
  obtain ⟨its2, r2, ⟨o2, e2, hc2, n2, hs2⟩, z2⟩ := I.tuple hB
  cases r
  obtain ⟨oc, od, oda, osl⟩ := o
  obtain ⟨oc2, od2, oda2, osl2⟩ := o2
  dsimp only at hc hs hc2 hs2
  subst hc hs hc2 hs2
  refine concat_meets ⟨_, e, rfl⟩ ⟨_, e2, rfl⟩ noFill_tuple_add seq_tuple_add PySem.F.slot_tuple_add PySem.F.entry_tuple_add (PySem.F.args_tuple_add_2 _ _) (tuple_addW0 l b #[] its2.toArray n n2 od od2 osl osl2 rfl) ⟨e, e2, ?_⟩
  exact ⟨.ref _, _, I.tok _, rfl, q⟩
/-- a new tuple, whose object is known -/
theorem tup_laid {pins : List (Addr × Obj)} {σ : L2.St} {H : Hp} {s : Shared} {t' : Nat} {xs : List V} {its : List Value} (I : Inv X pins σ H s) (r : Vals xs its) (z : xs.length ≤ sizeLine) :
    Inv X pins σ (upd H s.heap.objs.size (.frz { cls := .type "tuple", data := .seq its.toArray } (.tup xs))) { s with heap := s.heap.push { cls := .type "tuple", data := .seq its.toArray }, toks := t' } :=
  I.laid (fun _ _ e => Heap.get?_push_of_some _ e) (Nat.le_refl _) ⟨Heap.get?_push_size _ rfl, z, its, r, IsTup.new _ _⟩
theorem op_catN : OpR X (binaryOp .Add) (fun x y H Q => ∃ a b xs ys, x = .ref a ∧ y = .ref b ∧ SqT X.K H a xs ∧ SqT X.K H b ys ∧ xs ≠ [] ∧ xs.length + ys.length ≤ sizeLine ∧ (ys = [] → Q (.ref a) H) ∧ ∀ (p : Addr) (ob : Obj), H p = none → ob.dict = none → Q (.ref p) (upd H p (.frz ob (.tup (xs ++ ys))))) := by
  intro pins s σ H x y v u Q I rx ry ⟨a, b, xs, ys, e1, e2, ha, hb, hx, hz, q1, q2⟩
  subst e1 e2
  cases rx
  cases ry
  obtain ⟨its, r1, p1, _⟩ := I.tuple ha
  obtain ⟨its2, r2, p2, _⟩ := I.tuple hb
  exact HT.cat_tup p1 p2 (fun z => hx (r1.nil_iff.mp z)) (fun z => ⟨.ref a, H, I, rfl, q1 (r2.nil_iff.mp z)⟩)
    (fun _ => ⟨.ref s.heap.objs.size, _, tup_laid (t' := s.toks) I (r1.append r2) (by simpa using hz), rfl, q2 _ _ (I.hok.fresh (Nat.le_refl _)) rfl⟩) (by rw [← r1.length, ← r2.length]; exact hz)
theorem od_sub : OpD X (binaryOp .Sub) subD := by
  intro pins s σ H v w u u' Q I rv rw h
  obtain ⟨x, y, P, F, μ, S, E, rl, rx, ry, k⟩ := h
  unfold subD at k
  split at k
  · exact op_sub pins s σ H _ _ _ _ Q I rv rw ⟨_, _, rx.int, ry.int, k.here rl rep_int⟩
  · have e1 := rx.bl
    have e2 := ry.bl
    subst e1 e2
    cases rv
    cases rw
    exact sub_bool ⟨.int _, H, I.tok _, ⟨_, rfl⟩, k.here rl rep_int⟩
  · exact k.elim
theorem od_mul : OpD X (binaryOp .Mult) mulD := by
  intro pins s σ H v w u u' Q I rv rw h
  obtain ⟨x, y, P, F, μ, S, E, rl, rx, ry, k⟩ := h
  unfold mulD at k
  split at k
  · split at k
    · rename_i hc
      exact op_mulW pins s σ H _ _ _ _ Q I rv rw ⟨_, _, rx.int, ry.int, hc, k.here rl rep_int⟩
    · exact k.elim
  · exact k.elim
theorem op_fdivX : OpR X (binaryOp .FloorDiv) (rI (fun _ j => j ≠ 0 ∧ j.natAbs.log2 < 9000) fun i j => .int (i.fdiv j)) := opI fun i j _ _ _ _ _ hc q => floordiv_int hc.1 q (.inl (PyProof.noPylong_of_log2 hc.2))
theorem od_fdiv : OpD X (binaryOp .FloorDiv) fdivD := by
  intro pins s σ H v w u u' Q I rv rw h
  obtain ⟨x, y, P, F, μ, S, E, rl, rx, ry, k⟩ := h
  unfold fdivD at k
  split at k
  · split at k
    · rename_i hc
      exact op_fdivX pins s σ H _ _ _ _ Q I rv rw ⟨_, _, rx.int, ry.int, hc, k.here rl rep_int⟩
    · exact k.elim
  · exact k.elim
theorem od_mod : OpD X (binaryOp .Mod) modD := by
  intro pins s σ H v w u u' Q I rv rw h
  obtain ⟨x, y, P, F, μ, S, E, rl, rx, ry, k⟩ := h
  unfold modD at k
  split at k
  · split at k
    · rename_i hc
      exact op_modN pins s σ H _ _ _ _ Q I rv rw ⟨_, _, rx.int, ry.int, hc, k.here rl rep_int⟩
    · exact k.elim
  · exact k.elim
theorem od_pow : OpD X (binaryOp .Pow) powD := by
  intro pins s σ H v w u u' Q I rv rw h
  obtain ⟨x, y, P, F, μ, S, E, rl, rx, ry, k⟩ := h
  unfold powD at k
  split at k
  · split at k
    · rename_i hc
      exact op_pow pins s σ H _ _ _ _ Q I rv rw ⟨_, _, rx.int, ry.int, hc, k.here rl rep_int⟩
    · exact k.elim
  · exact k.elim
theorem ud_neg : UnD X (unaryOp .USub) negD := by
  intro pins s σ H v u Q I rv h
  obtain ⟨x, P, F, μ, S, E, rl, rx, k⟩ := h
  unfold negD at k
  split at k
  · exact un_neg pins s σ H _ _ Q I rv ⟨_, rx.int, k.here rl rep_int⟩
  · exact k.elim
theorem od_add : OpD X (binaryOp .Add) addD := by
  intro pins s σ H v w u u' Q I rv rw h
  obtain ⟨x, y, P, F, μ, S, E, rl, rx, ry, k⟩ := h
  unfold addD at k
  split at k
  · exact op_add pins s σ H _ _ _ _ Q I rv rw ⟨_, _, rx.int, ry.int, k.here rl rep_int⟩
  · exact op_add_ib pins s σ H _ _ _ _ Q I rv rw ⟨_, _, rx.int, ry.bl, k.here rl rep_int⟩
  · split at k
    · rename_i hc
      exact op_add_str pins s σ H _ _ _ _ Q I rv rw ⟨_, _, rx.str, ry.str, hc, k.here rl rep_str⟩
    · exact k.elim
  · split at k
    · rename_i hc
      obtain ⟨a, xs, e1, h1, p1⟩ := rx.tup rl
      obtain ⟨b, ys, e2, h2, p2⟩ := ry.tup rl
      have l1 := p1.length
      have l2 := p2.length
      by_cases hx : xs = []
      · subst hx
        rename_i x' y'
        have ex : x' = [] := List.eq_nil_of_length_eq_zero l1
        subst ex
        exact op_catT0 pins s σ H _ _ _ _ Q I rv rw ⟨a, b, ys, e1, e2, h1, h2, k.here rl (by rw [List.nil_append, ← e2]; exact ry)⟩
      · refine op_catN pins s σ H _ _ _ _ Q I rv rw ⟨a, b, xs, ys, e1, e2, h1, h2, hx, by omega, fun hy => ?_, fun p ob hp ho => k.newT rl (p1.append p2) hp ho⟩
        subst hy
        rename_i x' y'
        have ey : y' = [] := List.eq_nil_of_length_eq_zero l2
        subst ey
        exact k.here rl (by rw [List.append_nil, ← e1]; exact rx)
    · exact k.elim
  · split at k
    · rename_i a b ea eb
      split at k
      · rename_i hc
        obtain ⟨a', xs, e1, h1, p1⟩ := lstOf_rep rl ea rx
        obtain ⟨b', ys, e2, h2, p2⟩ := lstOf_rep rl eb ry
        have l1 := p1.length
        have l2 := p2.length
        exact op_catQ pins s σ H _ _ _ _ Q I rv rw ⟨a', b', xs, ys, e1, e2, h1, h2, by omega, fun p hp => k.newL rl (p1.append p2) hp⟩
      · exact k.elim
    · exact k.elim
end

/-! ### comparisons of ints -/
def cmpD (p : Int → Int → Bool) : D → D → M D
  | .int i, .int j, S => .ok (.bl (p i j)) S
  | _, _, _ => .stuck
abbrev ltD : D → D → M D := cmpD fun i j => decide (i < j)
abbrev leD : D → D → M D := cmpD fun i j => decide (i ≤ j)
abbrev gtD : D → D → M D := cmpD fun i j => decide (j < i)
abbrev geD : D → D → M D := cmpD fun i j => decide (j ≤ i)
section
variable {X : Cx}
theorem od_cmp {op : CmpOp} {p : Int → Int → Bool} (h0 : OpR X (compareOp op) (rI0 fun i j => .bl (p i j))) : OpD X (compareOp op) (cmpD p) := by
  intro pins s σ H v w u u' Q I rv rw h
  obtain ⟨x, y, P, F, μ, S, E, rl, rx, ry, k⟩ := h
  unfold cmpD at k
  split at k
  · exact h0 pins s σ H _ _ _ _ Q I rv rw ⟨_, _, rx.int, ry.int, k.here rl rep_bl⟩
  · exact k.elim
theorem od_lt : OpD X (compareOp .Lt) ltD := od_cmp op_lt
theorem od_le : OpD X (compareOp .LtE) leD := od_cmp op_le
theorem od_gt : OpD X (compareOp .Gt) gtD := od_cmp op_gt
theorem od_ge : OpD X (compareOp .GtE) geD := od_cmp op_ge
end

/-! ### equality of data -/
mutual
def toPy : D → PyData
  | .non => .none
  | .bl b => .bool b
  | .int i => .int i
  | .str x => .str x
  | .tup l => .tuple (toPys l)
  | .lst l => .list (toPys l)
  | _ => .none
def toPys : List D → List PyData
  | [] => []
  | d :: ds => toPy d :: toPys ds
end
mutual
/-- plain data, nested less than n deep -/
def plain : Nat → D → Bool
  | _, .non => true
  | _, .bl _ => true
  | _, .int _ => true
  | _, .str x => PyData.strOk x
  | 0, .tup _ => false
  | n + 1, .tup l => plains n l
  | 0, .lst _ => false
  | n + 1, .lst l => plains n l
  | _, _ => false
def plains : Nat → List D → Bool
  | _, [] => true
  | n, d :: ds => plain n d && plains n ds
end
mutual
def eqB : D → D → Bool
  | .non, .non => true
  | .bl a, .bl b => a == b
  | .bl a, .int j => b2 a == j
  | .int i, .bl b => i == b2 b
  | .int i, .int j => i == j
  | .str x, .str y => x == y
  | .tup l, .tup k => eqBs l k
  | .lst l, .lst k => eqBs l k
  | _, _ => false
def eqBs : List D → List D → Bool
  | [], [] => true
  | x :: xs, y :: ys => eqB x y && eqBs xs ys
  | _, _ => false
end
mutual
theorem plain_lay : ∀ (n : Nat) (d : D), plain n d = true → (toPy d).canLay0 = true ∧ (toPy d).depth ≤ n
  | n, .non, _ => ⟨rfl, Nat.zero_le _⟩
  | n, .bl _, _ => ⟨rfl, Nat.zero_le _⟩
  | n, .int _, _ => ⟨rfl, Nat.zero_le _⟩
  | n, .str x, h => ⟨by simpa [plain, toPy, PyData.canLay0] using h, Nat.zero_le _⟩
  | 0, .tup _, h => by simp [plain] at h
  | n + 1, .tup l, h => by
    simp only [plain] at h
    obtain ⟨h1, h2⟩ := plains_lay n l h
    exact ⟨by simpa [toPy, PyData.canLay0] using h1, by simp [toPy, PyData.depth]; exact h2⟩
  | 0, .lst _, h => by simp [plain] at h
  | n + 1, .lst l, h => by
    simp only [plain] at h
    obtain ⟨h1, h2⟩ := plains_lay n l h
    exact ⟨by simpa [toPy, PyData.canLay0] using h1, by simp [toPy, PyData.depth]; exact h2⟩
  | _, .obj .., h => by simp [plain] at h
  | _, .exc .., h => by simp [plain] at h
  | _, .ref .., h => by simp [plain] at h
theorem plains_lay : ∀ (n : Nat) (ds : List D), plains n ds = true → PyData.canLayAll0 (toPys ds) = true ∧ PyData.depthAll (toPys ds) ≤ n
  | n, [], _ => ⟨rfl, Nat.zero_le _⟩
  | n, d :: ds, h => by
    simp only [plains, Bool.and_eq_true] at h
    obtain ⟨h1, h2⟩ := plain_lay n d h.1
    obtain ⟨h3, h4⟩ := plains_lay n ds h.2
    exact ⟨by simp [toPys, PyData.canLayAll0, h1, h3], by simp only [toPys, PyData.depthAll]; omega⟩
end
theorem plain_shaped {d : D} (h : plain 64 d = true) : SeqAt.shaped (toPy d) = true := by
  obtain ⟨h1, h2⟩ := plain_lay 64 d h
  unfold SeqAt.shaped
  simp [h1, h2]
mutual
theorem plain_dp {g : G} {P F : Hp} {μ : List Addr} {S : Store} {H : Hp} (r : Rel g P F μ S H) : ∀ (n : Nat) (d : D) {v : V}, plain n d = true → Rep g F μ d v → Dp g.K H v (toPy d)
  | _, .non, _, _, h => by rw [h.non]; exact .non
  | _, .bl b, _, _, h => by rw [h.bl]; exact .bl b
  | _, .int b, _, _, h => by rw [h.int]; exact .int b
  | _, .str b, _, _, h => by rw [h.str]; exact .str b
  | 0, .tup _, _, h, _ => by simp [plain] at h
  | n + 1, .tup l, _, h, k => by
    simp only [plain] at h
    obtain ⟨a, xs, rfl, hs, hr⟩ := k.tup r
    simp only [toPy]
    exact .tup hs (plains_dp r n l h hr)
  | 0, .lst _, _, h, _ => by simp [plain] at h
  | n + 1, .lst l, _, h, k => by
    simp only [plain] at h
    obtain ⟨a, xs, rfl, hs, hr⟩ := k.lst r
    simp only [toPy]
    exact .lst hs (plains_dp r n l h hr)
  | _, .obj .., _, h, _ => by simp [plain] at h
  | _, .exc .., _, h, _ => by simp [plain] at h
  | _, .ref .., _, h, _ => by simp [plain] at h
theorem plains_dp {g : G} {P F : Hp} {μ : List Addr} {S : Store} {H : Hp} (r : Rel g P F μ S H) : ∀ (n : Nat) (ds : List D) {vs : List V}, plains n ds = true → Reps g F μ ds vs → DpAll g.K H vs (toPys ds)
  | _, [], _, _, k => by simp only [Reps] at k; subst k; exact .nil
  | n, d :: ds, _, h, k => by
    simp only [plains, Bool.and_eq_true] at h
    simp only [Reps] at k
    obtain ⟨v, vs, rfl, k1, k2⟩ := k
    exact .cons (plain_dp r n d h.1 k1) (plains_dp r n ds h.2 k2)
end
mutual
theorem eqv_eqB : ∀ (n m : Nat) (x y : D), plain n x = true → plain m y = true → PyData.eqv (toPy x) (toPy y) = eqB x y
  | n, m, x, y, hx, hy => by
    cases x <;> cases y <;> first
      | (simp [plain] at hx; done)
      | (simp [plain] at hy; done)
      | (simp [toPy, PyData.eqv, eqB, b2]; done)
      | skip
    · rename_i l k
      cases n with
      | zero => simp [plain] at hx
      | succ n =>
        cases m with
        | zero => simp [plain] at hy
        | succ m =>
          simp only [plain] at hx hy
          simp only [toPy, PyData.eqv, eqB]
          exact eqv_eqBs n m l k hx hy
    · rename_i l k
      cases n with
      | zero => simp [plain] at hx
      | succ n =>
        cases m with
        | zero => simp [plain] at hy
        | succ m =>
          simp only [plain] at hx hy
          simp only [toPy, PyData.eqv, eqB]
          exact eqv_eqBs n m l k hx hy
theorem eqv_eqBs : ∀ (n m : Nat) (xs ys : List D), plains n xs = true → plains m ys = true → PyData.eqvAll (toPys xs) (toPys ys) = eqBs xs ys
  | n, m, [], [], _, _ => by simp [toPys, PyData.eqvAll, eqBs]
  | n, m, [], _ :: _, _, _ => by simp [toPys, PyData.eqvAll, eqBs]
  | n, m, _ :: _, [], _, _ => by simp [toPys, PyData.eqvAll, eqBs]
  | n, m, x :: xs, y :: ys, hx, hy => by
    simp only [plains, Bool.and_eq_true] at hx hy
    simp only [toPys, PyData.eqvAll, eqBs, eqv_eqB n m x y hx.1 hy.1, eqv_eqBs n m xs ys hx.2 hy.2]
end
end DL

/-! The data layer, 4: displays, == and in, places, slices, built-ins. -/
namespace DL
open PySem PySem.Spec PyProof.Rows L2

/-! ### displays -/
def mTup (fa : AM) : EM := fun ρ S => (fa ρ S).bind fun l S => if l.length ≤ sizeLine then .ok (.tup l) S else .stuck
def mLst (fa : AM) : EM := fun ρ S => (fa ρ S).bind fun l S => if l.length ≤ sizeLine then .ok (.lst l) S else .stuck
/-- a list that will change: a place of the store -/
def mNew (fa : AM) : EM := fun ρ S => (fa ρ S).bind fun l S => if l.length ≤ sizeLine then .ok (.ref S.length) (S ++ [.lst l]) else .stuck
/-- the list at a place will not change any more -/
def frzD : D → M D
  | .ref n, S => match S[n]? with
    | some (.lst l) => .ok (.lst l) (S.set n .dead)
    | some (.ins c ns ds) => .ok (.obj c ns ds) (S.set n .dead)
    | _ => .stuck
  | _, _ => .stuck
def mFrz (f : EM) : EM := fun ρ S => (f ρ S).bind frzD
section
variable {X : Cx} {W : WX} {es : List Expr} {fa : AM} {pos : Pos} {e : Expr} {fe : EM}
theorem pe_tupN {t : TA} {x1} (h : PA X es t) : PE X (.Tuple es x1 pos) (fun σ H Q => t σ H fun xs H1 => xs.length ≤ sizeLine ∧ ∀ (p : Addr) (ob : Obj), H1 p = none → ob.dict = none → Q (.ref p) (upd H1 p (.frz ob (.tup xs)))) :=
  ⟨fun pins s σ H Q I hq => wpAny_Tuple_spliced (thn (h.run pos pins s σ H _ I hq) fun us s1 ⟨xs, H1, I1, r, z, q⟩ =>
    ⟨by rw [← r.length]; exact z, .ref s1.heap.objs.size, _, tup_laid (t' := s1.toks) I1 r z, rfl, q _ _ (I1.hok.fresh (Nat.le_refl _)) rfl⟩)⟩
theorem d_tup {x1} (h : DA X W es fa) : DE X W (.Tuple es x1 pos) (mTup fa) := by
  refine PE.weak (pe_tupN h) fun σ H Q ⟨P, ρ, F, μ, S, en, rl, k⟩ => ?_
  refine tDA.run en rl (Fin.imp (Fin.bind (rep := repA (gX X)) k) (fun vs H1 ⟨a, F1, μ1, S1, g1, r1, p1, k1⟩ => ?_) fun _ _ _ z => z)
  split at k1
  · rename_i hl
    exact ⟨by rw [← p1.length]; exact hl, fun p ob hp ho => k1.newT r1 p1 hp ho⟩
  · exact k1.elim
theorem d_lst (h : DA X W es fa) : DE X W (.List es pos) (mLst fa) := by
  refine PE.weak (pe_lst h) fun σ H Q ⟨P, ρ, F, μ, S, en, rl, k⟩ => ?_
  refine tDA.run en rl (Fin.imp (Fin.bind (rep := repA (gX X)) k) (fun vs H1 ⟨a, F1, μ1, S1, g1, r1, p1, k1⟩ => ?_) fun _ _ _ z => z)
  split at k1
  · rename_i hl
    exact ⟨by rw [← p1.length]; exact hl, fun p hp => k1.newL r1 p1 hp⟩
  · exact k1.elim
theorem Fin.newR {g : G} {P F : Hp} {μ : List Addr} {S : Store} {H : Hp} {E : XK} {l : List D} {xs : List V} {p : Addr} {Q : VK} (k : Fin (repD g) g P F μ (.ok (.ref S.length) (S ++ [.lst l])) Q E) (r : Rel g P F μ S H) (rp : Reps g F μ l xs) (hp : H p = none) : Q (.ref p) (upd H p (.lst xs)) := by
  have g0 : Gr F μ F (μ ++ [p]) := ⟨fun _ _ h => h, fun n q h => by
    have : n < μ.length := (List.getElem?_eq_some_iff.mp h).1
    rw [List.getElem?_append_left this]; exact h⟩
  obtain ⟨r1, g1, e1⟩ := r.push (u := .lst xs) (o := .lst l) hp ⟨xs, rfl, rp.mono g0⟩
  exact (k.gr g1).here r1 (by simp only [Rep]; exact ⟨p, e1, rfl⟩)
theorem d_new (h : DA X W es fa) : DE X W (.List es pos) (mNew fa) := by
  refine PE.weak (pe_lst h) fun σ H Q ⟨P, ρ, F, μ, S, en, rl, k⟩ => ?_
  refine tDA.run en rl (Fin.imp (Fin.bind (rep := repA (gX X)) k) (fun vs H1 ⟨a, F1, μ1, S1, g1, r1, p1, k1⟩ => ?_) fun _ _ _ z => z)
  split at k1
  · rename_i hl
    exact ⟨by rw [← p1.length]; exact hl, fun p hp => k1.newR r1 p1 hp⟩
  · exact k1.elim
theorem frz_fin {g : G} {P F : Hp} {μ : List Addr} {S : Store} {H : Hp} {E : XK} {d : D} {v : V} {Q : VK} (k : Fin (repD g) g P F μ (frzD d S) Q E) (r : Rel g P F μ S H) (p : Rep g F μ d v) : Q v H := by
  unfold frzD at k
  split at k
  · rename_i n
    simp only [Rep] at p
    obtain ⟨a, h1, rfl⟩ := p
    split at k
    · rename_i l q
      rcases r.live n _ a q h1 with ⟨z, _⟩ | ⟨u, hF, hu, _⟩
      · cases z
      · obtain ⟨r2, g2, xs, e2, p2⟩ := r.freeze q (by intro z; cases z) h1 hu
        subst e2
        exact (k.gr g2).here r2 (by simp only [Rep]; exact ⟨a, xs, rfl, .inl (.inl upd_same), p2.mono g2⟩)
    · rename_i c ns ds q
      rcases r.live n _ a q h1 with ⟨z, _⟩ | ⟨u, hF, hu, _⟩
      · cases z
      · obtain ⟨r2, g2, C, dx, xs, e0, e2, p2, hl⟩ := r.freeze q (by intro z; cases z) h1 hu
        subst e2
        exact (k.gr g2).here r2 (by simp only [Rep]; exact ⟨a, C, dx, xs, rfl, e0, upd_same, p2.mono g2, hl⟩)
    · exact k.elim
  · exact k.elim
theorem d_frz (h : DE X W e fe) : DE X W e (mFrz fe) := by
  refine PE.weak h fun σ H Q ⟨P, ρ, F, μ, S, en, rl, k⟩ => ?_
  exact tD.run en rl (Fin.imp (Fin.bind (rep := repD (gX X)) k) (fun vs H1 ⟨a, F1, μ1, S1, g1, r1, p1, k1⟩ => frz_fin k1 r1 p1) fun _ _ _ z => z)
end

/-! ### == != -/
/-- a list at a place, as the list that it is now -/
def derD (d : D) (S : Store) : D := match d with
  | .ref n => match S[n]? with
    | some (.lst l) => .lst l
    | _ => .ref n
  | d => d
theorem derD_ref {n : Nat} {S : Store} {l : List D} (q : S[n]? = some (.lst l)) : derD (.ref n) S = .lst l := by simp [derD, q]
theorem der_dp {g : G} {P F : Hp} {μ : List Addr} {S : Store} {H : Hp} (r : Rel g P F μ S H) {d : D} {v : V} (h : plain 64 (derD d S) = true) (p : Rep g F μ d v) : Dp g.K H v (toPy (derD d S)) := by
  cases d with
  | ref n =>
    cases q : S[n]? with
    | none => simp [derD, q, plain] at h
    | some o =>
      cases o with
      | lst l =>
        rw [derD_ref q] at h ⊢
        obtain ⟨a, xs, rfl, _, h2, h3⟩ := p.refL r q
        simp only [plain] at h
        simp only [toPy]
        exact .lst (.of h2) (plains_dp r 63 l h h3)
      | ins _ _ _ => simp [derD, q, plain] at h
      | dct _ _ => simp [derD, q, plain] at h
      | dead => simp [derD, q, plain] at h
  | non => exact plain_dp r 64 _ h p
  | bl _ => exact plain_dp r 64 _ h p
  | int _ => exact plain_dp r 64 _ h p
  | str _ => exact plain_dp r 64 _ h p
  | tup _ => exact plain_dp r 64 _ h p
  | lst _ => exact plain_dp r 64 _ h p
  | obj _ _ _ => simp [derD, plain] at h
  | exc _ _ _ => simp [derD, plain] at h
  | wt _ => simp [derD, plain] at h
@[simp] theorem derD_tup (l : List D) (S : Store) : derD (.tup l) S = .tup l := rfl
@[simp] theorem derD_lst (l : List D) (S : Store) : derD (.lst l) S = .lst l := rfl
@[simp] theorem derD_int (i : Int) (S : Store) : derD (.int i) S = .int i := rfl
@[simp] theorem derD_str (i : Str) (S : Store) : derD (.str i) S = .str i := rfl
@[simp] theorem derD_bl (i : Bool) (S : Store) : derD (.bl i) S = .bl i := rfl
@[simp] theorem derD_non (S : Store) : derD .non S = .non := rfl
def eqD (x y : D) : M D := fun S => match x, y with
  | .str a, .str b => .ok (.bl (a == b)) S
  | x, y => if plain 64 (derD x S) && plain 64 (derD y S) then .ok (.bl (eqB (derD x S) (derD y S))) S else .stuck
def neD (x y : D) : M D := fun S => match x, y with
  | .str a, .str b => .ok (.bl (!(a == b))) S
  | x, y => if plain 64 (derD x S) && plain 64 (derD y S) then .ok (.bl (!eqB (derD x S) (derD y S))) S else .stuck
/-- x in y -/
def inB (x : D) (l : List D) : Bool := l.any fun z => eqB z x
def oneOf (x : Str) : Option Nat := match x.cps.toList with
  | [c] => some c
  | _ => none
theorem oneOf_eq {x : Str} {c : Nat} (h : oneOf x = some c) : x = ⟨#[c]⟩ := by
  unfold oneOf at h
  split at h
  · rename_i c' q
    cases h
    obtain ⟨a⟩ := x
    simp only at q
    have : a = #[c] := by rw [← Array.toList_inj, q]
    rw [this]
  · cases h
def inD (x y : D) : M D := fun S => match seqOf y S with
  | some l => if plain 64 (derD x S) && plains 63 l then .ok (.bl (inB (derD x S) l)) S else .stuck
  | none => match x, y with
    | .str x, .str y => match oneOf x with
      | some c => .ok (.bl (decide (c ∈ y.cps.toList))) S
      | none => .stuck
    | _, _ => .stuck
def niD (x y : D) : M D := fun S => (inD x y S).bind fun d S => match d with
  | .bl b => .ok (.bl (!b)) S
  | _ => .stuck
theorem eqv_any {x : D} : ∀ {l : List D}, plain 64 x = true → plains 63 l = true → ((toPys l).any fun z => PyData.eqv z (toPy x)) = inB x l
  | [], _, _ => by simp [toPys, inB]
  | y :: l, hx, h => by
    simp only [plains, Bool.and_eq_true] at h
    have ih := eqv_any (l := l) hx h.2
    simp only [inB] at ih ⊢
    simp only [toPys, List.any_cons, ih, eqv_eqB 63 64 y x h.1 hx]
theorem plains_shaped {l : List D} (h : plains 63 l = true) : SeqAt.shaped (.list (toPys l)) = true ∧ SeqAt.shaped (.tuple (toPys l)) = true := by
  have a := plain_shaped (d := .lst l) (by simpa [plain] using h)
  have b := plain_shaped (d := .tup l) (by simpa [plain] using h)
  simp only [toPy] at a b
  exact ⟨a, b⟩
section
variable {X : Cx}
theorem od_eq (hu : X.A.units + 64 < cLine) : OpD X (compareOp .Eq) eqD := by
  intro pins s σ H v w u u' Q I rv rw h
  obtain ⟨x, y, P, F, μ, S, E, rl, rx, ry, k⟩ := h
  unfold eqD at k
  split at k
  · exact op_eq pins s σ H _ _ _ _ Q I rv rw ⟨by rw [rx.str, ry.str]; rfl, by rw [rx.str, ry.str, dec_str]; exact k.here rl rep_bl⟩
  split at k
  · rename_i hp
    simp only [Bool.and_eq_true] at hp
    refine op_eqD hu pins s σ H _ _ _ _ Q I rv rw ⟨_, _, der_dp rl hp.1 rx, der_dp rl hp.2 ry, plain_shaped hp.1, plain_shaped hp.2, ?_⟩
    rw [eqv_eqB 64 64 _ _ hp.1 hp.2]
    exact k.here rl rep_bl
  · exact k.elim
theorem od_ne (hu : X.A.units + 64 < cLine) : OpD X (compareOp .NotEq) neD := by
  intro pins s σ H v w u u' Q I rv rw h
  obtain ⟨x, y, P, F, μ, S, E, rl, rx, ry, k⟩ := h
  unfold neD at k
  split at k
  · exact op_ne pins s σ H _ _ _ _ Q I rv rw ⟨by rw [rx.str, ry.str]; rfl, by rw [rx.str, ry.str, dec_str]; exact k.here rl rep_bl⟩
  split at k
  · rename_i hp
    simp only [Bool.and_eq_true] at hp
    refine op_neD hu pins s σ H _ _ _ _ Q I rv rw ⟨_, _, der_dp rl hp.1 rx, der_dp rl hp.2 ry, plain_shaped hp.1, plain_shaped hp.2, ?_⟩
    rw [eqv_eqB 64 64 _ _ hp.1 hp.2]
    exact k.here rl rep_bl
  · exact k.elim
def isNon : D → Bool
  | .non => true
  | _ => false
def isND (x y : D) : M D := fun S => if isNon y then .ok (.bl (isNon x)) S else .stuck
def notND (x y : D) : M D := fun S => if isNon y then .ok (.bl (!isNon x)) S else .stuck
theorem rep_ref {g : G} {F : Hp} {μ : List Addr} {d : D} {v : V} (h : Rep g F μ d v) : decide (v = .non) = isNon d := by
  cases d <;> simp only [Rep] at h <;> first
    | (subst h; rfl)
    | (obtain ⟨a, _, rfl, _⟩ := h; rfl)
    | (obtain ⟨a, _, _, _, rfl, _⟩ := h; rfl)
    | (obtain ⟨a, _, rfl⟩ := h; rfl)
theorem isNon_rep {g : G} {F : Hp} {μ : List Addr} {d : D} {v : V} (h : Rep g F μ d v) (e : isNon d = true) : v = .non := by
  rw [← rep_ref h] at e
  exact of_decide_eq_true e
theorem od_isN : OpD X (compareOp .Is) isND := by
  intro pins s σ H v w u u' Q I rv rw h
  obtain ⟨x, y, P, F, μ, S, E, rl, rx, ry, k⟩ := h
  unfold isND at k
  split at k
  · rename_i e
    refine op_isN pins s σ H _ _ _ _ Q I rv rw ⟨isNon_rep ry e, ?_⟩
    rw [rep_ref rx]
    exact k.here rl rep_bl
  · exact k.elim
theorem od_notN : OpD X (compareOp .IsNot) notND := by
  intro pins s σ H v w u u' Q I rv rw h
  obtain ⟨x, y, P, F, μ, S, E, rl, rx, ry, k⟩ := h
  unfold notND at k
  split at k
  · rename_i e
    refine op_notN pins s σ H _ _ _ _ Q I rv rw ⟨isNon_rep ry e, ?_⟩
    rw [rep_ref rx]
    exact k.here rl rep_bl
  · exact k.elim
/-- in over a list; over a tuple -/
theorem op_inTD (hu : X.A.units + 65 < cLine) : OpR X (compareOp .In) (fun x y H Q => ∃ d ds, Dp X.K H x d ∧ Dp X.K H y (.tuple ds) ∧ SeqAt.shaped d = true ∧ SeqAt.shaped (.tuple ds) = true ∧ Q (.bl (ds.any fun z => PyData.eqv z d)) H) := by
  intro pins s σ H x y v u Q I rx ry h
  obtain ⟨d, ds, hd, he, sd, se, q⟩ := h
  obtain ⟨as, r1⟩ := Dp.reads I d x v hd rx
  obtain ⟨bs, r2⟩ := Dp.reads I (.tuple ds) y u he ry
  exact SeqAt.in_tuple_reads r2 r1 (SeqAt.canLay_of_shaped se) (SeqAt.canLay_of_shaped sd) (by have := SeqAt.depth_of_shaped sd; omega) ⟨.bl _, H, I, rfl, q⟩
theorem op_niTD (hu : X.A.units + 65 < cLine) : OpR X (compareOp .NotIn) (fun x y H Q => ∃ d ds, Dp X.K H x d ∧ Dp X.K H y (.tuple ds) ∧ SeqAt.shaped d = true ∧ SeqAt.shaped (.tuple ds) = true ∧ Q (.bl (!ds.any fun z => PyData.eqv z d)) H) := by
  intro pins s σ H x y v u Q I rx ry h
  obtain ⟨d, ds, hd, he, sd, se, q⟩ := h
  obtain ⟨as, r1⟩ := Dp.reads I d x v hd rx
  obtain ⟨bs, r2⟩ := Dp.reads I (.tuple ds) y u he ry
  exact SeqAt.notIn_tuple_reads r2 r1 (SeqAt.canLay_of_shaped se) (SeqAt.canLay_of_shaped sd) (by have := SeqAt.depth_of_shaped sd; omega) ⟨.bl _, H, I, rfl, q⟩
theorem seq_dp {g : G} {P F : Hp} {μ : List Addr} {S : Store} {H : Hp} (r : Rel g P F μ S H) {d : D} {l : List D} {v : V} (e : seqOf d S = some l) (h : plains 63 l = true) (p : Rep g F μ d v) :
    Dp g.K H v (.list (toPys l)) ∨ Dp g.K H v (.tuple (toPys l)) := by
  obtain ⟨a, xs, rfl, hs, hr⟩ := seqOf_rep r e p
  rcases hs with hs | hs
  · exact .inl (.lst hs (plains_dp r 63 l h hr))
  · exact .inr (.tup hs (plains_dp r 63 l h hr))
theorem od_in (hu : X.A.units + 65 < cLine) : OpD X (compareOp .In) inD := by
  intro pins s σ H v w u u' Q I rv rw h
  obtain ⟨x, y, P, F, μ, S, E, rl, rx, ry, k⟩ := h
  unfold inD at k
  split at k
  · rename_i l e
    split at k
    · rename_i hp
      simp only [Bool.and_eq_true] at hp
      obtain ⟨s1, s2⟩ := plains_shaped hp.2
      rcases seq_dp rl e hp.2 ry with q | q
      · refine op_inD hu pins s σ H _ _ _ _ Q I rv rw ⟨_, _, der_dp rl hp.1 rx, q, plain_shaped hp.1, s1, ?_⟩
        rw [eqv_any hp.1 hp.2]
        exact k.here rl rep_bl
      · refine op_inTD hu pins s σ H _ _ _ _ Q I rv rw ⟨_, _, der_dp rl hp.1 rx, q, plain_shaped hp.1, s2, ?_⟩
        rw [eqv_any hp.1 hp.2]
        exact k.here rl rep_bl
    · exact k.elim
  · split at k
    · split at k
      · rename_i c q
        exact op_in_sign pins s σ H _ _ _ _ Q I rv rw ⟨c, _, by rw [rx.str, oneOf_eq q], ry.str, k.here rl rep_bl⟩
      · exact k.elim
    · exact k.elim
theorem od_ni (hu : X.A.units + 65 < cLine) : OpD X (compareOp .NotIn) niD := by
  intro pins s σ H v w u u' Q I rv rw h
  obtain ⟨x, y, P, F, μ, S, E, rl, rx, ry, k⟩ := h
  unfold niD inD at k
  split at k
  · rename_i l e
    split at k
    · rename_i hp
      simp only [Bool.and_eq_true] at hp
      obtain ⟨s1, s2⟩ := plains_shaped hp.2
      rcases seq_dp rl e hp.2 ry with q | q
      · refine op_notInD hu pins s σ H _ _ _ _ Q I rv rw ⟨_, _, der_dp rl hp.1 rx, q, plain_shaped hp.1, s1, ?_⟩
        rw [eqv_any hp.1 hp.2]
        exact k.here rl rep_bl
      · refine op_niTD hu pins s σ H _ _ _ _ Q I rv rw ⟨_, _, der_dp rl hp.1 rx, q, plain_shaped hp.1, s2, ?_⟩
        rw [eqv_any hp.1 hp.2]
        exact k.here rl rep_bl
    · exact k.elim
  · split at k
    · split at k
      · rename_i c q
        exact op_notIn_sign pins s σ H _ _ _ _ Q I rv rw ⟨c, _, by rw [rx.str, oneOf_eq q], ry.str, k.here rl rep_bl⟩
      · exact k.elim
    · exact k.elim
end
end DL

/-! The data layer, 5: places, slices, built-in functions. -/
namespace DL
open PySem PySem.Spec PyProof.Rows L2

/-! ### x[i] -/
theorem Reps.atI {g : G} {F : Hp} {μ : List Addr} {ds : List D} {vs : List V} {i : Int} {d : D} (h : Reps g F μ ds vs) (e : L2.atI ds i = some d) : ∃ v, L2.atI vs i = some v ∧ Rep g F μ d v := by
  unfold L2.atI at e ⊢
  rw [← h.length]
  cases q : ixN ds.length i with
  | none => rw [q] at e; cases e
  | some j =>
    rw [q] at e
    exact h.get e
def ixD (x y : D) : M D := fun S => match y with
  | .int i => match seqOf x S with
    | some l => match L2.atI l i with
      | some d => .ok d S
      | none => .stuck
    | none => match x with
      | .str z => match L2.atI z.cps.toList i with
        | some c => if z.length ≤ sizeLine then .ok (.str ⟨#[c]⟩) S else .stuck
        | none => .stuck
      | _ => .stuck
  | _ => .stuck
section
variable {X : Cx} {W : WX} {a b : Expr} {fa fb : EM} {pos : Pos}
theorem d_ix (ha : DE X W a fa) (hb : DE X W b fb) (hs : PlainIx b := by exact fun _ _ => rfl) : DE X W (.Subscript a b pos) (mOp ixD fa fb) := by
  refine PE.weak (pe_ix ix_seq ha hb hs) fun σ H Q h => ?_
  obtain ⟨P, ρ, F, μ, S, en, rl, k⟩ := h
  refine tD.run en rl (Fin.imp (Fin.bind (rep := repD (gX X)) k) (fun v H1 ⟨x, F1, μ1, S1, g1, r1, p1, k1⟩ => ?_) fun _ _ _ z => z)
  refine tD.run (en.mono g1) r1 (Fin.imp (Fin.bind (rep := repD (gX X)) k1) (fun w H2 ⟨y, F2, μ2, S2, g2, r2, p2, k2⟩ => ?_) fun _ _ _ z => z)
  have px := p1.mono g2
  unfold ixD at k2
  split at k2
  · split at k2
    · rename_i i _ l e
      split at k2
      · rename_i d q
        obtain ⟨a', xs, ea, hs', hr⟩ := seqOf_rep r2 e px
        obtain ⟨v', h1, h2⟩ := hr.atI q
        rcases hs' with hs' | hs'
        · exact .inl ⟨a', xs, i, v', ea, p2.int, hs', h1, k2.here r2 h2⟩
        · exact .inr (.inl ⟨a', xs, i, v', ea, p2.int, hs', h1, k2.here r2 h2⟩)
      · exact k2.elim
    · split at k2
      · split at k2
        · rename_i c q
          split at k2
          · rename_i hl
            exact .inr (.inr ⟨_, _, c, px.str, p2.int, hl, q, k2.here r2 rep_str⟩)
          · exact k2.elim
        · exact k2.elim
      · exact k2.elim
  · exact k2.elim
end

/-! ### slices -/
abbrev PM := Env → M (Option Int)
def mNoP : PM := fun _ S => .ok none S
def mPart (f : EM) : PM := fun ρ S => (f ρ S).bind fun d S => match d with
  | .int i => .ok (some i) S
  | _ => .stuck
abbrev repO : Hp → List Addr → Option Int → Option Int → Prop := fun _ _ a b => a = b
def tDO (g : G) (W : WX) (f : PM) : TO := fun σ H Q => ∃ P ρ F μ S, EnvR g F μ ρ σ ∧ Rel g P F μ S H ∧ Fin repO g P F μ (f ρ S) Q (fun c d H' => W c d σ H')
abbrev DO (X : Cx) (W : WX) (e : Option Expr) (f : PM) : Prop := PO X e (tDO (gX X) W f)
def cutD (xs : List D) (lo hi : Option Int) : List D := (xs.drop (HT.sIx xs.length 0 lo)).take (HT.sIx xs.length xs.length hi - HT.sIx xs.length 0 lo)
theorem Reps.cut {g : G} {F : Hp} {μ : List Addr} {ds : List D} {vs : List V} (h : Reps g F μ ds vs) (lo hi : Option Int) : Reps g F μ (cutD ds lo hi) (cutV vs lo hi) := by
  unfold cutD cutV
  rw [← h.length]
  exact (h.drop _).take _
def slD (x : D) (lo hi : Option Int) : M D := fun S => match x with
  | .tup l => .ok (.tup (cutD l lo hi)) S
  | .str z => if z.length ≤ sizeLine then .ok (.str (cutS z lo hi)) S else .stuck
  | x => match lstOf x S with
    | some l => .ok (.lst (cutD l lo hi)) S
    | none => .stuck
def mSl (fe : EM) (fl fh : PM) : EM := fun ρ S => (fe ρ S).bind fun x S => (fl ρ S).bind fun l S => (fh ρ S).bind fun h S => slD x l h S
theorem cutD_whole {xs : List D} {lo hi : Option Int} (h : HT.sIx xs.length 0 lo = 0 ∧ HT.sIx xs.length xs.length hi = xs.length) : cutD xs lo hi = xs := by
  unfold cutD
  rw [h.1, h.2]
  simp
section
variable {X : Cx} {W : WX} {e : Expr} {fe : EM} {lo hi : Option Expr} {fl fh : PM} {pos p2 : Pos}
theorem do_none : DO X W none mNoP := by
  refine ⟨fun pins s σ H Q I h => ?_⟩
  obtain ⟨P, ρ, F, μ, S, en, rl, k⟩ := h
  exact po_none.run pins s σ H Q I (k.here rl rfl)
theorem do_some (h : DE X W e fe) : DO X W (some e) (mPart fe) := by
  refine ⟨fun pins s σ H Q I hw => ?_⟩
  refine (po_some h).run pins s σ H Q I ?_
  obtain ⟨P, ρ, F, μ, S, en, rl, k⟩ := hw
  refine tD.run en rl (Fin.imp (Fin.bind (rep := repD (gX X)) k) (fun v H1 ⟨x, F1, μ1, S1, g1, r1, p1, k1⟩ => ?_) fun _ _ _ z => z)
  cases x <;> first | exact k1.elim | skip
  exact ⟨_, p1.int, k1.here r1 rfl⟩
/-- a part of a tuple -/
theorem sl_tupN : SlR X (fun x lo hi H Q => ∃ a xs, x = .ref a ∧ SqT X.K H a xs ∧ (HT.sIx xs.length 0 lo = 0 ∧ HT.sIx xs.length xs.length hi = xs.length → Q (.ref a) H) ∧ ∀ (p : Addr) (ob : Obj), H p = none → ob.dict = none → Q (.ref p) (upd H p (.frz ob (.tup (cutV xs lo hi))))) := by
  intro pins s σ H x v vl vu lo hi sl Q I rx hs pl pu ⟨a, xs, e, hx, q1, q2⟩
  by_cases hw : HT.sIx xs.length 0 lo = 0 ∧ HT.sIx xs.length xs.length hi = xs.length
  · exact sl_tupA pins s σ H x v vl vu lo hi sl Q I rx hs pl pu ⟨a, xs, e, hx, q1, fun z => absurd hw z⟩
  · subst e
    cases rx
    obtain ⟨its, r, ht, hz⟩ := I.tuple hx
    have hlen : its.toArray.size = xs.length := List.size_toArray .. ▸ r.length.symm
    refine ⟨"tuple", _, PyProof.Rows.slot_tuple_getitem.lookup, ht.typeIs, HT.getItem_tuple_cut ht hs pl pu (hlen ▸ hw) ?_ (hlen ▸ hz)⟩
    rw [hlen]
    exact ⟨.ref s.heap.objs.size, _, tup_laid (t' := s.toks) I ((r.drop _).take _) (Nat.le_trans (cutV_length xs lo hi) hz), rfl, q2 _ _ (I.hok.fresh (Nat.le_refl _)) rfl⟩
/-- tuple(l) -/
theorem call_tupN : CallR X (.type "tuple") (fun xs H Q => ∃ p ys, xs = [.ref p] ∧ SqL X.K H p ys ∧ ∀ (l : Addr) (ob : Obj), H l = none → ob.dict = none → Q (.ref l) (upd H l (.frz ob (.tup ys)))) := by
  intro pins s σ H xs us Q I r ⟨p, ys, e, hq, q⟩
  subst e
  obtain ⟨u, rfl, rx⟩ := vals1 r
  cases rx
  obtain ⟨its, r', pl, hz⟩ := I.list hq
  refine call_tuple_list pl.isList (fun h' kp => ?_) (by have := r'.length; simp only [List.size_toArray]; omega)
  have I1 : Inv X pins σ H { s with heap := h' } := I.kept (t' := s.toks) kp
  exact ⟨.ref h'.objs.size, _, tup_laid (t' := s.toks) I1 r' hz, rfl, q _ _ (I1.hok.fresh (Nat.le_refl _)) rfl⟩
theorem d_sl (he : DE X W e fe) (hl : DO X W lo fl) (hh : DO X W hi fh) : DE X W (.Subscript e (.Slice lo hi none p2) pos) (mSl fe fl fh) := by
  refine PE.weak (pe_slice (sl_tupN.or (sl_list.or sl_str)) he hl hh) fun σ H Q ⟨P, ρ, F, μ, S, en, rl, k⟩ => ?_
  refine tD.run en rl (Fin.imp (Fin.bind (rep := repD (gX X)) k) (fun v H1 ⟨x, F1, μ1, S1, g1, r1, p1, k1⟩ => ?_) fun _ _ _ z => z)
  refine ⟨P, ρ, F1, μ1, S1, en.mono g1, r1, Fin.imp (Fin.bind (rep := repO) k1) (fun l H2 ⟨l', F2, μ2, S2, g2, r2, p2, k2⟩ => ?_) fun _ _ _ z => z⟩
  refine ⟨P, ρ, F2, μ2, S2, (en.mono g1).mono g2, r2, Fin.imp (Fin.bind (rep := repO) k2) (fun h H3 ⟨h', F3, μ3, S3, g3, r3, p3, k3⟩ => ?_) fun _ _ _ z => z⟩
  cases p2
  cases p3
  have px := (p1.mono g2).mono g3
  unfold slD at k3
  split at k3
  · obtain ⟨a, xs, ea, hs, hr⟩ := px.tup r3
    have hl := hr.length
    refine .inl ⟨a, xs, ea, hs, fun hw => ?_, fun p ob hp ho => k3.newT r3 (hr.cut l h) hp ho⟩
    rw [cutD_whole (by rw [hl]; exact hw)] at k3
    exact k3.here r3 (by rw [← ea]; exact px)
  · split at k3
    · rename_i hl
      exact .inr (.inr ⟨_, px.str, hl, k3.here r3 rep_str⟩)
    · exact k3.elim
  · split at k3
    · rename_i ll q
      obtain ⟨a, xs, ea, hs, hr⟩ := lstOf_rep r3 q px
      exact .inr (.inl ⟨a, xs, ea, hs, fun p hp => k3.newL r3 (hr.cut l h) hp⟩)
    · exact k3.elim
/-- xs[::-1] -/
def revD (x : D) : M D := fun S => match lstOf x S with
  | some l => .ok (.lst l.reverse) S
  | none => .stuck
theorem d_rev {k : Nat} {p1 p2 p3 : Pos} (he : DE X W e fe) : DE X W (.Subscript e (.Slice none none (some (.UnaryOp .USub (.Constant (.int 1) k p1) p2)) p3) pos) (mUn revD fe) := by
  refine PE.weak (pe_revL he) fun σ H Q ⟨P, ρ, F, μ, S, en, rl, k⟩ => ?_
  refine tD.run en rl (Fin.imp (Fin.bind (rep := repD (gX X)) k) (fun v H1 ⟨x, F1, μ1, S1, g1, r1, p1, k1⟩ => ?_) fun _ _ _ z => z)
  unfold revD at k1
  split at k1
  · rename_i l q
    obtain ⟨a, xs, ea, hs, hr⟩ := lstOf_rep r1 q p1
    exact ⟨a, xs, ea, hs, fun p hp => k1.newL r1 hr.reverse hp⟩
  · exact k1.elim
end

/-! ### built-in functions and types, called -/
def CallD (X : Cx) (f : Value) (m : List D → M D) : Prop := CallR X f (fun vs H Q => ∃ ds P F μ S E, Rel (gX X) P F μ S H ∧ Reps (gX X) F μ ds vs ∧ Fin (repD (gX X)) (gX X) P F μ (m ds S) Q E)
def mCB (m : List D → M D) (fa : AM) : EM := fun ρ S => (fa ρ S).bind m
section
variable {X : Cx} {W : WX} {x : Str} {p pos : Pos} {e : Expr} {es : List Expr} {fa : AM} {id T : String} {m : List D → M D}
theorem cb_run : ∀ σ H Q, tD (gX X) W (mCB m fa) σ H Q → tCB (fun vs H Q => ∃ ds P F μ S E, Rel (gX X) P F μ S H ∧ Reps (gX X) F μ ds vs ∧ Fin (repD (gX X)) (gX X) P F μ (m ds S) Q E) (tDA (gX X) W fa) σ H Q := fun σ H Q ⟨P, ρ, F, μ, S, en, rl, k⟩ =>
  tDA.run en rl (Fin.imp (Fin.bind (rep := repA (gX X)) k) (fun v H1 ⟨ds, F1, μ1, S1, g1, r1, p1, k1⟩ => ⟨ds, P, F1, μ1, S1, _, r1, p1, k1⟩) fun _ _ _ z => z)
theorem d_callB (hc : CallD X (.builtin id) m) (hm : X.mg x = none) (ha : DA X W (e :: es) fa) (hg : Gl X x := by rfl) (hv : bootBuiltins x = some (.builtin id) := by decide +kernel) (hn : x ≠ "__name__" := by decide) (hdb : (x == ("__debug__" : Str)) = false := by decide)
    (he : starEach (e :: es) X.env = (false, eval e X.env) :: starEach es X.env := by rfl) (hpl : (backTo pos (starEach es X.env)).any (·.1) = false := by rfl) : DE X W (.Call (.Name x p) (e :: es) [] pos) (mCB m fa) :=
  PE.weak (pe_callB hc hg hm hv ha hn hdb he hpl) cb_run
theorem d_callT (hc : CallD X (.type T) m) (hm : X.mg x = none) (ha : DA X W (e :: es) fa) (hg : Gl X x := by rfl) (hv : bootBuiltins x = some (.type T) := by decide +kernel) (hn : x ≠ "__name__" := by decide) (hdb : (x == ("__debug__" : Str)) = false := by decide)
    (he : starEach (e :: es) X.env = (false, eval e X.env) :: starEach es X.env := by rfl) (hpl : (backTo pos (starEach es X.env)).any (·.1) = false := by rfl) : DE X W (.Call (.Name x p) (e :: es) [] pos) (mCB m fa) :=
  PE.weak (pe_callTy hc hg hm hv ha hn hdb he hpl) cb_run
end
/-- one argument -/
def one (m : D → M D) : List D → M D := fun ds S => match ds with
  | [d] => m d S
  | _ => .stuck
def two (m : D → D → M D) : List D → M D := fun ds S => match ds with
  | [x, y] => m x y S
  | _ => .stuck
@[simp] theorem one_eq (m : D → M D) (d : D) (S : Store) : one m [d] S = m d S := rfl
@[simp] theorem two_eq (m : D → D → M D) (x y : D) (S : Store) : two m [x, y] S = m x y S := rfl
theorem one_fin {g : G} {P F : Hp} {μ : List Addr} {S : Store} {E : XK} {m : D → M D} {ds : List D} {vs : List V} {Q : VK} (k : Fin (repD g) g P F μ (one m ds S) Q E) (p : Reps g F μ ds vs) : ∃ d v, vs = [v] ∧ Rep g F μ d v ∧ Fin (repD g) g P F μ (m d S) Q E := by
  unfold one at k
  split at k
  · rename_i d
    simp only [Reps] at p
    obtain ⟨v, _, rfl, h1, rfl⟩ := p
    exact ⟨d, v, rfl, h1, k⟩
  · exact k.elim
theorem two_fin {g : G} {P F : Hp} {μ : List Addr} {S : Store} {E : XK} {m : D → D → M D} {ds : List D} {vs : List V} {Q : VK} (k : Fin (repD g) g P F μ (two m ds S) Q E) (p : Reps g F μ ds vs) : ∃ d e v w, vs = [v, w] ∧ Rep g F μ d v ∧ Rep g F μ e w ∧ Fin (repD g) g P F μ (m d e S) Q E := by
  unfold two at k
  split at k
  · rename_i d e
    simp only [Reps] at p
    obtain ⟨v, _, rfl, h1, w, _, rfl, h2, rfl⟩ := p
    exact ⟨d, e, v, w, rfl, h1, h2, k⟩
  · exact k.elim
def lenD (x : D) : M D := fun S => match seqOf x S with
  | some l => .ok (.int l.length) S
  | none => match x with
    | .str z => if z.length ≤ sizeLine then .ok (.int z.length) S else .stuck
    | _ => .stuck
def absD : D → M D
  | .int i, S => .ok (.int (if i < 0 then -i else i)) S
  | _, _ => .stuck
def minD : D → D → M D
  | .int i, .int j, S => .ok (.int (if j < i then j else i)) S
  | _, _, _ => .stuck
def maxD : D → D → M D
  | .int i, .int j, S => .ok (.int (if j > i then j else i)) S
  | _, _, _ => .stuck
def intD : D → M D
  | .int i, S => .ok (.int i) S
  | .bl b, S => .ok (.int (b2 b)) S
  | .str z, S => match PySem.intText? z with
    | some n => if z.length ≤ 640 then .ok (.int n) S else .stuck
    | none => .stuck
  | _, _ => .stuck
def strD : D → M D
  | .int i, S => if i.natAbs.log2 < 1920 then .ok (.str (toString i)) S else .stuck
  | _, _ => .stuck
/-- list(x), tuple(x) -/
def listD (x : D) : M D := fun S => match seqOf x S with
  | some l => .ok (.lst l) S
  | none => .stuck
def tupleD (x : D) : M D := fun S => match x with
  | .wt _ => .stuck
  | x => match seqOf x S with
    | some l => .ok (.tup l) S
    | none => .stuck
def blOf : D → Option Bool
  | .bl b => some b
  | _ => none
def blsOf : List D → Option (List Bool)
  | [] => some []
  | d :: ds => match blOf d, blsOf ds with
    | some b, some bs => some (b :: bs)
    | _, _ => none
theorem blsOf_rep {g : G} {F : Hp} {μ : List Addr} : ∀ {ds : List D} {bs : List Bool} {vs : List V}, blsOf ds = some bs → Reps g F μ ds vs → vs = bs.map V.bl
  | [], _, _, e, p => by
    cases e
    simp only [Reps] at p
    rw [p]; rfl
  | d :: ds, bs, vs, e, p => by
    simp only [Reps] at p
    obtain ⟨v, vs, rfl, p1, p2⟩ := p
    unfold blsOf at e
    split at e
    · rename_i b bs' q1 q2
      cases e
      cases d <;> first | (cases q1; done) | skip
      cases q1
      rw [p1.bl, blsOf_rep q2 p2]
      rfl
    · cases e
def allD (x : D) : M D := fun S => match lstOf x S with
  | some l => match blsOf l with
    | some bs => .ok (.bl (bs.all id)) S
    | none => .stuck
  | none => .stuck
def anyD (x : D) : M D := fun S => match lstOf x S with
  | some l => match blsOf l with
    | some bs => .ok (.bl (bs.any id)) S
    | none => .stuck
  | none => .stuck
section
variable {X : Cx}
theorem cd_len : CallD X (.builtin "len") (one lenD) := by
  intro pins s σ H vs us Q I rv h
  obtain ⟨ds, P, F, μ, S, E, rl, rx, k⟩ := h
  obtain ⟨d, v, rfl, p, k⟩ := one_fin k rx
  unfold lenD at k
  split at k
  · rename_i l e
    obtain ⟨a, xs, ea, hs, hr⟩ := seqOf_rep rl e p
    refine call_len pins s σ H _ us Q I rv ⟨v, l.length, rfl, ?_, k.here rl rep_int⟩
    subst ea
    rcases hs with hs | hs
    · exact .inl ⟨xs, hs, hr.length⟩
    · exact .inr ⟨xs, hs, hr.length⟩
  · split at k
    · split at k
      · rename_i hl
        refine call_len pins s σ H _ us Q I rv ⟨v, _, rfl, ?_, k.here rl rep_int⟩
        rw [p.str]
        exact ⟨hl, rfl⟩
      · exact k.elim
    · exact k.elim
theorem cd_abs : CallD X (.builtin "abs") (one absD) := by
  intro pins s σ H vs us Q I rv h
  obtain ⟨ds, P, F, μ, S, E, rl, rx, k⟩ := h
  obtain ⟨d, v, rfl, p, k⟩ := one_fin k rx
  unfold absD at k
  split at k
  · exact call_abs pins s σ H _ us Q I rv ⟨_, by rw [p.int], k.here rl rep_int⟩
  · exact k.elim
theorem cd_min (hc : X.calm = true) : CallD X (.builtin "min") (two minD) := by
  intro pins s σ H vs us Q I rv h
  obtain ⟨ds, P, F, μ, S, E, rl, rx, k⟩ := h
  obtain ⟨d, e, v, w, rfl, p, q, k⟩ := two_fin k rx
  unfold minD at k
  split at k
  · exact call_min2 hc pins s σ H _ us Q I rv ⟨_, _, by rw [p.int, q.int], k.here rl rep_int⟩
  · exact k.elim
theorem cd_max (hc : X.calm = true) : CallD X (.builtin "max") (two maxD) := by
  intro pins s σ H vs us Q I rv h
  obtain ⟨ds, P, F, μ, S, E, rl, rx, k⟩ := h
  obtain ⟨d, e, v, w, rfl, p, q, k⟩ := two_fin k rx
  unfold maxD at k
  split at k
  · exact call_max2 hc pins s σ H _ us Q I rv ⟨_, _, by rw [p.int, q.int], k.here rl rep_int⟩
  · exact k.elim
theorem cd_int : CallD X (.type "int") (one intD) := by
  intro pins s σ H vs us Q I rv h
  obtain ⟨ds, P, F, μ, S, E, rl, rx, k⟩ := h
  obtain ⟨d, v, rfl, p, k⟩ := one_fin k rx
  unfold intD at k
  split at k
  · exact call_int1 pins s σ H _ us Q I rv (.inl ⟨_, by rw [p.int], k.here rl rep_int⟩)
  · exact call_int1 pins s σ H _ us Q I rv (.inr ⟨_, by rw [p.bl], k.here rl rep_int⟩)
  · split at k
    · rename_i n q
      split at k
      · rename_i hl
        exact call_int_str pins s σ H _ us Q I rv ⟨_, n, by rw [p.str], q, hl, k.here rl rep_int⟩
      · exact k.elim
    · exact k.elim
  · exact k.elim
theorem cd_str : CallD X (.type "str") (one strD) := by
  intro pins s σ H vs us Q I rv h
  obtain ⟨ds, P, F, μ, S, E, rl, rx, k⟩ := h
  obtain ⟨d, v, rfl, p, k⟩ := one_fin k rx
  unfold strD at k
  split at k
  · split at k
    · rename_i hz
      exact call_str_int pins s σ H _ us Q I rv ⟨_, by rw [p.int], hz, k.here rl rep_str⟩
    · exact k.elim
  · exact k.elim
theorem cd_list : CallD X (.type "list") (one listD) := by
  intro pins s σ H vs us Q I rv h
  obtain ⟨ds, P, F, μ, S, E, rl, rx, k⟩ := h
  obtain ⟨d, v, rfl, p, k⟩ := one_fin k rx
  unfold listD at k
  split at k
  · rename_i l e
    obtain ⟨a, xs, ea, hs, hr⟩ := seqOf_rep rl e p
    exact call_list_of pins s σ H _ us Q I rv ⟨a, xs, by rw [ea], hs, fun l hl => k.newL rl hr hl⟩
  · exact k.elim
theorem cd_tuple : CallD X (.type "tuple") (one tupleD) := by
  intro pins s σ H vs us Q I rv h
  obtain ⟨ds, P, F, μ, S, E, rl, rx, k⟩ := h
  obtain ⟨d, v, rfl, p, k⟩ := one_fin k rx
  unfold tupleD at k
  split at k
  · exact k.elim
  split at k
  · rename_i l e
    cases d with
    | tup l' =>
      cases e
      obtain ⟨a, xs, ea, hs, hr⟩ := p.tup rl
      exact call_tuple_of pins s σ H _ us Q I rv ⟨a, xs, by rw [ea], .inr ⟨hs, k.here rl (by rw [← ea]; exact p)⟩⟩
    | lst l' =>
      cases e
      obtain ⟨a, xs, ea, hs, hr⟩ := p.lst rl
      exact call_tupN pins s σ H _ us Q I rv ⟨a, xs, by rw [ea], hs, fun l ob hl ho => k.newT rl hr hl ho⟩
    | ref n =>
      obtain ⟨a, xs, ea, hs, hr⟩ := lstOf_rep rl (show lstOf (.ref n) S = some l from e) p
      exact call_tupN pins s σ H _ us Q I rv ⟨a, xs, by rw [ea], hs, fun l ob hl ho => k.newT rl hr hl ho⟩
    | wt l' => exact ((by assumption : ∀ (z : List D), D.wt l' = D.wt z → False) _ rfl).elim
    | _ => cases e
  · exact k.elim
theorem cd_all (hc : X.calm = true) : CallD X (.builtin "all") (one allD) := by
  intro pins s σ H vs us Q I rv h
  obtain ⟨ds, P, F, μ, S, E, rl, rx, k⟩ := h
  obtain ⟨d, v, rfl, p, k⟩ := one_fin k rx
  unfold allD at k
  split at k
  · rename_i l e
    obtain ⟨a, xs, ea, hs, hr⟩ := lstOf_rep rl e p
    split at k
    · rename_i bs q
      have := blsOf_rep q hr
      exact cr_all hc pins s σ H _ us Q I rv ⟨a, bs, by rw [ea], by rw [← this]; exact hs, k.here rl rep_bl⟩
    · exact k.elim
  · exact k.elim
theorem cd_any (hc : X.calm = true) : CallD X (.builtin "any") (one anyD) := by
  intro pins s σ H vs us Q I rv h
  obtain ⟨ds, P, F, μ, S, E, rl, rx, k⟩ := h
  obtain ⟨d, v, rfl, p, k⟩ := one_fin k rx
  unfold anyD at k
  split at k
  · rename_i l e
    obtain ⟨a, xs, ea, hs, hr⟩ := lstOf_rep rl e p
    split at k
    · rename_i bs q
      have := blsOf_rep q hr
      exact cr_any hc pins s σ H _ us Q I rv ⟨a, bs, by rw [ea], by rw [← this]; exact hs, k.here rl rep_bl⟩
    · exact k.elim
  · exact k.elim
mutual
theorem plain_noDict : ∀ (d : D), (toPy d).hasDict = false
  | .non => rfl
  | .bl _ => rfl
  | .int _ => rfl
  | .str _ => rfl
  | .tup l => by simp only [toPy, PyData.hasDict]; exact plains_noDict l
  | .wt l => rfl
  | .lst l => by simp only [toPy, PyData.hasDict]; exact plains_noDict l
  | .obj .. => rfl
  | .exc .. => rfl
  | .ref .. => rfl
theorem plains_noDict : ∀ (ds : List D), PyData.hasDictAll (toPys ds) = false
  | [] => rfl
  | d :: ds => by simp only [toPys, PyData.hasDictAll, plain_noDict d, plains_noDict ds]; rfl
end
theorem plain_up : ∀ {n : Nat} {d : D}, plain n d = true → plain (n + 1) d = true := fun {n d} h => by
  have key : (∀ (d : D) (n : Nat), plain n d = true → plain (n + 1) d = true) := fun d => by
    refine D.rec (motive_1 := fun d => ∀ n, plain n d = true → plain (n + 1) d = true) (motive_2 := fun ds => ∀ n, plains n ds = true → plains (n + 1) ds = true) ?_ ?_ ?_ ?_ ?_ ?_ ?_ ?_ ?_ ?_ ?_ ?_ d
    · intro n _; rfl
    · intro b n _; rfl
    · intro i n _; rfl
    · intro x n h; simpa [plain] using h
    · intro l ih n h
      cases n with
      | zero => simp [plain] at h
      | succ n => simp only [plain] at h ⊢; exact ih n h
    · intro l _ n h; simp [plain] at h
    · intro l ih n h
      cases n with
      | zero => simp [plain] at h
      | succ n => simp only [plain] at h ⊢; exact ih n h
    · intro c ns ds _ n h; simp [plain] at h
    · intro c ns ds _ n h; simp [plain] at h
    · intro k n h; simp [plain] at h
    · intro n _; simp [plains]
    · intro d ds h1 h2 n h
      simp only [plains, Bool.and_eq_true] at h ⊢
      exact ⟨h1 n h.1, h2 n h.2⟩
  exact key d n h
end
end DL

/-! The data layer, 6: what is walked; for, while, comprehensions. -/
namespace DL
open PySem PySem.Spec PyProof.Rows L2

/-- the iterator J gives the items ds, while F stands -/
structure WalkD (g : G) (F : Hp) (μ : List Addr) (ds : List D) (J : It) : Prop where
  goes : ∀ (P F' : Hp) (μ' : List Addr) (S : Store) (H : Hp) (i : Nat), Gr F μ F' μ' → Rel g P F' μ' S H → i < ds.length → J.go i H
  stops : ∀ (P F' : Hp) (μ' : List Addr) (S : Store) (H : Hp), Gr F μ F' μ' → Rel g P F' μ' S H → J.stop ds.length H
  yields : ∀ (P F' : Hp) (μ' : List Addr) (S : Store) (H : Hp) (i : Nat) (d : D) (x : V) (H' : Hp), Gr F μ F' μ' → Rel g P F' μ' S H → ds[i]? = some d → J.yld i H x H' → ∃ F2, Gr F' μ' F2 μ' ∧ Rel g P F2 μ' S H' ∧ Rep g F2 μ' d x
abbrev IM := Env → M (List D)
abbrev repI (g : G) : Hp → List Addr → List D → It → Prop := fun F μ ds J => WalkD g F μ ds J
def tDI (g : G) (W : WX) (f : IM) : TI := fun σ H R => ∃ P ρ F μ S, EnvR g F μ ρ σ ∧ Rel g P F μ S H ∧ Fin (repI g) g P F μ (f ρ S) R (fun c d H' => W c d σ H')
abbrev DI (X : Cx) (W : WX) (tg e : Expr) (f : IM) : Prop := PI X tg e (tDI (gX X) W f)
theorem PI.weak {X : Cx} {tg e : Expr} {t t' : TI} (h : PI X tg e t) (w : ∀ σ H Q, t' σ H Q → t σ H Q) : PI X tg e t' := ⟨fun pins s σ H Q I k => h.run pins s σ H Q I (w σ H Q k)⟩
section
variable {g : G} {F : Hp} {μ : List Addr} {ds : List D} {xs : List V} {a : Addr}
theorem walkD_list (hs : SqL g.K F a xs) (hr : Reps g F μ ds xs) : WalkD g F μ ds (Itl g.K a) where
  goes := fun P F' μ' S H i g1 r hi => by
    have hi' : i < xs.length := by rw [← hr.length]; exact hi
    exact ⟨xs, xs[i], sqL_mono r.gr0 (sqL_mono g1 hs), by simp [hi']⟩
  stops := fun P F' μ' S H g1 r => ⟨xs, sqL_mono r.gr0 (sqL_mono g1 hs), Nat.le_of_eq hr.length.symm⟩
  yields := fun P F' μ' S H i d x H' g1 r e y => by
    obtain ⟨v, h1, h2⟩ := hr.get e
    have := y.2 xs (sqL_mono r.gr0 (sqL_mono g1 hs))
    rw [h1] at this; cases this
    rw [y.1]
    exact ⟨F', Gr.refl _ _, r, h2.mono g1⟩
theorem walkD_tup (hs : SqT g.K F a xs) (hr : Reps g F μ ds xs) : WalkD g F μ ds (Itt g.K a) where
  goes := fun P F' μ' S H i g1 r hi => by
    have hi' : i < xs.length := by rw [← hr.length]; exact hi
    exact ⟨xs, xs[i], sqT_mono r.gr0 (sqT_mono g1 hs), by simp [hi']⟩
  stops := fun P F' μ' S H g1 r => ⟨xs, sqT_mono r.gr0 (sqT_mono g1 hs), Nat.le_of_eq hr.length.symm⟩
  yields := fun P F' μ' S H i d x H' g1 r e y => by
    obtain ⟨v, h1, h2⟩ := hr.get e
    have := y.2 xs (sqT_mono r.gr0 (sqT_mono g1 hs))
    rw [h1] at this; cases this
    rw [y.1]
    exact ⟨F', Gr.refl _ _, r, h2.mono g1⟩
def rangeL (lo : Int) (n : Nat) : List D := (List.range n).map fun i => D.int (lo + (i : Nat))
theorem rangeL_get {lo : Int} {n i : Nat} {d : D} (h : (rangeL lo n)[i]? = some d) : d = .int (lo + (i : Nat)) := by
  unfold rangeL at h
  rw [List.getElem?_map] at h
  cases q : (List.range n)[i]? with
  | none => rw [q] at h; cases h
  | some j =>
    rw [q] at h
    have : j = i := by
      obtain ⟨hi, e⟩ := List.getElem?_eq_some_iff.mp q
      simpa using e.symm
    subst this
    cases h; rfl
theorem walkD_range {lo : Int} {n : Nat} : WalkD g F μ (rangeL lo n) (Itr lo n) where
  goes := fun P F' μ' S H i g1 r hi => by
    show i < n
    simpa [rangeL] using hi
  stops := fun P F' μ' S H g1 r => by
    show n ≤ (rangeL lo n).length
    simp [rangeL]
  yields := fun P F' μ' S H i d x H' g1 r e y => by
    rw [rangeL_get e, y.2, y.1]
    exact ⟨F', Gr.refl _ _, r, rep_int⟩
/-- a new pair a turn -/
theorem walkD_pair {J : It} {l : List (List D)} (hg : ∀ (F' : Hp) (H : Hp), (∀ a o, F a = some o → F' a = some o) → (∀ a o, F' a = some o → H a = some o) → (∀ i, i < l.length → J.go i H) ∧ J.stop l.length H ∧
      ∀ i x H' ds, l[i]? = some ds → J.yld i H x H' → ∃ T xs, x = .ref T ∧ H T = none ∧ H' = upd H T (.tup xs) ∧ Reps g F μ ds xs) : WalkD g F μ (l.map D.wt) J where
  goes := fun P F' μ' S H i g1 r hi => (hg F' H g1.f r.sub).1 i (by simpa using hi)
  stops := fun P F' μ' S H g1 r => by rw [List.length_map]; exact (hg F' H g1.f r.sub).2.1
  yields := fun P F' μ' S H i d x H' g1 r e y => by
    rw [List.getElem?_map] at e
    cases q : l[i]? with
    | none => rw [q] at e; cases e
    | some ds =>
      rw [q] at e
      cases e
      obtain ⟨T, xs, rfl, hT, rfl, hr⟩ := (hg F' H g1.f r.sub).2.2 i x H' ds q y
      obtain ⟨r1, g2⟩ := r.froz (o := .tup xs) hT
      exact ⟨_, g2, r1, by simp only [Rep]; exact ⟨T, xs, rfl, .inl (.inl upd_same), (hr.mono g1).mono g2⟩⟩
end
/-- enumerate -/
def enumL : Nat → List D → List (List D)
  | _, [] => []
  | n, d :: ds => [.int (n : Nat), d] :: enumL (n + 1) ds
theorem enumL_len : ∀ (n : Nat) (ds : List D), (enumL n ds).length = ds.length
  | _, [] => rfl
  | n, d :: ds => by simp [enumL, enumL_len (n + 1) ds]
theorem enumL_get : ∀ {n : Nat} {ds : List D} {i : Nat} {x : List D}, (enumL n ds)[i]? = some x → ∃ d, ds[i]? = some d ∧ x = [.int ((n + i : Nat) : Int), d]
  | n, [], i, x, h => by simp [enumL] at h
  | n, d :: ds, i, x, h => by
    cases i with
    | zero => simp [enumL] at h; exact ⟨d, rfl, by simp [← h]⟩
    | succ i =>
      simp only [enumL, List.getElem?_cons_succ] at h
      obtain ⟨e, h1, h2⟩ := enumL_get h
      exact ⟨e, by simpa using h1, by rw [h2, show n + 1 + i = n + (i + 1) by omega]⟩
def zipL : List D → List D → List (List D)
  | x :: xs, y :: ys => [x, y] :: zipL xs ys
  | _, _ => []
theorem zipL_len : ∀ (xs ys : List D), (zipL xs ys).length = min xs.length ys.length
  | [], _ => by simp [zipL]
  | _ :: _, [] => by simp [zipL]
  | x :: xs, y :: ys => by simp only [zipL, List.length_cons, zipL_len xs ys]; omega
theorem zipL_get : ∀ {xs ys : List D} {i : Nat} {z : List D}, (zipL xs ys)[i]? = some z → ∃ x y, xs[i]? = some x ∧ ys[i]? = some y ∧ z = [x, y]
  | [], _, i, z, h => by simp [zipL] at h
  | _ :: _, [], i, z, h => by simp [zipL] at h
  | x :: xs, y :: ys, i, z, h => by
    cases i with
    | zero => simp [zipL] at h; exact ⟨x, y, rfl, rfl, h.symm⟩
    | succ i =>
      simp only [zipL, List.getElem?_cons_succ] at h
      obtain ⟨a, b, h1, h2, h3⟩ := zipL_get h
      exact ⟨a, b, by simpa using h1, by simpa using h2, h3⟩
section
variable {g : G} {F : Hp} {μ : List Addr} {ds es : List D} {xs ys : List V} {a b : Addr}
theorem walkD_enum (hs : SqL g.K F a xs) (hr : Reps g F μ ds xs) : WalkD g F μ ((enumL 0 ds).map D.wt) (Ite g.K a) := by
  refine walkD_pair fun F' H h1 h2 => ?_
  have hx : SqL g.K H a xs := sqL_mono (μ := μ) (μ' := μ) ⟨fun c o e => h2 c o (h1 c o e), fun _ _ z => z⟩ hs
  have w : Walk (Ite g.K a) xs.length (fun H => SqL g.K H a xs) (YPair (fun i => some (.int (i : Nat))) (fun i => xs[i]?)) := walk_enum
  refine ⟨fun i hi => w.goes i H (by rw [← hr.length, ← enumL_len 0]; exact hi) hx, ?_, fun i x H' z e y => ?_⟩
  · rw [enumL_len, hr.length]; exact w.stops H hx
  · obtain ⟨d, e1, rfl⟩ := enumL_get e
    obtain ⟨v, e2, e3⟩ := hr.get e1
    obtain ⟨T, u, u', h3, h4, h5, h6, h7⟩ := w.yields i H x H' ((List.getElem?_eq_some_iff.mp e2).1) hx y
    cases h6
    have h7 : xs[i]? = some u' := h7
    rw [e2] at h7; cases h7
    refine ⟨T, _, h3, h4, h5, reps_cons ?_ (reps_cons e3 reps_nil)⟩
    rw [Nat.zero_add]; exact rep_int
theorem walkD_zipL (hs : SqL g.K F a xs) (hr : Reps g F μ ds xs) (hs2 : SqL g.K F b ys) (hr2 : Reps g F μ es ys) : WalkD g F μ ((zipL ds es).map D.wt) (Itz g.K a b) := by
  refine walkD_pair fun F' H h1 h2 => ?_
  have gr : Gr F μ H μ := ⟨fun c o e => h2 c o (h1 c o e), fun _ _ z => z⟩
  have hx := sqL_mono (g := g) gr hs
  have hy := sqL_mono (g := g) gr hs2
  have w := walk_zip (K := g.K) (a := a) (b := b) (xs := xs) (ys := ys) (n := (zipL ds es).length) (by rw [zipL_len, hr.length, hr2.length])
  refine ⟨fun i hi => w.goes i H hi ⟨hx, hy⟩, w.stops H ⟨hx, hy⟩, fun i x H' z e y => ?_⟩
  obtain ⟨d, d2, e1, e1', rfl⟩ := zipL_get e
  obtain ⟨v, e2, e3⟩ := hr.get e1
  obtain ⟨v2, e2', e3'⟩ := hr2.get e1'
  obtain ⟨T, u, u', h3, h4, h5, h6, h7⟩ := w.yields i H x H' ((List.getElem?_eq_some_iff.mp e).1) ⟨hx, hy⟩ y
  have h6 : xs[i]? = some u := h6
  have h7 : ys[i]? = some u' := h7
  rw [e2] at h6; cases h6
  rw [e2'] at h7; cases h7
  exact ⟨T, _, h3, h4, h5, reps_cons e3 (reps_cons e3' reps_nil)⟩
theorem walkD_zipT (hs : SqT g.K F a xs) (hr : Reps g F μ ds xs) (hs2 : SqT g.K F b ys) (hr2 : Reps g F μ es ys) : WalkD g F μ ((zipL ds es).map D.wt) (RZ.ItzT g.K a b) := by
  refine walkD_pair fun F' H h1 h2 => ?_
  have gr : Gr F μ H μ := ⟨fun c o e => h2 c o (h1 c o e), fun _ _ z => z⟩
  have hx := sqT_mono (g := g) gr hs
  have hy := sqT_mono (g := g) gr hs2
  refine ⟨fun i hi => ?_, ?_, fun i x H' z e y => ?_⟩
  · rw [zipL_len, hr.length, hr2.length] at hi
    have q1 : i < xs.length := by omega
    have q2 : i < ys.length := by omega
    exact ⟨xs, ys, xs[i], ys[i], hx, hy, by simp [q1], by simp [q2]⟩
  · exact ⟨xs, ys, hx, hy, by rw [zipL_len, hr.length, hr2.length]; omega⟩
  · obtain ⟨d, d2, e1, e1', rfl⟩ := zipL_get e
    obtain ⟨v, e2, e3⟩ := hr.get e1
    obtain ⟨v2, e2', e3'⟩ := hr2.get e1'
    obtain ⟨T, u, u', h3, h4, h5, h6, h7⟩ := y
    have h6 := h6 xs hx
    have h7 := h7 ys hy
    rw [e2] at h6; cases h6
    rw [e2'] at h7; cases h7
    exact ⟨T, _, h3, h4, h5, reps_cons e3 (reps_cons e3' reps_nil)⟩
end
/-- the items of a value -/
def itemsD : D → M (List D)
  | .tup l, S => .ok l S
  | .lst l, S => .ok l S
  | _, _ => .stuck
def mIt (fe : EM) : IM := fun ρ S => (fe ρ S).bind itemsD
def mRange1 (fa : EM) : IM := fun ρ S => (fa ρ S).bind fun d S => match d with
  | .int j => if -(2 ^ 62) ≤ j ∧ j < 2 ^ 62 then .ok (rangeL 0 j.toNat) S else .stuck
  | _ => .stuck
def mRange2 (fa fb : EM) : IM := fun ρ S => (fa ρ S).bind fun d S => (fb ρ S).bind fun e S => match d, e with
  | .int i, .int j => if -(2 ^ 62) ≤ i ∧ i < 2 ^ 62 ∧ -(2 ^ 62) ≤ j ∧ j < 2 ^ 62 then .ok (rangeL i (j - i).toNat) S else .stuck
  | _, _ => .stuck
def mEnum (fe : EM) : IM := fun ρ S => (fe ρ S).bind fun d S => match d with
  | .lst l => .ok ((enumL 0 l).map D.wt) S
  | _ => .stuck
def mZip (fa fb : EM) : IM := fun ρ S => (fa ρ S).bind fun d S => (fb ρ S).bind fun e S => match d, e with
  | .lst l, .lst k => .ok ((zipL l k).map D.wt) S
  | .tup l, .tup k => .ok ((zipL l k).map D.wt) S
  | _, _ => .stuck
section
variable {X : Cx} {W : WX} {tg e e2 : Expr} {fe fe2 : EM} {p pos tpos : Pos}
theorem di_seq (h : DE X W e fe) : DI X W tg e (mIt fe) := by
  refine ⟨fun pins s σ H R I k => ?_⟩
  obtain ⟨P, ρ, F, μ, S, en, rl, k⟩ := k
  cases q : fe ρ S with
  | stuck => simp only [mIt, q] at k; exact k.elim
  | exn x S1 =>
    refine (pi_list (tg := tg) h).run pins s σ H R I (tD.run en rl ?_)
    rw [q]
    simp only [mIt, q] at k
    exact k
  | ok d S1 =>
    cases d <;> first | (simp only [mIt, q] at k; exact k.elim) | skip
    · rename_i l
      simp only [mIt, q] at k
      refine (pi_tup (tg := tg) h).run pins s σ H R I (tD.run en rl ?_)
      rw [q]
      intro F' μ' H' v g1 r1 p1
      simp only [Rep] at p1
      obtain ⟨a, xs, ea, ⟨hs, _⟩, hr⟩ := p1
      exact ⟨a, ea, ⟨xs, sqT_mono (g := gX X) r1.gr0 hs⟩, k F' μ' H' _ g1 r1 (walkD_tup hs hr)⟩
    · rename_i l
      simp only [mIt, q] at k
      refine (pi_list (tg := tg) h).run pins s σ H R I (tD.run en rl ?_)
      rw [q]
      intro F' μ' H' v g1 r1 p1
      simp only [Rep] at p1
      obtain ⟨a, xs, ea, hs, hr⟩ := p1
      exact ⟨a, ea, ⟨xs, sqL_mono (g := gX X) r1.gr0 hs⟩, k F' μ' H' _ g1 r1 (walkD_list hs hr)⟩
theorem di_range1 (hm : X.mg "range" = none) (h : DE X W e fe) (hg : Gl X "range" := by rfl) (hs : starEach [e] X.env = [(false, eval e X.env)] := by rfl) : DI X W tg (.Call (.Name "range" p) [e] [] pos) (mRange1 fe) := by
  refine PI.weak (pi_range1 hg hm (pa_cons h pa_nil hs) hs) fun σ H R ⟨P, ρ, F, μ, S, en, rl, k⟩ => ?_
  refine tD.run en rl (Fin.imp (Fin.bind (rep := repD (gX X)) k) (fun v H1 ⟨d, F1, μ1, S1, g1, r1, p1, k1⟩ => ?_) fun _ _ _ z => z)
  cases d <;> first | exact k1.elim | skip
  rename_i j
  simp only at k1
  split at k1
  · rename_i hj
    exact ⟨j, by rw [p1.int], hj.1, hj.2, k1.here r1 walkD_range⟩
  · exact k1.elim
theorem di_range2 (hm : X.mg "range" = none) (h : DE X W e fe) (h2 : DE X W e2 fe2) (hg : Gl X "range" := by rfl) (hs : starEach [e, e2] X.env = [(false, eval e X.env), (false, eval e2 X.env)] := by rfl) (hs2 : starEach [e2] X.env = [(false, eval e2 X.env)] := by rfl) :
    DI X W tg (.Call (.Name "range" p) [e, e2] [] pos) (mRange2 fe fe2) := by
  refine PI.weak (pi_range2 hg hm (pa_cons h (pa_cons h2 pa_nil hs2) (by rw [hs, hs2])) hs hs2) fun σ H R ⟨P, ρ, F, μ, S, en, rl, k⟩ => ?_
  refine tD.run en rl (Fin.imp (Fin.bind (rep := repD (gX X)) k) (fun v H1 ⟨d, F1, μ1, S1, g1, r1, p1, k1⟩ => ?_) fun _ _ _ z => z)
  refine tD.run (en.mono g1) r1 (Fin.imp (Fin.bind (rep := repD (gX X)) k1) (fun v2 H2 ⟨d2, F2, μ2, S2, g2, r2, p2, k2⟩ => ?_) fun _ _ _ z => z)
  cases d with
  | int i =>
    cases d2 with
    | int j =>
      simp only at k2
      split at k2
      · rename_i hj
        exact ⟨i, j, by rw [p1.int, p2.int], hj, k2.here r2 walkD_range⟩
      · exact k2.elim
    | _ => exact k2.elim
  | _ => exact k2.elim
theorem di_enum {elts : List Expr} {kk : Nat} (hm : X.mg "enumerate" = none) (h : DE X W e fe) (hg : Gl X "enumerate" := by rfl) (hs : starEach [e] X.env = [(false, eval e X.env)] := by rfl) :
    DI X W (.Tuple elts kk tpos) (.Call (.Name "enumerate" p) [e] [] pos) (mEnum fe) := by
  refine PI.weak (pi_enum hg hm (pa_cons h pa_nil hs) hs) fun σ H R ⟨P, ρ, F, μ, S, en, rl, k⟩ => ?_
  refine tD.run en rl (Fin.imp (Fin.bind (rep := repD (gX X)) k) (fun v H1 ⟨d, F1, μ1, S1, g1, r1, p1, k1⟩ => ?_) fun _ _ _ z => z)
  cases d <;> first | exact k1.elim | skip
  simp only [Rep] at p1
  obtain ⟨a, xs, ea, hs, hr⟩ := p1
  exact ⟨a, xs, by rw [ea], sqL_mono (g := gX X) r1.gr0 hs, k1.here r1 (walkD_enum hs hr)⟩
theorem di_zip {elts : List Expr} {kk : Nat} (hm : X.mg "zip" = none) (h : DE X W e fe) (h2 : DE X W e2 fe2) (hg : Gl X "zip" := by rfl) (hs : starEach [e, e2] X.env = [(false, eval e X.env), (false, eval e2 X.env)] := by rfl) (hs2 : starEach [e2] X.env = [(false, eval e2 X.env)] := by rfl) (hz : (backTo pos (starEach [e2] X.env)).any (·.1) = false := by rfl) :
    DI X W (.Tuple elts kk tpos) (.Call (.Name "zip" p) [e, e2] [] pos) (mZip fe fe2) := by
  refine PI.weak (RZ.pi_zipA hg hm (pa_cons h (pa_cons h2 pa_nil hs2) (by rw [hs, hs2])) (by rw [hs, hs2]) hz) fun σ H R ⟨P, ρ, F, μ, S, en, rl, k⟩ => ?_
  refine tD.run en rl (Fin.imp (Fin.bind (rep := repD (gX X)) k) (fun v H1 ⟨d, F1, μ1, S1, g1, r1, p1, k1⟩ => ?_) fun _ _ _ z => z)
  refine tD.run (en.mono g1) r1 (Fin.imp (Fin.bind (rep := repD (gX X)) k1) (fun v2 H2 ⟨d2, F2, μ2, S2, g2, r2, p2, k2⟩ => ?_) fun _ _ _ z => z)
  have p1 := p1.mono g2
  cases d <;> cases d2 <;> first | exact k2.elim | skip
  · simp only [Rep] at p1 p2
    obtain ⟨a, xs, ea, ⟨hs, _⟩, hr⟩ := p1
    obtain ⟨b, ys, eb, ⟨hs', _⟩, hr'⟩ := p2
    exact ⟨a, b, xs, ys, by rw [ea, eb], .inr ⟨sqT_mono (g := gX X) r2.gr0 hs, sqT_mono (g := gX X) r2.gr0 hs', k2.here r2 (walkD_zipT hs hr hs' hr')⟩⟩
  · simp only [Rep] at p1 p2
    obtain ⟨a, xs, ea, hs, hr⟩ := p1
    obtain ⟨b, ys, eb, hs', hr'⟩ := p2
    exact ⟨a, b, xs, ys, by rw [ea, eb], .inl ⟨sqL_mono (g := gX X) r2.gr0 hs, sqL_mono (g := gX X) r2.gr0 hs', k2.here r2 (walkD_zipL hs hr hs' hr')⟩⟩
end

/-! ### for -/
def mForL (gm : GM) (fb : SM) : List D → Env → Store → O
  | [], ρ, S => .go .nx ρ S
  | d :: ds, ρ, S => match gm d ρ S with
    | none => .stuck
    | some x => match fb x.1 x.2 with
      | .go .nx ρ S => mForL gm fb ds ρ S
      | .go .ct ρ S => mForL gm fb ds ρ S
      | .go .bk ρ S => .go .nx ρ S
      | o => o
def mFor (fi : IM) (gm : GM) (fb : SM) : SM := fun ρ S => (fi ρ S).to ρ fun ds S => mForL gm fb ds ρ S
theorem ds_for {X : Cx} {W : WX} {tg iter : Expr} {body : List Stmt} {fi : IM} {gm : GM} {fb : SM} {pos : Pos} (hp : PassesOwn (model X.prog X.w) X.A X.env X.xe) (hc : X.calm = true) (hi : DI X W tg iter fi) (hg : DG X tg gm) (hb : DSs X W body fb)
    (hs : ∀ x, foldedSetIterable iter X.env x = pure x := by intro _; rfl) : DS X W (.For tg iter body [] pos) (mFor fi gm fb) := by
  refine PS.weak (ps_for hp hc hi hg hb hs) fun Dn σ H ⟨P, ρ, F, μ, S, en, rl, k⟩ => ?_
  refine ⟨P, ρ, F, μ, S, en, rl, Fin.imp (FinS.to (rep := repI (gX X)) en k) (fun J H1 ⟨ds, F1, μ1, S1, g1, r1, w, k1⟩ => ?_) fun _ _ _ z => z⟩
  refine ⟨fun i m σ H => m = ds.length - i ∧ i ≤ ds.length ∧ ∃ ρ F μ S, EnvR (gX X) F μ ρ σ ∧ Rel (gX X) P F μ S H ∧ Gr F1 μ1 F μ ∧ FinS (gX X) P F μ (mForL gm fb (ds.drop i) ρ S) Dn W, ⟨_, rfl, Nat.zero_le _, ρ, F1, μ1, S1, en.mono g1, r1, Gr.refl _ _, k1⟩, ?_⟩
  rintro i m σ2 H2 ⟨rfl, hi, ρ2, F2, μ2, S2, en2, r2, g2, k2⟩
  by_cases hlt : i < ds.length
  · refine .inr ⟨w.goes P F2 μ2 S2 H2 i g2 r2 hlt, _, fun σ' H' p' => ⟨ds.length - (i + 1), by omega, p'⟩, fun x H' y => ?_⟩
    obtain ⟨F3, g3, r3, rp⟩ := w.yields P F2 μ2 S2 H2 i ds[i] x H' g2 r2 (by simp [hlt]) y
    rw [List.drop_eq_getElem_cons hlt] at k2
    unfold mForL at k2
    cases q : gm ds[i] ρ2 S2 with
    | none => rw [q] at k2; exact k2.elim
    | some z =>
      rw [q] at k2
      refine ⟨ds[i], P, ρ2, F3, μ2, S2, z.1, z.2, en2.mono g3, r3, rp, q, fun F4 μ4 H4 σ4 g4 r4 en4 => ?_⟩
      refine tDS.run en4 r4 ?_
      have gg := (g3.trans g4)
      simp only at k2
      cases q2 : fb z.1 z.2 with
      | stuck => rw [q2] at k2; exact k2.elim
      | go fl ρ5 S5 =>
        rw [q2] at k2
        intro F5 μ5 H5 g5 r5
        cases fl with
        | nx => exact fun σ5 en5 => ⟨rfl, hlt, ρ5, F5, μ5, S5, en5, r5, (g2.trans gg).trans g5, FinS.gr (gg.trans g5) k2⟩
        | ct => exact fun σ5 en5 => ⟨rfl, hlt, ρ5, F5, μ5, S5, en5, r5, (g2.trans gg).trans g5, FinS.gr (gg.trans g5) k2⟩
        | bk => exact (FinS.gr (gg.trans g5) k2).here r5
        | rt d => exact (FinS.gr (gg.trans g5) k2).here r5
        | ex e => exact (FinS.gr (gg.trans g5) k2).here r5
  · have e : i = ds.length := by omega
    subst e
    rw [List.drop_length] at k2
    exact .inl ⟨w.stops P F2 μ2 S2 H2 g2 r2, k2.here r2 σ2 en2⟩

/-! ### while -/
/-- n turns at most -/
def mWhileN (c : BM) (b : SM) : Nat → Env → Store → Option O
  | 0, _, _ => none
  | n + 1, ρ, S => match c ρ S with
    | .ok true S => match b ρ S with
      | .go .nx ρ S => mWhileN c b n ρ S
      | .go .ct ρ S => mWhileN c b n ρ S
      | .go .bk ρ S => some (.go .nx ρ S)
      | o => some o
    | .ok false S => some (.go .nx ρ S)
    | .exn e S => some (.go (.ex e) ρ S)
    | .stuck => some .stuck
open Classical in
noncomputable def mWhile (c : BM) (b : SM) : SM := fun ρ S => if h : ∃ n o, mWhileN c b n ρ S = some o then (Classical.choose_spec h).choose else .stuck
theorem mWhileN_more {c : BM} {b : SM} : ∀ {n m : Nat} {ρ : Env} {S : Store} {o : O}, mWhileN c b n ρ S = some o → n ≤ m → mWhileN c b m ρ S = some o
  | 0, _, _, _, _, h, _ => by cases h
  | n + 1, 0, _, _, _, _, hm => by omega
  | n + 1, m + 1, ρ, S, o, h, hm => by
    unfold mWhileN at h ⊢
    cases q : c ρ S with
    | stuck => rw [q] at h; exact h
    | exn e S1 => rw [q] at h; exact h
    | ok t S1 =>
      rw [q] at h
      cases t with
      | false => exact h
      | true =>
        simp only at h ⊢
        cases q2 : b ρ S1 with
        | stuck => rw [q2] at h; exact h
        | go fl ρ2 S2 =>
          rw [q2] at h
          cases fl with
          | nx => exact mWhileN_more h (by omega)
          | ct => exact mWhileN_more h (by omega)
          | bk => exact h
          | rt d => exact h
          | ex e => exact h
theorem mWhile_of {c : BM} {b : SM} {n : Nat} {ρ : Env} {S : Store} {o : O} (h : mWhileN c b n ρ S = some o) : mWhile c b ρ S = o := by
  unfold mWhile
  have hx : ∃ n o, mWhileN c b n ρ S = some o := ⟨n, o, h⟩
  rw [dif_pos hx]
  have h1 := (Classical.choose_spec hx).choose_spec
  have h2 := mWhileN_more h (Nat.le_max_left n (Classical.choose hx))
  have h3 := mWhileN_more h1 (Nat.le_max_right n (Classical.choose hx))
  rw [h2] at h3
  exact (Option.some.inj h3).symm
theorem mWhile_get {c : BM} {b : SM} {ρ : Env} {S : Store} (h : mWhile c b ρ S ≠ .stuck) : ∃ n, mWhileN c b n ρ S = some (mWhile c b ρ S) := by
  by_cases hx : ∃ n o, mWhileN c b n ρ S = some o
  · obtain ⟨n, o, e⟩ := hx
    exact ⟨n, by rw [mWhile_of e]; exact e⟩
  · exact absurd (by unfold mWhile; rw [dif_neg hx]) h
/-- one turn -/
theorem mWhile_eq (c : BM) (b : SM) (ρ : Env) (S : Store) : mWhile c b ρ S = (c ρ S).to ρ fun t S => if t then (match b ρ S with
    | .go .nx ρ S => mWhile c b ρ S
    | .go .ct ρ S => mWhile c b ρ S
    | .go .bk ρ S => .go .nx ρ S
    | o => o) else .go .nx ρ S := by
  have up : ∀ (ρ2 : Env) (S2 : Store) (o : O), (∀ n o', mWhileN c b n ρ2 S2 = some o' → mWhileN c b (n + 1) ρ S = some o') → (∀ n o', mWhileN c b (n + 1) ρ S = some o' → mWhileN c b n ρ2 S2 = some o') → mWhile c b ρ S = mWhile c b ρ2 S2 := fun ρ2 S2 o h1 h2 => by
    by_cases hx : ∃ n o, mWhileN c b n ρ2 S2 = some o
    · obtain ⟨n, o, e⟩ := hx
      rw [mWhile_of e, mWhile_of (h1 n o e)]
    · have hy : ¬ ∃ n o, mWhileN c b n ρ S = some o := fun ⟨n, o, e⟩ => by
        cases n with
        | zero => cases e
        | succ n => exact hx ⟨n, o, h2 n o e⟩
      unfold mWhile
      rw [dif_neg hx, dif_neg hy]
  cases q : c ρ S with
  | stuck => exact mWhile_of (n := 1) (by unfold mWhileN; rw [q]; rfl)
  | exn e S1 => exact mWhile_of (n := 1) (by unfold mWhileN; rw [q]; rfl)
  | ok t S1 =>
    cases t with
    | false => exact mWhile_of (n := 1) (by unfold mWhileN; rw [q]; rfl)
    | true =>
      simp only [R.to_ok, if_true]
      cases q2 : b ρ S1 with
      | stuck => exact mWhile_of (n := 1) (by unfold mWhileN; rw [q]; simp only [q2])
      | go fl ρ2 S2 =>
        cases fl with
        | nx => exact up ρ2 S2 .stuck (fun n o' e => by unfold mWhileN; rw [q]; simp only [q2]; exact e) (fun n o' e => by unfold mWhileN at e; rw [q] at e; simp only [q2] at e; exact e)
        | ct => exact up ρ2 S2 .stuck (fun n o' e => by unfold mWhileN; rw [q]; simp only [q2]; exact e) (fun n o' e => by unfold mWhileN at e; rw [q] at e; simp only [q2] at e; exact e)
        | bk => exact mWhile_of (n := 1) (by unfold mWhileN; rw [q]; simp only [q2])
        | rt d => exact mWhile_of (n := 1) (by unfold mWhileN; rw [q]; simp only [q2])
        | ex e => exact mWhile_of (n := 1) (by unfold mWhileN; rw [q]; simp only [q2])
theorem ds_while {X : Cx} {W : WX} {c : Expr} {body : List Stmt} {fc : BM} {fb : SM} {pos : Pos} (hp : PassesOwn (model X.prog X.w) X.A X.env X.xe) (hc : DB X W c fc) (hb : DSs X W body fb) : DS X W (.While c body [] pos) (mWhile fc fb) := by
  refine PS.weak (ps_while hp hc hb) fun Dn σ H ⟨P, ρ, F, μ, S, en, rl, k⟩ => ?_
  have hn : mWhile fc fb ρ S ≠ .stuck := fun z => by rw [z] at k; exact k.elim
  obtain ⟨n, e⟩ := mWhile_get hn
  refine ⟨fun m σ H => ∃ ρ F μ S o, EnvR (gX X) F μ ρ σ ∧ Rel (gX X) P F μ S H ∧ mWhileN fc fb m ρ S = some o ∧ FinS (gX X) P F μ o Dn W, ⟨n, ρ, F, μ, S, _, en, rl, e, k⟩, ?_⟩
  rintro m σ1 H1 ⟨ρ1, F1, μ1, S1, o, en1, r1, e1, k1⟩
  cases m with
  | zero => cases e1
  | succ m =>
    unfold mWhileN at e1
    refine tDB.run en1 r1 ?_
    cases q : fc ρ1 S1 with
    | stuck => rw [q] at e1; cases e1; exact k1.elim
    | exn x S2 =>
      rw [q] at e1; cases e1
      exact fun F' μ' H' c d g1 g2 g3 => k1 F' μ' H' g1 g2 σ1 c d (en1.mono g1) g3
    | ok t S2 =>
      rw [q] at e1
      intro F2 μ2 H2 t' g2 r2 p2
      cases p2
      cases t with
      | false =>
        cases e1
        exact iteF ((FinS.gr g2 k1).here r2 σ1 (en1.mono g2))
      | true =>
        simp only at e1
        refine iteT ⟨fun σ' H' => ∃ ρ F μ S o, EnvR (gX X) F μ ρ σ' ∧ Rel (gX X) P F μ S H' ∧ mWhileN fc fb m ρ S = some o ∧ FinS (gX X) P F μ o Dn W, fun σ' H' z => ⟨m, Nat.lt_succ_self m, z⟩, tDS.run (en1.mono g2) r2 ?_⟩
        cases q2 : fb ρ1 S2 with
        | stuck => rw [q2] at e1; cases e1; exact k1.elim
        | go fl ρ3 S3 =>
          rw [q2] at e1
          intro F3 μ3 H3 g3 r3
          cases fl with
          | nx => exact fun σ3 en3 => ⟨ρ3, F3, μ3, S3, o, en3, r3, e1, FinS.gr (g2.trans g3) k1⟩
          | ct => exact fun σ3 en3 => ⟨ρ3, F3, μ3, S3, o, en3, r3, e1, FinS.gr (g2.trans g3) k1⟩
          | bk => cases e1; exact (FinS.gr (g2.trans g3) k1).here r3
          | rt d => cases e1; exact (FinS.gr (g2.trans g3) k1).here r3
          | ex x => cases e1; exact (FinS.gr (g2.trans g3) k1).here r3

/-! ### comprehensions -/
abbrev W0 : WX := fun _ _ _ _ => False
def wipeD (ρ : Env) : List Nat → Env
  | [] => ρ
  | v :: vs => (wipeD ρ vs).set v none
theorem EnvR.wipe {g : G} {F : Hp} {μ : List Addr} {ρ : Env} {σ : L2.St} (h : EnvR g F μ ρ σ) : ∀ vs : List Nat, EnvR g F μ (wipeD ρ vs) (L2.wipe σ vs)
  | [] => h
  | v :: vs => by
    have ih := EnvR.wipe h vs
    refine ⟨by simp [wipeD, L2.wipe, ih.len], fun i d e => ?_⟩
    unfold wipeD at e
    unfold L2.wipe
    by_cases hv : v = i
    · subst hv
      by_cases hl : v < (wipeD ρ vs).length
      · rw [List.getElem?_set_self hl] at e; cases e
      · rw [List.getElem?_eq_none (by simpa using hl)] at e; cases e
    · rw [List.getElem?_set_ne hv] at e
      obtain ⟨w, h1, h2⟩ := ih.at_ i d e
      exact ⟨w, by rw [List.getElem?_set_ne hv]; exact h1, h2⟩
/-- targets that store in the slots vs alone -/
def tDGw (g : G) (vs : List Nat) (f : GM) : TG := fun v σ H Q => ∃ d P ρ F μ S ρ' S', EnvR g F μ ρ σ ∧ Rel g P F μ S H ∧ Rep g F μ d v ∧ f d ρ S = some (ρ', S') ∧ ∀ F' μ' H' σ', Gr F μ F' μ' → Rel g P F' μ' S' H' → EnvR g F' μ' ρ' σ' → L2.wipe σ' vs = L2.wipe σ vs → Q σ' H'
def tDGsw (g : G) (vs : List Nat) (f : List D → Env → Store → Option (Env × Store)) : TGs := fun ws σ H Q => ∃ ds P ρ F μ S ρ' S', EnvR g F μ ρ σ ∧ Rel g P F μ S H ∧ Reps g F μ ds ws ∧ f ds ρ S = some (ρ', S') ∧ ∀ F' μ' H' σ', Gr F μ F' μ' → Rel g P F' μ' S' H' → EnvR g F' μ' ρ' σ' → L2.wipe σ' vs = L2.wipe σ vs → Q σ' H'
abbrev DGw (X : Cx) (vs : List Nat) (e : Expr) (f : GM) : Prop := PG X e (tDGw (gX X) vs f)
abbrev DGsw (X : Cx) (vs : List Nat) (es : List Expr) (f : List D → Env → Store → Option (Env × Store)) : Prop := PGs X es (tDGsw (gX X) vs f)
theorem wipe_set {σ : L2.St} {i : Nat} {x : Option V} : ∀ {vs : List Nat}, i ∈ vs → L2.wipe (σ.set i x) vs = L2.wipe σ vs
  | v :: vs, h => by
    unfold L2.wipe
    by_cases hv : i ∈ vs
    · rw [wipe_set hv]
    · have e : v = i := by
        rcases List.mem_cons.mp h with e | e
        · exact e.symm
        · exact absurd e hv
      subst e
      have key : ∀ ws : List Nat, v ∉ ws → L2.wipe (σ.set v x) ws = (L2.wipe σ ws).set v x := by
        intro ws
        induction ws with
        | nil => intro _; rfl
        | cons w ws ih =>
          intro hw
          unfold L2.wipe
          rw [ih fun z => hw (List.mem_cons_of_mem _ z)]
          exact List.set_comm _ _ (fun z => hw (by rw [z]; exact List.mem_cons_self))
      rw [key vs hv, List.set_set]
section
variable {X : Cx} {vs : List Nat} {pos : Pos} {gm : GM}
theorem dgw_name (i : Nat) {x : Str} (hv : i ∈ vs) (hN : X.N.Nodup) (hi : X.N[i]? = some x := by rfl) (hx : Loc X.env.scope x := by first | exact .inl rfl | exact .inr rfl) (hf : X.fn x = true ∨ X.env.scope.names.lookup x = some .local := by first | exact .inl rfl | exact .inr rfl) : DGw X vs (.Name x pos) (gN i) :=
  PG.weak (pg_name hN hi hx hf) fun v σ H Q ⟨d, P, ρ, F, μ, S, ρ', S', en, rl, p, e, k⟩ => by
    cases e
    exact k F μ H _ (Gr.refl _ _) rl (en.set p) (wipe_set hv)
theorem dgsw_nil : DGsw X vs [] gNilM := PGs.weak pgs_nil fun v σ H Q ⟨ds, P, ρ, F, μ, S, ρ', S', en, rl, p, e, k⟩ => by
  cases ds with
  | cons _ _ => cases e
  | nil =>
    cases e
    simp only [Reps] at p
    exact ⟨p, k F μ H σ (Gr.refl _ _) rl en rfl⟩
theorem dgsw_cons {e : Expr} {es : List Expr} {r : List D → Env → Store → Option (Env × Store)} (h1 : DGw X vs e gm) (h2 : DGsw X vs es r)
    (hs : (assignEach (e :: es) X.env).map (·.2) = assign e X.env :: (assignEach es X.env).map (·.2) := by rfl) : DGsw X vs (e :: es) (gConsM gm r) :=
  PGs.weak (pgs_cons h1 h2 hs) fun v σ H Q ⟨ds, P, ρ, F, μ, S, ρ', S', en, rl, p, e, k⟩ => by
    cases ds with
    | nil => cases e
    | cons d ds =>
      simp only [Reps] at p
      obtain ⟨v, ws, rfl, p1, p2⟩ := p
      unfold gConsM at e
      cases q : gm d ρ S with
      | none => simp [q] at e
      | some x =>
        simp [q] at e
        refine ⟨v, ws, rfl, d, P, ρ, F, μ, S, x.1, x.2, en, rl, p1, q, fun F' μ' H' σ' g1 r1 en1 w1 => ?_⟩
        exact ⟨ds, P, x.1, F', μ', x.2, ρ', S', en1, r1, p2.mono g1, e, fun F2 μ2 H2 σ2 g2 r2 en2 w2 => k F2 μ2 H2 σ2 (g1.trans g2) r2 en2 (w2.trans w1)⟩
theorem dgw_tup {es : List Expr} {k n : Nat} {r : List D → Env → Store → Option (Env × Store)} (hc : X.calm = true) (h : DGsw X vs es r)
    (hn : (assignEach es X.env).length = n := by rfl) (hst : (assignEach es X.env).findIdx? (·.1) = none := by rfl) : DGw X vs (.Tuple es k pos) (gTupM n r) :=
  PG.weak (pg_or (pg_tup hc h hn hst) (pg_lst hc h hn hst)) fun v σ H Q ⟨d, P, ρ, F, μ, S, ρ', S', en, rl, p, e, k⟩ => by
    have sb : Gr F μ H μ := rl.gr0
    cases d <;> first | (cases e; done) | skip
    · rename_i l
      have e : (if l.length = n then r l ρ S else none) = some (ρ', S') := e
      split at e
      · rename_i hl
        simp only [Rep] at p
        obtain ⟨a, xs, rfl, ⟨hs, _⟩, hr⟩ := p
        exact .inl ⟨a, xs, rfl, sqT_mono (g := gX X) sb hs, hr.length.symm.trans hl, l, P, ρ, F, μ, S, ρ', S', en, rl, hr, e, k⟩
      · cases e
    · rename_i l
      have e : (if l.length = n then r l ρ S else none) = some (ρ', S') := e
      split at e
      · rename_i hl
        simp only [Rep] at p
        obtain ⟨a, xs, rfl, hs, hr⟩ := p
        exact .inl ⟨a, xs, rfl, sqT_mono (g := gX X) sb hs, hr.length.symm.trans hl, l, P, ρ, F, μ, S, ρ', S', en, rl, hr, e, k⟩
      · cases e
    · rename_i l
      have e : (if l.length = n then r l ρ S else none) = some (ρ', S') := e
      split at e
      · rename_i hl
        simp only [Rep] at p
        obtain ⟨a, xs, rfl, hs, hr⟩ := p
        exact .inr ⟨a, xs, rfl, sqL_mono (g := gX X) sb hs, hr.length.symm.trans hl, l, P, ρ, F, μ, S, ρ', S', en, rl, hr, e, k⟩
      · cases e
end
/-- nothing is raised here -/
def R.nx {α : Type} : R α → R α
  | .exn _ _ => .stuck
  | r => r
@[simp] theorem R.nx_ok {α : Type} (a : α) (S : Store) : (R.ok a S).nx = .ok a S := rfl
@[simp] theorem R.nx_stuck {α : Type} : (R.stuck : R α).nx = .stuck := rfl
theorem Fin.nx {α β : Type} {rep : Hp → List Addr → α → β → Prop} {g : G} {P F : Hp} {μ : List Addr} {r : R α} {Q : β → Hp → Prop} {E E' : XK} (h : Fin rep g P F μ r.nx Q E) : Fin rep g P F μ r Q E' := by
  cases r with
  | ok a S => exact h
  | exn e S => exact h.elim
  | stuck => exact h
def mYes : BM := fun _ S => .ok true S
def mLcL (gm : GM) (tt : BM) (te : EM) (ρ : Env) : List D → M (List D)
  | [], S => .ok [] S
  | d :: ds, S => match gm d ρ S with
    | none => .stuck
    | some x => (tt x.1 x.2).nx.bind fun b S => if b then (te x.1 S).nx.bind fun y S => (mLcL gm tt te ρ ds S).bind fun ys S => .ok (y :: ys) S else mLcL gm tt te ρ ds S
/-- what the new list becomes: frozen, or a place -/
def fzL (l : List D) : M D := fun S => .ok (.lst l) S
def plL (l : List D) : M D := fun S => .ok (.ref S.length) (S ++ [.lst l])
def FinL (g : G) (fin : List D → M D) : Prop := ∀ (P F : Hp) (μ : List Addr) (S : Store) (H : Hp) (p : Addr) (acc : List V) (accD : List D) (Q : VK) (E : XK), Rel g (upd P p (.lst acc)) F μ S H → P p = none → Reps g F μ accD acc → Fin (repD g) g P F μ (fin accD S) Q E → Q (.ref p) H
theorem finL_fz {g : G} : FinL g fzL := fun P F μ S H p acc accD Q E r nP pa k => by
  obtain ⟨r4, g4⟩ := r.unhide (P' := P) (o := .lst acc) upd_same (fun a o e => by rw [upd_ne (ne_of_none e nP)]; exact e) nP
  exact (Fin.gr g4 k).here r4 (by simp only [Rep]; exact ⟨p, acc, rfl, .inl (.inl upd_same), pa.mono g4⟩)
theorem finL_pl {g : G} : FinL g plL := fun P F μ S H p acc accD Q E r nP pa k => by
  have g0 : Gr F μ F (μ ++ [p]) := ⟨fun _ _ h => h, fun n q h => by
    have : n < μ.length := (List.getElem?_eq_some_iff.mp h).1
    rw [List.getElem?_append_left this]; exact h⟩
  obtain ⟨r4, g4, e4⟩ := r.place (P' := P) (u := .lst acc) (o := .lst accD) upd_same (fun a o e => by rw [upd_ne (ne_of_none e nP)]; exact e) nP ⟨acc, rfl, pa.mono g0⟩
  exact (Fin.gr g4 k).here r4 (by simp only [Rep]; exact ⟨p, e4, rfl⟩)
def mLcF (fin : List D → M D) (vs : List Nat) (fi : IM) (gm : GM) (tt : BM) (te : EM) : EM := fun ρ S => (fi ρ S).bind fun ds S => if ds.length ≤ sizeLine then (mLcL gm tt te (wipeD ρ vs) ds S).bind fin else .stuck
abbrev mLc := mLcF fzL
abbrev mLcN := mLcF plL
/-- the core: the loop of a comprehension by its mirror -/
theorem lc_run {g : G} {W : WX} {fin : List D → M D} (hfin : FinL g fin) {gm : GM} {tt : BM} {te : EM} {fi : IM} {vs : List Nat} : ∀ σ H Q, tD g W (mLcF fin vs fi gm tt te) σ H Q → tLc (tDI g W fi) (tDGw g vs gm) (tDB g W0 tt) (tD g W0 te) vs σ H Q := fun σ H Q ⟨P, ρ, F, μ, S, en, rl, k⟩ => by
  refine ⟨P, ρ, F, μ, S, en, rl, Fin.imp (Fin.bind (rep := repI g) k) (fun J H1 ⟨ds, F1, μ1, S1, g1, r1, w, k1⟩ => ?_) fun _ _ _ z => z⟩
  split at k1
  rotate_left
  · exact k1.elim
  rename_i hlen
  intro Dl hD
  have nP : P Dl = none := by
    cases e : P Dl with
    | none => rfl
    | some u => rw [(r1.priv Dl u e).1] at hD; cases hD
  refine ⟨fun i m H => m = ds.length - i ∧ i ≤ ds.length ∧ ∃ acc accD F μ S, Rel g (upd P Dl (.lst acc)) F μ S H ∧ Gr F1 μ1 F μ ∧ Reps g F μ accD acc ∧ acc.length ≤ i ∧
    Fin (repD g) g P F μ ((mLcL gm tt te (wipeD ρ vs) (ds.drop i) S).bind fun l S => fin (accD ++ l) S) Q (fun c d H' => W c d σ H'),
    ⟨_, rfl, Nat.zero_le _, [], [], F1, μ1, S1, r1.hide hD, Gr.refl _ _, reps_nil, Nat.zero_le _, k1⟩, ?_⟩
  rintro i m H2 ⟨rfl, hi, acc, accD, F2, μ2, S2, r2, g2, pa, hl, k2⟩
  by_cases hlt : i < ds.length
  · refine .inr ⟨w.goes _ F2 μ2 S2 H2 i g2 r2 hlt, _, fun H' p' => ⟨ds.length - (i + 1), by omega, p'⟩, fun x H' y => ?_⟩
    obtain ⟨F3, g3, r3, rp⟩ := w.yields _ F2 μ2 S2 H2 i ds[i] x H' g2 r2 (by simp [hlt]) y
    rw [List.drop_eq_getElem_cons hlt] at k2
    unfold mLcL at k2
    cases q : gm ds[i] (wipeD ρ vs) S2 with
    | none => rw [q] at k2; exact k2.elim
    | some z =>
      rw [q] at k2
      simp only at k2
      have enw : EnvR g F3 μ2 (wipeD ρ vs) (L2.wipe σ vs) := ((en.mono (g1.trans g2)).mono g3).wipe vs
      refine ⟨ds[i], _, wipeD ρ vs, F3, μ2, S2, z.1, z.2, enw, r3, rp, q, fun F4 μ4 H4 σ4 g4 r4 en4 w4 => ?_⟩
      refine ⟨?_, ?_⟩
      · rw [w4]
        have key : ∀ (σ : L2.St) (ws us : List Nat), (∀ u ∈ us, u ∈ ws) → L2.wipe (L2.wipe σ us) ws = L2.wipe σ ws := by
          intro σ ws us
          induction us with
          | nil => intro _; rfl
          | cons u us ih =>
            intro h
            show L2.wipe ((L2.wipe σ us).set u none) ws = _
            rw [wipe_set (h u List.mem_cons_self)]
            exact ih fun v hv => h v (List.mem_cons_of_mem _ hv)
        exact key σ vs vs fun _ h => h
      · cases qt : tt z.1 z.2 with
        | stuck => rw [qt] at k2; exact k2.elim
        | exn e S5 => rw [qt] at k2; exact k2.elim
        | ok b S5 =>
          rw [qt] at k2
          refine tDB.run en4 r4 ?_
          rw [qt]
          intro F5 μ5 H5 b' g5 r5 eb
          cases eb
          simp only [R.nx_ok, R.bind_ok] at k2
          have g25 := (g3.trans g4).trans g5
          cases b with
          | false =>
            refine iteF ⟨rfl, hlt, acc, accD, F5, μ5, S5, r5, g2.trans g25, pa.mono g25, Nat.le_succ_of_le hl, Fin.gr g25 ?_⟩
            simpa using k2
          | true =>
            simp only [if_true] at k2
            refine iteT ?_
            cases qe : te z.1 S5 with
            | stuck => rw [qe] at k2; exact k2.elim
            | exn e S6 => rw [qe] at k2; exact k2.elim
            | ok yv S6 =>
              rw [qe] at k2
              simp only [R.nx_ok, R.bind_ok] at k2
              refine tD.run (en4.mono g5) r5 ?_
              rw [qe]
              intro F6 μ6 H6 vy g6 r6 py
              have g26 := g25.trans g6
              refine ⟨acc, (r6.priv Dl _ upd_same).1, by have := Nat.lt_of_le_of_lt hl hlt; omega, rfl, hlt, acc ++ [vy], accD ++ [yv], F6, μ6, S6, ?_, g2.trans g26, (pa.mono g26).append (reps_cons py reps_nil), by rw [List.length_append, List.length_singleton]; omega, Fin.gr g26 ?_⟩
              · have := r6.hidden (o' := .lst (acc ++ [vy])) (upd_same (H := P) (a := Dl) (o := .lst acc))
                rw [upd_upd] at this
                exact this
              · have e : ((mLcL gm tt te (wipeD ρ vs) (ds.drop (i + 1)) S6).bind fun ys S => (R.ok (yv :: ys) S)).bind (fun l S => fin (accD ++ l) S) = (mLcL gm tt te (wipeD ρ vs) (ds.drop (i + 1)) S6).bind fun l S => fin ((accD ++ [yv]) ++ l) S := by
                  cases mLcL gm tt te (wipeD ρ vs) (ds.drop (i + 1)) S6 <;> simp
                rw [← e]
                exact k2
  · have e : i = ds.length := by omega
    subst e
    rw [List.drop_length] at k2
    simp only [mLcL, R.bind_ok, List.append_nil] at k2
    exact .inl ⟨w.stops _ F2 μ2 S2 H2 g2 r2, hfin P F2 μ2 S2 H2 Dl acc accD Q _ r2 nP pa k2⟩
section
variable {X : Cx} {W : WX} {elt tg iter : Expr} {ifs : List Expr} {scope : Scope} {own : List (Str × Nat)} {pos : Pos} {fi : IM} {gm : GM} {tt : BM} {te : EM}
abbrev DT (X : Cx) (W : WX) (es : List Expr) (f : BM) : Prop := PTs X es (tDB (gX X) W f)
theorem dt_nil {X : Cx} {W : WX} : DT X W [] mYes := by
  refine ⟨fun pins s σ H Q I h => ?_⟩
  obtain ⟨P, ρ, F, μ, S, en, rl, k⟩ := h
  exact pts_nil.run pins s σ H Q I (k.here rl rfl)
theorem dt_one {X : Cx} {W : WX} {e : Expr} {f : BM} (h : DB X W e f) : DT X W [e] f := pts_one h
theorem d_lc {fin : List D → M D} (hfin : FinL (gX X) fin) (hc : X.calm = true) (hN : X.N.Nodup) (hi : DI X W tg iter fi) (ok : BlkOk X.N X.env.scope scope own)
    (hg : ∀ (s : Shared) (H : Hp) (C : Addr) (cl : List (Str × Addr)) (fp : List Addr), DGw (X.blk s H scope (compEnvC scope cl C X.env) fp) (own.map (·.2)) tg gm) (ht : ∀ (s : Shared) (H : Hp) (C : Addr) (cl : List (Str × Addr)) (fp : List Addr), DT (X.blk s H scope (compEnvC scope cl C X.env) fp) W0 ifs tt)
    (he : ∀ (s : Shared) (H : Hp) (C : Addr) (cl : List (Str × Addr)) (fp : List Addr), DE (X.blk s H scope (compEnvC scope cl C X.env) fp) W0 elt te) (hs : ∀ x, foldedSetIterable iter X.env x = pure x := by intro _; rfl) :
    DE X W (.ListComp elt [⟨tg, iter, ifs, 0⟩] scope pos) (mLcF fin (own.map (·.2)) fi gm tt te) := PE.weak (pe_lc hc hN hi ok hg ht he hs) (lc_run hfin)
theorem ds_setLc {fin : List D → M D} (hfin : FinL (gX X) fin) (i : Nat) {y : Str} {py spos : Pos} (hc : X.calm = true) (hN : X.N.Nodup) (hi : DI X W tg iter fi) (ok : BlkOk X.N X.env.scope scope own)
    (hg : ∀ (s : Shared) (H : Hp) (C : Addr) (cl : List (Str × Addr)) (fp : List Addr), DGw (X.blk s H scope (compEnvC scope cl C X.env) fp) (own.map (·.2)) tg gm) (ht : ∀ (s : Shared) (H : Hp) (C : Addr) (cl : List (Str × Addr)) (fp : List Addr), DT (X.blk s H scope (compEnvC scope cl C X.env) fp) W0 ifs tt)
    (he : ∀ (s : Shared) (H : Hp) (C : Addr) (cl : List (Str × Addr)) (fp : List Addr), DE (X.blk s H scope (compEnvC scope cl C X.env) fp) W0 elt te)
    (hsw : swapsWith (.ListComp elt [⟨tg, iter, ifs, 0⟩] scope pos) (some (.Name y py)) spos.line X.env = pure true) (hy : X.N[i]? = some y := by rfl) (hyl : X.env.scope.names.lookup y = some .local := by rfl) (hs : ∀ x, foldedSetIterable iter X.env x = pure x := by intro _; rfl) :
    DS X W (.Assign [.Name y py] (.ListComp elt [⟨tg, iter, ifs, 0⟩] scope pos) spos) (mAsg (mLcF fin (own.map (·.2)) fi gm tt te) (gN i)) := by
  refine PS.weak (ps_setLc (g := tDGw (gX X) (own.map (·.2)) gm) (tt := tDB (gX X) W0 tt) (te := tD (gX X) W0 te) hc hN hy hyl hsw hi ok hg ht he hs) fun Dn σ H ⟨P, ρ, F, μ, S, en, rl, k⟩ => ?_
  refine lc_run hfin σ H _ (tD.run en rl (Fin.imp (FinS.to (rep := repD (gX X)) en k) (fun v H1 ⟨a, F1, μ1, S1, g1, r1, p1, k1⟩ => ?_) fun _ _ _ z => z))
  exact k1 F1 μ1 H1 (Gr.refl _ _) r1 _ ((en.mono g1).set p1)
end
end DL

/-! The data layer, 7: stores into lists, methods of lists, the end of a law. -/
namespace DL
open PySem PySem.Spec PyProof.Rows L2

/-! ### x[i] = e -/
def setIx (o i d : D) (S : Store) : Option Store := match o, i with
  | .ref n, .int k => match S[n]? with
    | some (.lst l) => match ixN l.length k with
      | some j => some (S.set n (.lst (l.set j d)))
      | none => none
    | _ => none
  | _, _ => none
def gSubM (fo fi : EM) : GM := fun d ρ S => match (fo ρ S).nx with
  | .ok o S1 => match (fi ρ S1).nx with
    | .ok i S2 => (setIx o i d S2).map fun S3 => (ρ, S3)
    | _ => none
  | _ => none
section
variable {X : Cx} {W : WX} {pos : Pos} {o i : Expr} {fo fi : EM}
theorem dg_sub (ho : DE X W o fo) (hi : DE X W i fi) (ha : ∀ v, assign (.Subscript o i pos) X.env v = (do
      let ov ← holding [v] (eval o X.env)
      let iv ← holding [v, ov] (eval i X.env)
      standAt pos
      holding [v, ov, iv] (setItem ov iv v)
      release [v, ov, iv] []) := by intro _; rfl) : DG X (.Subscript o i pos) (gSubM fo fi) :=
  PG.weak (pg_sub ho hi set_list ha) fun v σ H Q ⟨d, P, ρ, F, μ, S, ρ', S', en, rl, p, e, k⟩ => by
    unfold gSubM at e
    cases q : fo ρ S with
    | stuck => rw [q] at e; cases e
    | exn x S1 => rw [q] at e; cases e
    | ok x S1 =>
      rw [q] at e
      simp only [R.nx_ok] at e
      refine tD.run en rl ?_
      rw [q]
      intro F1 μ1 H1 vx g1 r1 p1
      cases q2 : fi ρ S1 with
      | stuck => rw [q2] at e; cases e
      | exn x S1 => rw [q2] at e; cases e
      | ok y S2 =>
        rw [q2] at e
        simp only [R.nx_ok] at e
        refine tD.run (en.mono g1) r1 ?_
        rw [q2]
        intro F2 μ2 H2 vy g2 r2 p2
        have px := p1.mono g2
        unfold setIx at e
        cases x with
        | ref n =>
          cases y with
          | int z =>
            simp only at e
            cases qs : S2[n]? with
            | none => rw [qs] at e; cases e
            | some ob =>
              rw [qs] at e
              cases ob with
              | lst l =>
                simp only at e
                cases qi : ixN l.length z with
                | none => rw [qi] at e; cases e
                | some j =>
                  rw [qi] at e
                  simp only [Option.map_some, Option.some.injEq, Prod.mk.injEq] at e
                  obtain ⟨rfl, rfl⟩ := e
                  obtain ⟨a, xs, rfl, hm, hH, hr⟩ := px.refL r2 qs
                  refine ⟨a, xs, z, j, rfl, p2.int, hH, by rw [← hr.length]; exact qi, ?_⟩
                  have gg := g1.trans g2
                  exact k F2 μ2 _ σ gg (r2.write qs (by intro z; cases z) hm ⟨_, rfl, hr.set j (p.mono gg)⟩) (en.mono gg)
              | _ => cases e
          | _ => cases e
        | _ => cases e
end

/-! ### methods of built-in types -/
/-- a method by values: the receiver's type, the mirror -/
def MetD (X : Cx) (T id : String) (ok : D → Store → Bool) (m : D → List D → M D) : Prop :=
  (∀ (P F : Hp) (μ : List Addr) (S : Store) (H : Hp) (d : D) (v : V), Rel (gX X) P F μ S H → Rep (gX X) F μ d v → ok d S = true → tyV X.K T v H) ∧
  MtR X id (fun v vs H Q => ∃ d ds P F μ S E, Rel (gX X) P F μ S H ∧ Rep (gX X) F μ d v ∧ Reps (gX X) F μ ds vs ∧ Fin (repD (gX X)) (gX X) P F μ (m d ds S) Q E)
def mMet (ok : D → Store → Bool) (m : D → List D → M D) (fo : EM) (fa : AM) : EM := fun ρ S => (fo ρ S).bind fun o S => if ok o S then (fa ρ S).bind fun ds S => m o ds S else .stuck
section
variable {X : Cx} {W : WX} {o e : Expr} {es : List Expr} {fo : EM} {fa : AM} {name : Str} {apos cpos : Pos} {T id : String} {ok : D → Store → Bool} {m : D → List D → M D}
theorem d_met (hm : MetD X T id ok m) (pa : PlainAttrs T) (slot : Slot T name id) (hty : typeOf (.builtin id) = pure (.type "method_descriptor")) (ho : DE X W o fo) (ha : DA X W (e :: es) fa)
    (hbase : attributeBase o name X.env (eval o X.env) = eval o X.env := by rfl)
    (hfew : ((backTo cpos (starEach (e :: es) X.env)).all (fun x => !x.1) && (backToKw cpos (keywordEach [] X.env)).all (fun x => x.1.isSome)
      && decide ((e :: es).length + ([] : List Keyword).length + (if ([] : List Keyword).isEmpty then 0 else 1) < 30)) = true := by rfl)
    (hline : (apos.endLine == cpos.line) = true := by rfl) (hs : starEach (e :: es) X.env = (false, eval e X.env) :: starEach es X.env := by rfl) (hplain : (backTo cpos (starEach es X.env)).any (·.1) = false := by rfl) :
    DE X W (.Call (.Attribute o name apos) (e :: es) [] cpos) (mMet ok m fo fa) := by
  refine PE.weak (pe_bm pa slot hty hm.2 ho ha hbase hfew hline hs hplain) fun σ H Q ⟨P, ρ, F, μ, S, en, rl, k⟩ => ?_
  refine tD.run en rl (Fin.imp (Fin.bind (rep := repD (gX X)) k) (fun v H1 ⟨x, F1, μ1, S1, g1, r1, p1, k1⟩ => ?_) fun _ _ _ z => z)
  split at k1
  · rename_i hk
    refine ⟨hm.1 P F1 μ1 S1 H1 x v r1 p1 hk, ?_⟩
    refine tDA.run (en.mono g1) r1 (Fin.imp (Fin.bind (rep := repA (gX X)) k1) (fun vs H2 ⟨ds, F2, μ2, S2, g2, r2, p2, k2⟩ => ?_) fun _ _ _ z => z)
    exact ⟨x, ds, P, F2, μ2, S2, _, r2, p1.mono g2, p2, k2⟩
  · exact k1.elim
theorem d_met0 (hm : MetD X T id ok m) (pa : PlainAttrs T) (slot : Slot T name id) (hty : typeOf (.builtin id) = pure (.type "method_descriptor")) (ho : DE X W o fo)
    (hbase : attributeBase o name X.env (eval o X.env) = eval o X.env := by rfl) (hline : (apos.endLine == cpos.line) = true := by rfl) : DE X W (.Call (.Attribute o name apos) [] [] cpos) (mMet ok m fo mNil) := by
  refine PE.weak (pe_bm0 pa slot hty hm.2 ho hbase hline) fun σ H Q ⟨P, ρ, F, μ, S, en, rl, k⟩ => ?_
  refine tD.run en rl (Fin.imp (Fin.bind (rep := repD (gX X)) k) (fun v H1 ⟨x, F1, μ1, S1, g1, r1, p1, k1⟩ => ?_) fun _ _ _ z => z)
  split at k1
  · rename_i hk
    exact ⟨hm.1 P F1 μ1 S1 H1 x v r1 p1 hk, x, [], P, F1, μ1, S1, _, r1, p1, reps_nil, k1⟩
  · exact k1.elim
end
def isL (d : D) (S : Store) : Bool := (lstOf d S).isSome
theorem isL_ty {g : G} {P F : Hp} {μ : List Addr} {S : Store} {H : Hp} {d : D} {v : V} (r : Rel g P F μ S H) (p : Rep g F μ d v) (e : isL d S = true) : tyV g.K "list" v H := by
  unfold isL at e
  obtain ⟨l, q⟩ := Option.isSome_iff_exists.mp e
  obtain ⟨a, xs, rfl, hs, _⟩ := lstOf_rep r q p
  exact .inl ⟨rfl, xs, hs⟩
/-- x.append(d), x at a place -/
def appendD (o : D) (ds : List D) : M D := fun S => match o, ds with
  | .ref n, [d] => match S[n]? with
    | some (.lst l) => if l.length < sizeLine then .ok .non (S.set n (.lst (l ++ [d]))) else .stuck
    | _ => .stuck
  | _, _ => .stuck
/-- x.extend(y) -/
def extendD (o : D) (ds : List D) : M D := fun S => match o, ds with
  | .ref n, [d] => match S[n]?, d with
    | some (.lst l), .lst k => if l.length + k.length ≤ sizeLine then .ok .non (S.set n (.lst (l ++ k))) else .stuck
    | _, _ => .stuck
  | _, _ => .stuck
/-- x.pop() -/
def popD (o : D) (ds : List D) : M D := fun S => match o, ds with
  | .ref n, [] => match S[n]? with
    | some (.lst l) => match l[l.length - 1]? with
      | some d => .ok d (S.set n (.lst l.dropLast))
      | none => .stuck
    | _ => .stuck
  | .ref n, [.int i] => match S[n]? with
    | some (.lst l) => match seqIndex? i l.length with
      | some j => match l[j]? with
        | some d => if -(2 ^ 63) ≤ i ∧ i < 2 ^ 63 then .ok d (S.set n (.lst (l.eraseIdx j))) else .stuck
        | none => .stuck
      | none => .stuck
    | _ => .stuck
  | _, _ => .stuck
theorem Reps.dropLast {g : G} {F : Hp} {μ : List Addr} {ds : List D} {vs : List V} (h : Reps g F μ ds vs) : Reps g F μ ds.dropLast vs.dropLast := by
  rw [List.dropLast_eq_take, List.dropLast_eq_take, h.length]
  exact h.take _
theorem Reps.eraseIdx {g : G} {F : Hp} {μ : List Addr} {ds : List D} {vs : List V} (h : Reps g F μ ds vs) (i : Nat) : Reps g F μ (ds.eraseIdx i) (vs.eraseIdx i) := by
  rw [List.eraseIdx_eq_take_drop_succ, List.eraseIdx_eq_take_drop_succ]
  exact (h.take _).append (h.drop _)
section
variable {X : Cx}
theorem md_append : MetD X "list" "list.append" isL appendD := by
  refine ⟨fun P F μ S H d v r p e => isL_ty r p e, ?_⟩
  intro pins s σ H x xs v us Q I rx rxs h
  obtain ⟨d, ds, P, F, μ, S, E, rl, p, ps, k⟩ := h
  unfold appendD at k
  split at k
  · rename_i n d
    split at k
    · rename_i l q
      split at k
      · rename_i hl
        obtain ⟨a, ys, rfl, hm, hH, hr⟩ := p.refL rl q
        simp only [Reps] at ps
        obtain ⟨w, _, rfl, pw, rfl⟩ := ps
        refine mt_append pins s σ H _ _ v us Q I rx rxs ⟨a, ys, w, rfl, rfl, hH, by rw [← hr.length]; exact hl, ?_⟩
        exact k.here (rl.write q (by intro z; cases z) hm ⟨_, rfl, hr.append (reps_cons pw reps_nil)⟩) rep_non
      · exact k.elim
    · exact k.elim
  · exact k.elim
theorem mt_extendQ : MtM X "list.extend" (fun x vs H Q => ∃ l b xs zs, x = .ref l ∧ vs = [.ref b] ∧ H l = some (.lst xs) ∧ H b = some (.lst zs) ∧ xs.length + zs.length ≤ sizeLine ∧ Q .non (upd H l (.lst (xs ++ zs)))) := mt_extend
theorem md_pop : MetD X "list" "list.pop" isL popD := by
  refine ⟨fun P F μ S H d v r p e => isL_ty r p e, ?_⟩
  intro pins s σ H x xs v us Q I rx rxs h
  obtain ⟨d, ds, P, F, μ, S, E, rl, p, ps, k⟩ := h
  unfold popD at k
  split at k
  · rename_i n
    split at k
    · rename_i l q
      split at k
      · rename_i d e
        obtain ⟨a, ys, rfl, hm, hH, hr⟩ := p.refL rl q
        simp only [Reps] at ps
        subst ps
        obtain ⟨y, h1, h2⟩ := hr.get e
        refine mt_pop pins s σ H _ _ v us Q I rx rxs ⟨a, ys, y, rfl, rfl, hH, by rw [← hr.length]; exact h1, ?_⟩
        exact k.here (rl.write q (by intro z; cases z) hm ⟨_, rfl, hr.dropLast⟩) h2
      · exact k.elim
    · exact k.elim
  · rename_i n i
    split at k
    · rename_i l q
      split at k
      · rename_i j ej
        split at k
        · rename_i d e
          split at k
          · rename_i hb
            obtain ⟨a, ys, rfl, hm, hH, hr⟩ := p.refL rl q
            simp only [Reps] at ps
            obtain ⟨w, _, rfl, pw, rfl⟩ := ps
            obtain ⟨y, h1, h2⟩ := hr.get e
            refine mt_popAt pins s σ H _ _ v us Q I rx rxs ⟨a, ys, i, j, y, rfl, by rw [pw.int], hH, hb.1, hb.2, by rw [← hr.length]; exact ej, h1, ?_⟩
            exact k.here (rl.write q (by intro z; cases z) hm ⟨_, rfl, hr.eraseIdx j⟩) h2
          · exact k.elim
        · exact k.elim
      · exact k.elim
    · exact k.elim
  · exact k.elim
end

/-! ### raise X('..') of an own class without __init__ -/
structure ExcF (K : PySem.W.Frag) (mg : Str → Option Value) (c : Str) : Prop where
  ex : ∃ C : Addr, mg c = some (.ref C) ∧ PySem.W.excIn K C [.type "ValueError", .type "Exception", .type "BaseException", .type "object"] "ValueError.__new__" = true ∧ PySem.W.keepIn K (.ref C) = true ∧
    PySem.W.subIn K (.ref C) (.type "BaseException") = some true ∧ PySem.W.typeIn K (.ref C) = some (.type "type")
def mRaise (c : Str) : SM := fun ρ S => .go (.ex (.exc c [] [])) ρ S
theorem ds_raise {X : Cx} {W : WX} {c m : Str} {j : Nat} {p p2 p3 pos : Pos} (hc : X.calm = true) (tk : Takes X W) (F : ExcF X.K X.mg c) (hg : Gl X c := by rfl) (hdb : (c == ("__debug__" : Str)) = false := by decide) :
    DS X W (.Raise (some (.Call (.Name c p) [.Constant (.str m) j p2] [] p3)) none pos) (mRaise c) := by
  obtain ⟨C, gC, q, kC, h1, h2⟩ := F.ex
  refine PS.weak (ps_raise hc tk (pmk_own PySem.F.excBase_ValueError q gC kC (raises_own h1 h2) hg hdb)) fun Dn σ H ⟨P, ρ, F, μ, S, en, rl, k⟩ => ?_
  exact k.here rl σ _ _ en ⟨c, [], [], C, [], rfl, gC, rfl, .inl ⟨rfl, rfl, rfl⟩, reps_nil, rfl⟩

/-! ### putting together -/
theorem cal_mk {P : Program} {w : World} {K : PySem.W.Frag} {mg : Str → Option Value} {base : Heap} {k n : Nat} {x qual : Str} {st : Stmt} {f : Addr} {fd : FuncData} {ps : List Str} {m : List D → M D} (hm : mg x = some (.ref f)) (F : Fun K x qual st f fd)
    (hb : ∀ (kV doc pm : Value) (an : Option Addr) (cdv ct : Value) (us : List Value), us.length = ps.length → bindArgs (PySem.W.fnOf x qual (defArgs st) (defBody st) (defScope st) .none kV doc pm an cdv ct) ⟨us, []⟩ = pure (ps.zip us))
    (hf : FnD P w K mg base k f fd ps m) (hn : ps.length = n := by rfl) : Cal P w K mg base k x n m := ⟨f, fd, ps, hm, F.kp, F.binds hb, hf, hn⟩
/-- a def as the top has left it -/
def DefK (K : PySem.W.Frag) (x : Str) (st : Stmt) : Prop := ∃ (f : Addr) (oc : Value) (od : Option Addr) (kV doc pm : Value) (an : Option Addr) (cdv ct : Value) (osl : Array (Option Value)),
  PySem.W.nsIn K mainGlobals x = some (some (.ref f)) ∧ K.lookup f = some ⟨oc, od, .func (PySem.W.fnOf x x (defArgs st) (defBody st) (defScope st) .none kV doc pm an cdv ct), osl⟩ ∧ PySem.W.codeIn K cdv x = true ∧ PySem.W.keepIn K (.ref f) = true ∧ (defArgs st).defaults = []
theorem defK {K : PySem.W.Frag} {x : Str} {st : Stmt} {f : Addr} {oc : Value} {od an : Option Addr} {kV doc pm cdv ct : Value} {osl : Array (Option Value)} (a : PySem.W.nsIn K mainGlobals x = some (some (.ref f)))
    (l : K.lookup f = some ⟨oc, od, .func (PySem.W.fnOf x x (defArgs st) (defBody st) (defScope st) .none kV doc pm an cdv ct), osl⟩) (c : PySem.W.codeIn K cdv x = true) (k : PySem.W.keepIn K (.ref f) = true) (d : (defArgs st).defaults = []) : DefK K x st := ⟨f, oc, od, kV, doc, pm, an, cdv, ct, osl, a, l, c, k, d⟩
theorem DefK.get {K : PySem.W.Frag} {h : Heap} {mg : Str → Option Value} {x : Str} {st : Stmt} (d : DefK K x st) (X : K.In h) (G : h.Ns mainGlobals mg) : ∃ f fd, mg x = some (.ref f) ∧ Fun K x x st f fd ∧
    ∃ (kV doc pm : Value) (an : Option Addr) (cdv ct : Value), fd = PySem.W.fnOf x x (defArgs st) (defBody st) (defScope st) .none kV doc pm an cdv ct := by
  obtain ⟨f, oc, od, kV, doc, pm, an, cdv, ct, osl, a, l, c, k, _⟩ := d
  exact ⟨f, _, PySem.W.mg_of X G a, fun_mk l c k, kV, doc, pm, an, cdv, ct, rfl⟩
def ExcK (K : PySem.W.Frag) (c : Str) : Prop := ∃ C : Addr, PySem.W.nsIn K mainGlobals c = some (some (.ref C)) ∧ PySem.W.excIn K C [.type "ValueError", .type "Exception", .type "BaseException", .type "object"] "ValueError.__new__" = true ∧ PySem.W.keepIn K (.ref C) = true ∧
    PySem.W.subIn K (.ref C) (.type "BaseException") = some true ∧ PySem.W.typeIn K (.ref C) = some (.type "type")
theorem excK {K : PySem.W.Frag} {c : Str} {C : Addr} (a : PySem.W.nsIn K mainGlobals c = some (some (.ref C))) (b : PySem.W.excIn K C [.type "ValueError", .type "Exception", .type "BaseException", .type "object"] "ValueError.__new__" = true) (k : PySem.W.keepIn K (.ref C) = true)
    (s : PySem.W.subIn K (.ref C) (.type "BaseException") = some true) (t : PySem.W.typeIn K (.ref C) = some (.type "type")) : ExcK K c := ⟨C, a, b, k, s, t⟩
theorem ExcK.exc {K : PySem.W.Frag} {h : Heap} {mg : Str → Option Value} {c : Str} (d : ExcK K c) (X : K.In h) (G : h.Ns mainGlobals mg) : ExcF K mg c := by
  obtain ⟨C, a, r⟩ := d
  exact ⟨C, PySem.W.mg_of X G a, r⟩
/-! ### the law -/
/-- what the law's mirror must say of every script -/
def LawD (m : List D → M D) : Prop := ∀ ns : List Int, ns.length ≤ 63 → (∀ z ∈ ns, Builtin.Int.intBits z ≤ 1048576) → ∃ S, m [.lst (ns.map D.int)] [] = .ok (.bl true) S
theorem law_callD {P : Program} {w : World} {K : PySem.W.Frag} {mg mb : Str → Option Value} {k : Nat} {fa a : Addr} {fd : FuncData} {x : Str} {m : List D → M D} {s₁ : Shared} {vs : List Value} {ns : List Int}
    (KX : K.In s₁.heap) (hns : s₁.heap.Ns mainGlobals mg) (hb : s₁.heap.Ns builtinsNs mb) (hbb : ∀ x : Str, x ≠ "__name__" → mb x = bootBuiltins x) (hlim : s₁.heap.NoLimit) (hnd : s₁.heap.NoDigits) (hg : s₁.gens = #[])
    (ha : s₁.heap.get? a = some { cls := .type "list", data := .seq vs.toArray }) (hi : IntsAre vs ns) (hl : ns.length ≤ sizeLine) (hr : Room k callerA)
    (Fn : ∀ base : Heap, K.In base → base.Ns mainGlobals mg → base.NoDigits → FnD P w K mg base k fa fd [x] m) (hbind : ∀ (s : Shared) (u : Value), BindsTo s fd ⟨[u], []⟩ [(x, u)])
    (hlaw : ∃ S, m [.lst (ns.map D.int)] [] = .ok (.bl true) S) :
    codeAny (model P w) callerA (.call (.ref fa) ⟨[.ref a], []⟩) (fun r s' => r = .ok (.ret (.bool true)) ∧ OldK s₁.heap s'.heap ∧ s'.os = s₁.os ∧ AllBare s'.gens) s₁ := by
  have rv := vals_ints hi
  have lenV := hi.length
  have core : ∀ H : Hp, Only H → SqL K H a (ns.map V.int) → HOk P w H s₁.heap → (∀ b, H b ≠ none → b = a) → (H a ≠ none → K.lookup a = none) →
      codeAny (model P w) callerA (.call (.ref fa) ⟨[.ref a], []⟩) (fun r s' => r = .ok (.ret (.bool true)) ∧ OldK s₁.heap s'.heap ∧ s'.os = s₁.os ∧ AllBare s'.gens) s₁ := by
    intro H hO hS hok hA hK
    have base_of : ∀ {b : Addr} {o : Obj}, s₁.heap.get? b = some o → H b = none → (hidT s₁.heap H).get? b = some o := fun e n => hidT_get e n
    have noA : ∀ {b : Addr} {o : Obj} {es : Array DictEntry} {ep : Nat}, s₁.heap.get? b = some o → o.data = .dict es ep → H b = none := fun {b o es ep} e d => by
      cases q : H b with
      | none => rfl
      | some u =>
        have e' : b = a := hA b (by rw [q]; simp)
        subst e'
        rw [ha] at e; cases e
        have d' : Data.seq vs.toArray _ = Data.dict es ep := d
        cases d'
    have nsK : ∀ {b : Addr} {m : Str → Option Value}, s₁.heap.Ns b m → (hidT s₁.heap H).Ns b m := fun {b m} ⟨o, es, ep, e, d, r⟩ => ⟨o, es, ep, base_of e (noA e d), d, r⟩
    have hKb : K.In (hidT s₁.heap H) := fun b o e => base_of (KX b o e) (by
      cases q : H b with
      | none => rfl
      | some u =>
        have e' : b = a := hA b (by rw [q]; simp)
        subst e'
        rw [hK (by rw [q]; simp)] at e; cases e)
    have hM : Mod K mg (hidT s₁.heap H) := ⟨hKb, nsK hns, ⟨mb, nsK hb, hbb⟩, let ⟨mc, h1, h2⟩ := hlim; ⟨mc, nsK h1, h2⟩⟩
    have e0 : Env0 P w K mg (hidT s₁.heap H) callerA [] s₁ H := ⟨rfl, hM, fun b o e => of_hidT e, Nat.le_of_eq (hidT_size _ _), trivial, fun b hb => absurd (show b ∈ ([] : List Addr) from hb) (by simp), hok, .of_eq hg⟩
    have sp : spD ⟨K, mg⟩ ([x] : List Str).length m [.ref a] H (fun v _ => v = .bl true) (fun _ _ _ => False) := by
      obtain ⟨S, e⟩ := hlaw
      refine ⟨rfl, [.lst (ns.map D.int)], fun _ => none, H, [], [], ⟨fun _ _ z => z, rfl, fun n o p z _ => by simp at z, fun m n p z _ => by simp at z, fun _ _ z => by cases z⟩, ?_, ?_⟩
      · refine reps_cons ?_ reps_nil
        simp only [Rep]
        exact ⟨a, _, rfl, hS, reps_ints ns⟩
      · rw [e]
        intro F' μ' H' v _ _ p
        exact p.bl
    refine codeAny_mono ((Fn _ hKb (nsK hns) (let ⟨mc, h1, h2⟩ := hnd; ⟨mc, nsK h1, h2⟩)).run callerA [] s₁ H ⟨[.ref a], []⟩ [.ref a] [.ref a] _ _ hr rfl e0 (hbind s₁ (.ref a)) (.cons rfl .nil) sp) fun r s' h => ?_
    cases r with
    | error e =>
      obtain ⟨_, _, _, _, _, _, _, _, _, _, _, _, z⟩ := h
      exact z.elim
    | ok fl =>
      cases fl with
      | next => exact False.elim h
      | brk => exact False.elim h
      | cont => exact False.elim h
      | ret u =>
        obtain ⟨v, H', os, bare, un, hok', r', q⟩ := h
        have q' : v = .bl true := q
        subst q'
        obtain rfl : u = Value.bool true := r'
        refine ⟨rfl, OldK.of_keep fun b o e => ?_, os, bare⟩
        cases q : H b with
        | none => exact un.keep b o e q (by intro z; exact absurd (show b ∈ ([] : List Addr) from z) (by simp)) (by simp)
        | some u =>
          rcases hO b with z | ⟨ob, xs, z⟩
          · rw [q] at z; cases z
          · have z2 := un.frzs b ob _ z
            obtain ⟨e1, _⟩ := hok b _ z
            obtain ⟨e2, _⟩ := hok' b _ z2
            rw [e] at e1; cases e1
            exact e2
  cases hk : K.lookup a with
  | some o =>
    have e := KX a o hk
    rw [ha] at e
    cases e
    refine core (fun _ => none) (fun _ => .inl rfl) (.inr ⟨_, vs.toArray, _, hk, rfl, rfl, rfl, by rw [List.size_toArray, lenV]; exact hl, by simpa using rv⟩) (fun b u z => by have z' : (none : Option HO) = some u := z; cases z') (fun b z => absurd rfl z) fun z => absurd rfl z
  | none =>
    refine core (fun b => if b = a then some (.frz { cls := .type "list", data := .seq vs.toArray } (.lst (ns.map V.int))) else none) (fun b => ?_) (.inl (.inr ⟨{ cls := .type "list", data := .seq vs.toArray }, if_pos rfl⟩)) (fun b u z => ?_) (fun b z => ?_) fun _ => hk
    · by_cases hb : b = a
      · exact .inr ⟨_, _, if_pos hb⟩
      · exact .inl (if_neg hb)
    · by_cases hb : b = a
      · have z' := (if_pos hb).symm.trans z
        cases z'
        subst hb
        exact ⟨ha, by rw [List.length_map]; exact hl, vs, _, rv, ha⟩
      · have z' := (if_neg hb).symm.trans z
        cases z'
    · by_cases hb : b = a
      · exact hb
      · exact absurd (if_neg hb) z
/-- the goal that k_head leaves -/
theorem walk_D {l : PySem.W.OpenLaw} {k : Nat} {q : Program} {loose : List Str} {XP : (Str → Option Value) → Heap → Prop} {YP : World → Heap → Prop} {d : DefRec} {K : Params → PySem.W.Frag} {x : Str} {m : List D → M D}
    (hn : l.most = some 63) (hdf : d.params.defaults = []) (hr : Room k callerA)
    (hY : ∀ (w : World) (h : Heap), YP w h → (K w.params).In h)
    (Fn : ∀ (w : World) (mg : Str → Option Value) (fa : Addr) (h : Heap), (K w.params).In h → h.Ns mainGlobals mg → mg d.name = some (.ref fa) →
      ∃ fd : FuncData, (∀ (s : Shared) (u : Value), BindsTo s fd ⟨[u], []⟩ [(x, u)]) ∧
        ∀ base : Heap, (K w.params).In base → base.Ns mainGlobals mg → base.NoDigits → FnD l.prog w (K w.params) mg base k fa fd [x] m)
    (hlaw : LawD m) : PySem.W.WalkO q loose XP YP l.row.toRowW d [] (fun f vs => PySem.call f vs) := by
  refine Att.attach_callB hn hdf fun w s₀ s₁ mg mb fa o pm cd doc a vs ns G Y ho hd hcd hmg hobj hints hlen hbits hg => ?_
  have KX := hY w _ Y
  obtain ⟨fd, hb, hF⟩ := Fn w mg fa _ KX G.T.g hmg
  exact law_callD KX G.T.g G.T.b G.T.builtins G.T.nolimit G.T.nodigits hg hobj hints (Nat.le_trans hlen (by decide)) hr hF hb (hlaw ns hlen hbits)
end DL

/-! The data layer, 8: methods of sequences, augmented assignments. -/
namespace DL
open PySem PySem.Spec PyProof.Rows L2

/-- a method by the receiver's data: its type may be one of several -/
def MetA (X : Cx) (name : Str) (ok : D → Store → Bool) (m : D → List D → M D) : Prop :=
  ∀ (P F : Hp) (μ : List Addr) (S : Store) (H : Hp) (d : D) (v : V) (pins : List (Addr × Obj)) (σ : L2.St) (s : Shared) (u : Value), Rel (gX X) P F μ S H → Rep (gX X) F μ d v → ok d S = true → Inv X pins σ H s → RelV v u →
    ∃ T id, PlainAttrs T ∧ Slot T name id ∧ typeOf (.builtin id) = pure (.type "method_descriptor") ∧ s.TypeIs u T ∧ (∀ a, u = .ref a → ∃ ob, s.heap.get? a = some ob ∧ ob.dict = none) ∧
      MtR X id (fun v vs H Q => ∃ ds P F μ S E, Rel (gX X) P F μ S H ∧ Rep (gX X) F μ d v ∧ Reps (gX X) F μ ds vs ∧ ok d S = true ∧ Fin (repD (gX X)) (gX X) P F μ (m d ds S) Q E)
def mMetA (ok : D → Store → Bool) (m : D → List D → M D) (fo : EM) (fa : AM) : EM := fun ρ S => (fo ρ S).bind fun o S => if ok o S then (fa ρ S).bind fun ds S => if ok o S then m o ds S else .stuck else .stuck
section
variable {X : Cx} {W : WX} {o e : Expr} {es : List Expr} {fo : EM} {fa : AM} {name : Str} {apos cpos : Pos} {ok : D → Store → Bool} {m : D → List D → M D}
theorem d_metA (hm : MetA X name ok m) (ho : DE X W o fo) (ha : DA X W (e :: es) fa) (hbase : attributeBase o name X.env (eval o X.env) = eval o X.env := by rfl)
    (hfew : ((backTo cpos (starEach (e :: es) X.env)).all (fun x => !x.1) && (backToKw cpos (keywordEach [] X.env)).all (fun x => x.1.isSome) && decide ((e :: es).length + ([] : List Keyword).length + (if ([] : List Keyword).isEmpty then 0 else 1) < 30)) = true := by rfl)
    (hline : (apos.endLine == cpos.line) = true := by rfl) (hs : starEach (e :: es) X.env = (false, eval e X.env) :: starEach es X.env := by rfl)
    (hplain : (backTo cpos (starEach es X.env)).any (·.1) = false := by rfl) : DE X W (.Call (.Attribute o name apos) (e :: es) [] cpos) (mMetA ok m fo fa) := by
  refine ⟨fun pins s σ H Q I ⟨P, ρ, F, μ, S, en, rl, k⟩ => ?_⟩
  refine wpAny_Call_method_late hbase hfew hline rfl (thn (ho.run pins s σ H _ I (tD.run en rl (Fin.imp (Fin.bind (rep := repD (gX X)) k) (fun v H1 z => z) fun _ _ _ z => z))) fun v s1 ⟨x, H1, I1, r1, d, F1, μ1, S1, g1, rl1, p1, k1⟩ => ?_)
  split at k1
  · rename_i hk
    obtain ⟨T, id, h1, h2, h3, h4, h5, h6⟩ := hm P F1 μ1 S1 H1 d x pins σ s1 v rl1 p1 hk I1 r1
    refine ⟨T, id, h1, h2, h3, h4, h5, ?_⟩
    have hA := ha.run cpos pins s1 σ H1 _ I1 (tDA.run (en.mono g1) rl1 (Fin.imp (Fin.bind (rep := repA (gX X)) k1) (fun vs H2 z => z) fun _ _ _ z => z))
    rw [hs] at hA ⊢
    refine Calls.callWith_builtin (Bool.or_eq_false_iff.mpr ⟨rfl, hplain⟩) (Calls.evalArgs_plain ?_)
    refine thn hA fun us s2 ⟨vs, H2, I2, r2, ds, F2, μ2, S2, g2, rl2, p2, k2⟩ => ?_
    split at k2
    · rename_i hk2
      exact h6 pins s2 σ H2 x vs v us Q I2 r1 r2 ⟨ds, P, F2, μ2, S2, _, rl2, p1.mono g2, p2, hk2, k2⟩
    · exact k2.elim
  · exact k1.elim
end
/-- a list or a tuple -/
def isQ (d : D) (S : Store) : Bool := match d with
  | .tup _ => true
  | d => isL d S
def isT : D → Bool
  | .tup _ => true
  | _ => false
def countD (o : D) (ds : List D) : M D := fun S => match ds with
  | [x] => match seqOf o S with
    | some l => if plain 64 (derD x S) && plains 63 l then .ok (.int ((l.countP fun z => eqB z (derD x S) : Nat) : Int)) S else .stuck
    | none => .stuck
  | _ => .stuck
def indexD (o : D) (ds : List D) : M D := fun S => match ds with
  | [x] => match seqOf o S with
    | some l => if plain 64 (derD x S) && plains 63 l then (match l.findIdx? fun z => eqB z (derD x S) with
      | some j => .ok (.int (j : Nat)) S
      | none => .stuck) else .stuck
    | none => .stuck
  | _ => .stuck
theorem eqv_count {x : D} : ∀ {l : List D}, plain 64 x = true → plains 63 l = true → ((toPys l).countP fun z => PyData.eqv z (toPy x)) = l.countP fun z => eqB z x
  | [], _, _ => rfl
  | y :: l, hx, h => by
    simp only [plains, Bool.and_eq_true] at h
    simp only [toPys, List.countP_cons, eqv_count (l := l) hx h.2, eqv_eqB 63 64 y x h.1 hx]
theorem eqv_find {x : D} : ∀ {l : List D}, plain 64 x = true → plains 63 l = true → ((toPys l).findIdx? fun z => PyData.eqv z (toPy x)) = l.findIdx? fun z => eqB z x
  | [], _, _ => rfl
  | y :: l, hx, h => by
    simp only [plains, Bool.and_eq_true] at h
    simp only [toPys, List.findIdx?_cons, eqv_find (l := l) hx h.2, eqv_eqB 63 64 y x h.1 hx]
theorem dn_obj {X : Cx} {pins : List (Addr × Obj)} {σ : L2.St} {H : Hp} {s : Shared} {a : Addr} (I : Inv X pins σ H s) (h : DN (gX X) H a) : ∃ o, s.heap.get? a = some o ∧ o.dict = none := by
  obtain ⟨o, h1, h2⟩ := h
  rcases h2 with ⟨u, h2⟩ | h2
  · exact ⟨o, (I.hok a _ h2).1, h1⟩
  · exact ⟨o, I.kIn a o h2, h1⟩
theorem isQ_cases {d : D} {S : Store} (h : isQ d S = true) : (∃ l, d = .tup l) ∨ isL d S = true := by
  unfold isQ at h
  split at h
  · exact .inl ⟨_, rfl⟩
  · exact .inr h
theorem isL_seq {d : D} {S : Store} (h : isL d S = true) : ∃ l, lstOf d S = some l ∧ seqOf d S = some l := by
  unfold isL at h
  obtain ⟨l, q⟩ := Option.isSome_iff_exists.mp h
  refine ⟨l, q, ?_⟩
  unfold seqOf
  split
  · cases q
  · cases q
  · exact q
section
variable {X : Cx}
/-- what the heap holds of a sequence of plain data -/
theorem seq_reads {pins : List (Addr × Obj)} {σ : L2.St} {s : Shared} {P F : Hp} {μ : List Addr} {S : Store} {H : Hp} {l : List D} {xs : List V} {its : List Value} {n : Nat} (I : Inv X pins σ H s) (r : Rel (gX X) P F μ S H) (h : plains 63 l = true) (hr : Reps (gX X) F μ l xs) (rv : Vals xs its) :
    ∃ as, ReadsAll s.heap its (toPys l) as := Dp.readsAll I _ _ its (plains_dp r 63 l h hr) rv
theorem met_seq {name : Str} {iL iT : String} {m : D → List D → M D} (sL : Slot "list" name iL) (tL : typeOf (.builtin iL) = pure (.type "method_descriptor")) (sT : Slot "tuple" name iT) (tT : typeOf (.builtin iT) = pure (.type "method_descriptor"))
    (hL : MtR X iL (fun v vs H Q => ∃ d ds P F μ S E, Rel (gX X) P F μ S H ∧ Rep (gX X) F μ d v ∧ Reps (gX X) F μ ds vs ∧ isL d S = true ∧ Fin (repD (gX X)) (gX X) P F μ (m d ds S) Q E))
    (hT : MtR X iT (fun v vs H Q => ∃ l ds P F μ S E, Rel (gX X) P F μ S H ∧ Rep (gX X) F μ (.tup l) v ∧ Reps (gX X) F μ ds vs ∧ Fin (repD (gX X)) (gX X) P F μ (m (.tup l) ds S) Q E)) :
    MetA X name isQ m := by
  intro P F μ S H d v pins σ s u rl p hk I rv
  rcases isQ_cases hk with ⟨l, rfl⟩ | hl
  · obtain ⟨a, xs, rfl, ⟨hs, hd⟩, hr⟩ := p.tupN rl
    cases rv
    obtain ⟨its, r, ht, hz⟩ := I.tuple hs
    refine ⟨"tuple", iT, PySem.F.plainAttrs_tuple, sT, tT, ht.typeIs, fun b e => ?_, ?_⟩
    · cases e
      exact dn_obj I hd
    · intro pins s σ H2 x xs2 v us Q I2 rx rxs ⟨ds, P', F', μ', S', E, rl2, p2, ps, hq, k⟩
      exact hT pins s σ H2 x xs2 v us Q I2 rx rxs ⟨l, ds, P', F', μ', S', E, rl2, p2, ps, k⟩
  · obtain ⟨h1, h2⟩ := tyV_is I rv (isL_ty rl p hl)
    refine ⟨"list", iL, PySem.F.plainAttrs_list, sL, tL, h1, h2, ?_⟩
    intro pins s σ H2 x xs2 v us Q I2 rx rxs ⟨ds, P', F', μ', S', E, rl2, p2, ps, hq, k⟩
    refine hL pins s σ H2 x xs2 v us Q I2 rx rxs ⟨d, ds, P', F', μ', S', E, rl2, p2, ps, ?_, k⟩
    rcases isQ_cases hq with ⟨l', e⟩ | hl'
    · rw [e] at hl
      cases hl
    · exact hl'
theorem lay_all {l : List D} (h : plains 63 l = true) : PyData.plainAll (toPys l) = true ∧ PyData.depthAll (toPys l) ≤ 63 := by
  obtain ⟨h1, h2⟩ := plains_lay 63 l h
  exact ⟨PyData.plainAll_of_canLay0 _ h1, h2⟩
theorem lay_one {d : D} (h : plain 64 d = true) : (toPy d).plain = true ∧ (toPy d).depth ≤ 64 := by
  obtain ⟨h1, h2⟩ := plain_lay 64 d h
  exact ⟨PyData.plain_of_canLay0 _ h1, h2⟩
theorem ma_count (hu : X.A.units + 65 < cLine) : MetA X "count" isQ countD := by
  refine met_seq PySem.F.slot_list_count PySem.F.type_list_count PySem.F.slot_tuple_count PySem.F.type_tuple_count ?_ ?_
  · intro pins s σ H x xs v us Q I rx rxs ⟨d, ds, P, F, μ, S, E, rl, p, ps, hl, k⟩
    obtain ⟨l, q1, q2⟩ := isL_seq hl
    unfold countD at k
    split at k
    · rename_i y
      rw [q2] at k
      simp only at k
      split at k
      · rename_i hp
        simp only [Bool.and_eq_true] at hp
        obtain ⟨a, ys, rfl, hs, hr⟩ := lstOf_rep rl q1 p
        cases rx
        simp only [Reps] at ps
        obtain ⟨w, _, rfl, pw, rfl⟩ := ps
        obtain ⟨uy, rfl, ry⟩ := rxs.one
        obtain ⟨bs, r1⟩ := Dp.reads I _ w uy (der_dp rl hp.1 pw) ry
        obtain ⟨its, rv, pl, hlen⟩ := I.list hs
        obtain ⟨as, r2⟩ := seq_reads (n := 0) I rl hp.2 hr rv
        obtain ⟨z1, z2⟩ := lay_all hp.2
        obtain ⟨z3, z4⟩ := lay_one hp.1
        refine SeqAt.count_list_data pl.isList (vs := its.toArray) r2 r1 z1 z3 (by omega) ?_
        rw [eqv_count hp.1 hp.2]
        exact ⟨.int _, H, I.tok _, ⟨_, rfl⟩, k.here rl rep_int⟩
      · exact k.elim
    · exact k.elim
  · intro pins s σ H x xs v us Q I rx rxs ⟨l, ds, P, F, μ, S, E, rl, p, ps, k⟩
    unfold countD at k
    split at k
    · rename_i y
      simp only [seqOf_tup] at k
      split at k
      · rename_i hp
        simp only [Bool.and_eq_true] at hp
        obtain ⟨a, ys, rfl, hs, hr⟩ := p.tup rl
        cases rx
        simp only [Reps] at ps
        obtain ⟨w, _, rfl, pw, rfl⟩ := ps
        obtain ⟨uy, rfl, ry⟩ := rxs.one
        obtain ⟨bs, r1⟩ := Dp.reads I _ w uy (der_dp rl hp.1 pw) ry
        obtain ⟨its, rv, pl, hlen⟩ := I.tuple hs
        obtain ⟨as, r2⟩ := seq_reads (n := 0) I rl hp.2 hr rv
        obtain ⟨z1, z2⟩ := lay_all hp.2
        obtain ⟨z3, z4⟩ := lay_one hp.1
        refine SeqAt.count_tuple_data (vs := its.toArray) pl r2 r1 z1 z3 (by omega) ?_
        rw [eqv_count hp.1 hp.2]
        exact ⟨.int _, H, I.tok _, ⟨_, rfl⟩, k.here rl rep_int⟩
      · exact k.elim
    · exact k.elim
theorem ma_index (hu : X.A.units + 65 < cLine) : MetA X "index" isQ indexD := by
  refine met_seq PySem.F.slot_list_index PySem.F.type_list_index PySem.F.slot_tuple_index PySem.F.type_tuple_index ?_ ?_
  · intro pins s σ H x xs v us Q I rx rxs ⟨d, ds, P, F, μ, S, E, rl, p, ps, hl, k⟩
    obtain ⟨l, q1, q2⟩ := isL_seq hl
    unfold indexD at k
    split at k
    · rename_i y
      rw [q2] at k
      simp only at k
      split at k
      · rename_i hp
        simp only [Bool.and_eq_true] at hp
        split at k
        · rename_i j ej
          rw [← eqv_find hp.1 hp.2] at ej
          obtain ⟨a, ys, rfl, hs, hr⟩ := lstOf_rep rl q1 p
          cases rx
          simp only [Reps] at ps
          obtain ⟨w, _, rfl, pw, rfl⟩ := ps
          obtain ⟨uy, rfl, ry⟩ := rxs.one
          obtain ⟨bs, r1⟩ := Dp.reads I _ w uy (der_dp rl hp.1 pw) ry
          obtain ⟨its, rv, ⟨⟨cls, dd, data, sls⟩, n, ho, hc, hdn, hdt⟩, hlen⟩ := I.list hs
          simp only at hc hdt
          subst hc hdt
          obtain ⟨as, r2⟩ := seq_reads (n := 0) I rl hp.2 hr rv
          obtain ⟨z1, z2⟩ := lay_all hp.2
          obtain ⟨z3, z4⟩ := lay_one hp.1
          obtain ⟨hj, hit, hno⟩ := SeqAt.hit_at (vs := its.toArray) r2 z1 ej
          have hsz : its.toArray.size ≤ sizeLine := by have := rv.length; simp only [List.size_toArray]; omega
          have hsl := sizeLine_eq
          exact call_meets PySem.F.slot_list_index ⟨_, ho, rfl⟩ PySem.F.entry_list_index (PySem.F.args_list_index_2 _ _) (SeqAt.list_indexAt a its.toArray n dd sls uy (fun u => PyData.eqv (SeqAt.readOf s.heap u) _) j hj (by omega) hit fun m hm hmj => hno m hm hmj)
            ⟨ho, SeqAt.items_plain (vs := its.toArray) r2 r1 z1 z3 (by omega), ⟨.int _, H, I.tok _, ⟨_, rfl⟩, k.here rl rep_int⟩⟩
        · exact k.elim
      · exact k.elim
    · exact k.elim
  · intro pins s σ H x xs v us Q I rx rxs ⟨l, ds, P, F, μ, S, E, rl, p, ps, k⟩
    unfold indexD at k
    split at k
    · rename_i y
      simp only [seqOf_tup] at k
      split at k
      · rename_i hp
        simp only [Bool.and_eq_true] at hp
        split at k
        · rename_i j ej
          rw [← eqv_find hp.1 hp.2] at ej
          obtain ⟨a, ys, rfl, hs, hr⟩ := p.tup rl
          cases rx
          simp only [Reps] at ps
          obtain ⟨w, _, rfl, pw, rfl⟩ := ps
          obtain ⟨uy, rfl, ry⟩ := rxs.one
          obtain ⟨bs, r1⟩ := Dp.reads I _ w uy (der_dp rl hp.1 pw) ry
          obtain ⟨its, rv, ⟨⟨cls, dd, data, sls⟩, ho, hc, n, hdt⟩, hlen⟩ := I.tuple hs
          simp only at hc hdt
          subst hc hdt
          obtain ⟨as, r2⟩ := seq_reads (n := 0) I rl hp.2 hr rv
          obtain ⟨z1, z2⟩ := lay_all hp.2
          obtain ⟨z3, z4⟩ := lay_one hp.1
          obtain ⟨hj, hit, hno⟩ := SeqAt.hit_at (vs := its.toArray) r2 z1 ej
          exact call_meets PySem.F.slot_tuple_index ⟨_, ho, rfl⟩ PySem.F.entry_tuple_index (PySem.F.args_tuple_index_2 _ _) (_root_.TI.tuple_indexAt a its.toArray n dd sls uy (fun u => PyData.eqv (SeqAt.readOf s.heap u) _) j hj hit fun m hm hmj => hno m hm hmj)
            ⟨ho, SeqAt.items_plain (vs := its.toArray) r2 r1 z1 z3 (by omega), ⟨.int _, H, I.tok _, ⟨_, rfl⟩, k.here rl rep_int⟩⟩
        · exact k.elim
      · exact k.elim
    · exact k.elim
end
end DL

/-! The data layer, 9: an exception that is caught and kept. -/
namespace DL
open PySem PySem.Spec PyProof.Rows L2

section
variable {X : Cx} {pins : List (Addr × Obj)} {σ : L2.St} {H : Hp} {s : Shared}
/-- an object that came since the entry is tracked from now on -/
theorem track {a : Addr} {ob : Obj} {o : HO} (I : Inv X pins σ H s) (ha : s.heap.get? a = some ob) (hn : H a = none) (h0 : X.s_0.heap.get? a = none) (hl : a ≠ X.env.locals) (hc : ∀ x c, X.env.cells.lookup x = some c → a ≠ c)
    (hp : ∀ p ∈ X.pn ++ pins, p.1 ≠ a) (new : ObjOk X.prog X.w (upd H a o) s.heap a o) : Inv X pins σ (upd H a o) s :=
  ⟨I.ok, I.os, I.bare, ⟨I.base.keep, I.base.slot, fun b u e n x => by
      rw [upd_ne (fun z => by rw [z, h0] at e; cases e)]; exact I.base.free b u e n x, I.base.there,
      fun b xs e => by rw [upd_ne (ne_of_none (I.base.tups b xs e) hn)]; exact I.base.tups b xs e,
      fun b u xs e => by rw [upd_ne (ne_of_none (I.base.frzs b u xs e) hn)]; exact I.base.frzs b u xs e,
      fun b ps e => by
        obtain ⟨m, z⟩ := I.base.tbls b ps e
        exact ⟨m, by rw [upd_ne (ne_of_none z hn)]; exact z⟩⟩,
    I.loc, I.cell, by rw [upd_ne (Ne.symm hl)]; exact I.free, fun x c e => by rw [upd_ne (Ne.symm (hc x c e))]; exact I.freeC x c e,
    fun p m => by
      obtain ⟨e1, e2, e3⟩ := I.pin p m
      exact ⟨e1, by rw [upd_ne (hp p m)]; exact e2, e3⟩, HOk.laidN I.hok (fun _ _ e => e) hn new, I.len⟩
end
/-- a clause that keeps its exception -/
def wKept (K : PySem.W.Frag) (c : Value) (i : Nat) (ts : Addr → Value → Option Addr → TS) (D : Ends) : WX := fun cls d σ H =>
  PySem.W.exmOne K cls c = some true ∧ ∃ C, cls = .ref C ∧ ∀ a, H a = none → ts a cls d { nx := fun σ' H' => D.nx (σ'.set i none) (upd H' a (XO C d a)), rt := fun _ _ => False, bk := fun _ _ => False, ct := fun _ _ => False } (σ.set i (some (.ref a))) H
section
variable {X : Cx} {x n : Str} {c : Value} {i : Nat} {body suite : List Stmt} {b0 : Stmt} {np pos ps2 : Pos} {tb : WX → TS} {ts : Addr → Value → Option Addr → TS}
theorem ps_try_kept (ex0 : X.ex = []) (stk : X.stack = X.env :: X.outer) (frm : X.env.frame = some X.env.locals) (nd : X.N.Nodup) (at_ : X.N[i]? = some n) (lc : X.env.kindOf n = some .local) (nm : Names X x c)
    (bd : ∀ (W : WX) (pn : List (Addr × Obj)) (xe : Value → Shared → Prop), L2.Takes (X.tr pn xe) W → PassesOwn (model X.prog X.w) X.A X.env xe → PSs (X.tr pn xe) body (tb W))
    (su : ∀ (a : Addr) (ob : Obj) (cls : Value) (d : Option Addr) (pn : List (Addr × Obj)), Zc cls d ob → (∃ vs, ob.data = .fields vs) → PSs (X.suite a ((a, ob) :: pn)) (b0 :: suite) (ts a cls d)) :
    PS X (.Try body [.ExceptHandler (some (.Name x np)) (some n) (b0 :: suite) ps2] [] [] pos) (fun D σ H => tb (wKept X.K c i ts D) D σ H) := by
  constructor
  intro pins s σ H D I hbody
  have okX := I.ok
  have frames : X.A.frames = some (X.env :: X.outer) := okX.frames.trans (congrArg some stk)
  apply wpAny_Try_except
  refine wpAny_mono ((bd (wKept X.K c i ts D) (X.pn ++ pins) (fun e t => wpAny (model X.prog X.w) X.A (noteFrame e X.env) (fun _ t2 => wpAny (model X.prog X.w) X.A (setFlight e none) (fun _ t3 => wpAny (model X.prog X.w) X.A
    (handleBy e X.env [.ExceptHandler (some (.Name x np)) (some n) (b0 :: suite) ps2]) (SP X pins D) X.xe t3) X.xe t2) X.xe t) (fun u t xx => ?_) PassesOwn.looking).run [] s σ H D (I.toTry _) hbody) (fun f t out => ?_) (fun e t z => z)
  case refine_1 =>
    obtain ⟨a, B, t0, pins1, σ1, H1, cls, d, rfl, Jt, below, ups, sk, fresh, ose, bare, hyes, C, hC, hgo⟩ := xx
    have J : Inv X pins σ1 H1 t0 := Jt.ofTry okX
    rw [show (X.tr (X.pn ++ pins) _).stack = X.env :: X.outer from stk] at sk
    have Ba : B.get? a = none := by
      rcases sk with k | k | k
      · exact k.2.1
      · exact k.2.1
      · exact k.2.1
    show wpAny _ _ (noteFrame (.ref a) X.env) _ _ _
    refine Sky.land Zc.steady frames frm sk fun hp fl up2 => ?_
    obtain ⟨ob, vs, get1, zc1, dat1⟩ := fl.there
    have notF : a ∉ frs (X.env :: X.outer) := fun m => by
      obtain ⟨_, o2, e2, nf⟩ := fl.2.2.1.mem m
      rw [get1] at e2; cases e2
      exact nf _ dat1
    have nL : a ≠ X.env.locals := fun z => notF (List.mem_filterMap.mpr ⟨X.env, List.mem_cons_self, by rw [frm, z]⟩)
    have nF : a ∉ X.fs := fun m => by
      obtain ⟨v, m1, m2⟩ := List.mem_filterMap.mp m
      exact notF (List.mem_filterMap.mpr ⟨v, List.mem_cons_of_mem _ m1, m2⟩)
    have t0a : t0.heap.get? a = none := by
      cases q : t0.heap.get? a with
      | none => rfl
      | some u => rw [below a u q (by show a ∉ frs X.stack; rw [stk]; exact notF)] at Ba; cases Ba
    have s0a : X.s_0.heap.get? a = none := by
      cases q : X.s_0.heap.get? a with
      | none => rfl
      | some u =>
        obtain ⟨u', q'⟩ := J.base.there a u q (by rw [ex0]; exact List.not_mem_nil)
        rw [t0a] at q'; cases q'
    have notP : ∀ p ∈ X.pn ++ pins, p.1 ≠ a := fun p m z => by
      have q := (J.pin p m).1
      rw [z, t0a] at q; cases q
    have notC : ∀ y cc, X.env.cells.lookup y = some cc → a ≠ cc := fun y cc e z => by
      obtain ⟨v, o, q, _⟩ := J.cell y cc e
      rw [← z, t0a] at q; cases q
    have J1 : Inv X pins σ1 H1 { t with heap := hp } := J.landed below fl.1 (ups.trans up2) ose bare
    have S1 := J1.suite get1 dat1 fresh nL nF
    refine wpAny_handleBy_cons (codeAny_handlers_test ?_) (fun q => nomatch q)
    have looks : PySem.W.Looks (model X.prog X.w) hp (typeOf (.ref a)) cls := fun A Q E st k q => wpAny_typeOf_ref (k _ _ get1) (by rw [zc1.1]; exact q)
    have fits := PySem.W.exm_one (M := model X.prog X.w) J1.kIn looks hyes
    have clause : ∀ {Q : Value → Shared → Prop} {E : Value → Shared → Prop}, Q c { t with heap := hp } → wpAny (model X.prog X.w) (X.A.mark (some (.ref a))) (eval (.Name x np) X.env) Q E { t with heap := hp } := fun {Q E} q => by
      obtain ⟨g1, g2, g3 | ⟨g3, g4, g5⟩⟩ := nm
      · exact ld_glob (X := X.suite a ((a, ob) :: (X.pn ++ pins))) S1 g1 g3 q g2
      · exact ld_blt (X := X.suite a ((a, ob) :: (X.pn ++ pins))) S1 g1 g3 g4 q g5 g2
    refine clause (fits.here (codeAny_handlers_suite_as ?_))
    refine HandSPX.lands_againZ fl fun hp2 fl2 up3 => ?_
    have J2 : Inv X pins σ1 H1 { t with heap := hp2 } := J.landed below fl2.1 ((ups.trans up2).trans up3) ose bare
    obtain ⟨ob2, vs2, get2, zc2, dat2⟩ := fl2.there
    refine store_ok (X := X.suite a ((a, ob2) :: (X.pn ++ pins))) (v := .ref a) (J2.suite get2 dat2 fresh nL nF) nd at_ (.inl lc) rfl (fun t5 S5 => ?_) (.inr lc)
    refine wpAny_mono ((su a ob2 cls d (X.pn ++ pins) zc2 ⟨_, dat2⟩).run [] t5 _ H1 _ S5 (hgo a fresh)) (fun f t6 out => ?_) (fun _ _ z => False.elim z)
    cases f with
    | next =>
      obtain ⟨σ6, H6, S6, q6⟩ := out
      obtain ⟨get6, free6, _⟩ := S6.pin (a, ob2) List.mem_cons_self
      refine gone_ok (track (o := XO C d a) (S6.unsuite okX) get6 free6 s0a nL notC notP ?_) nd at_ lc fun t7 J7 => ⟨_, _, J7, q6⟩
      exact ⟨⟨ob2, vs2, get6, hC ▸ zc2, dat2⟩, ⟨ob2, get6⟩, fun h1 h2 ⟨o, v, e, z, dd⟩ k => ⟨o, v, k o e, z, dd⟩⟩
    | brk => obtain ⟨_, _, _, z⟩ := out; exact False.elim z
    | cont => obtain ⟨_, _, _, z⟩ := out; exact False.elim z
    | ret u => obtain ⟨_, _, _, _, _, z⟩ := out; exact False.elim z
  case refine_2 =>
    cases f with
    | next =>
      obtain ⟨σ1, H1, J, q⟩ := out
      exact wpAny_execs_nil ⟨σ1, H1, J.ofTry okX, q⟩
    | brk => obtain ⟨σ1, H1, J, q⟩ := out; exact ⟨σ1, H1, J.ofTry okX, q⟩
    | cont => obtain ⟨σ1, H1, J, q⟩ := out; exact ⟨σ1, H1, J.ofTry okX, q⟩
    | ret u => obtain ⟨v, σ1, H1, J, r, q⟩ := out; exact ⟨v, σ1, H1, J.ofTry okX, r, q⟩
end
theorem EnvR.gone {g : G} {F : Hp} {μ : List Addr} {ρ : Env} {σ : L2.St} (h : EnvR g F μ ρ σ) (i : Nat) : EnvR g F μ (ρ.set i none) (σ.set i none) := EnvR.wipe h [i]
/-- try: b, except .. as n: y = n -/
def mTryK (cs : List Str) (i j : Nat) (b : SM) : SM := fun ρ S => match b ρ S with
  | .go (.ex (.exc c ns ds)) ρ' S' => if cs.contains c && decide (i < ρ'.length) then .go .nx (((ρ'.set i (some (.exc c ns ds))).set j (some (.exc c ns ds))).set i none) S' else .stuck
  | .go (.ex _) _ _ => .stuck
  | o => o
/-- the class x takes the exceptions of the classes cs -/
structure CatD (K : PySem.W.Frag) (mg : Str → Option Value) (x : Str) (cs : List Str) : Prop where
  ex : ∃ CS, mg x = some (.ref CS) ∧ ∀ c ∈ cs, ∃ C, mg c = some (.ref C) ∧ PySem.W.exmOne K (.ref C) (.ref CS) = some true
section
variable {X : Cx} {W : WX} {x n y : Str} {np pos ps2 p1 p2 p3 : Pos} {body : List Stmt} {fb : SM} {cs : List Str}
theorem ds_tryK (i j : Nat) (cd : CatD X.K X.mg x cs) (nd : X.N.Nodup)
    (bd : ∀ (W : WX) (pn : List (Addr × Obj)) (xe : Value → Shared → Prop), L2.Takes (X.tr pn xe) W → PassesOwn (model X.prog X.w) X.A X.env xe → DSs (X.tr pn xe) W body fb)
    (ex0 : X.ex = [] := by rfl) (stk : X.stack = X.env :: X.outer := by rfl) (frm : X.env.frame = some X.env.locals := by rfl) (hi : X.N[i]? = some n := by rfl) (hj : X.N[j]? = some y := by rfl)
    (lc : X.env.kindOf n = some .local := by rfl) (ln : Vis X.env.scope n := by first | exact .inl rfl | exact .inr rfl) (ly : X.env.scope.names.lookup y = some .local := by rfl)
    (g1 : Gl X x := by rfl) (g2 : (x == ("__debug__" : Str)) = false := by decide) (g3 : (n == ("__debug__" : Str)) = false := by decide) (g4 : (n == ("__classdict__" : Str)) = false := by decide)
    (hs : swapsWith (.Name n p2) (some (.Name y p1)) p3.line X.env = pure false := by rfl) :
    DS X W (.Try body [.ExceptHandler (some (.Name x np)) (some n) [.Assign [.Name y p1] (.Name n p2) p3] ps2] [] [] pos) (mTryK cs i j fb) := by
  obtain ⟨CS, hx, hcs⟩ := cd.ex
  refine PS.weak (ps_try_kept (c := .ref CS) (tb := fun W => tDS (gX X) W fb) (ts := fun a cls d D σ H => ∃ v, σ[i]? = some (some v) ∧ D.nx (σ.set j (some v)) H) ex0 stk frm nd hi lc ⟨g1, g2, .inl hx⟩ bd fun a ob cls d pn _ _ =>
    pss_one (PS.weak (ps_set (X := X.suite a ((a, ob) :: pn)) (i := j) nd hj (.inl ly) (pe_var hi ln g3 g4) hs (.inr ly)) fun D σ H ⟨v, h1, h2⟩ => ⟨v, h1, h2⟩)) fun D σ H ⟨P, ρ, F, μ, S, en, rl, k⟩ => ?_
  refine ⟨P, ρ, F, μ, S, en, rl, ?_⟩
  unfold mTryK at k
  cases q : fb ρ S with
  | stuck => rw [q] at k; exact k.elim
  | go fl ρ' S' =>
    rw [q] at k
    cases fl with
    | nx => exact k
    | bk => exact k
    | ct => exact k
    | rt d => exact k
    | ex e =>
      intro F' μ' H' gr r σ' cls dd en' xr
      obtain ⟨c, ns, ds, C, xs, rfl, hm, rfl, hd, hr, hl⟩ := xr
      simp only at k
      split at k
      · rename_i hc
        simp only [Bool.and_eq_true, List.contains_iff_mem, decide_eq_true_eq] at hc
        obtain ⟨C', hC', hex⟩ := hcs c hc.1
        have hm' : X.mg c = some (.ref C) := hm
        rw [hm'] at hC'; cases hC'
        refine ⟨hex, C, rfl, fun a ha => ⟨.ref a, ?_, ?_⟩⟩
        · rw [List.getElem?_set_self (by rw [← en'.len]; exact hc.2)]
        · obtain ⟨r1, gr1⟩ := r.froz (o := XO C dd a) ha
          have rp : Rep (gX X) (upd F' a (XO C dd a)) μ' (.exc c ns ds) (.ref a) := by
            simp only [Rep]
            exact ⟨a, C, dd, xs, rfl, hm, upd_same, xd_mono gr1 hd, hr.mono gr1, hl⟩
          exact k _ _ _ (gr.trans gr1) r1 _ ((((en'.mono gr1).set rp).set rp).gone i)
      · exact k.elim
end
end DL

/-! The data layer, 10: isinstance, the fields of an exception. -/
namespace DL
open PySem PySem.Spec PyProof.Rows L2

/-- the built-in type of a value -/
def tyT (d : D) (S : Store) : Option String := match d with
  | .non => some "NoneType"
  | .bl _ => some "bool"
  | .int _ => some "int"
  | .str _ => some "str"
  | .tup _ => some "tuple"
  | .wt _ => some "tuple"
  | .lst _ => some "list"
  | .ref n => match S[n]? with
    | some (.lst _) => some "list"
    | some (.dct _ _) => some "dict"
    | _ => none
  | _ => none
def subT (a T : String) : Bool := a == T || (a == "bool" && T == "int") || T == "object"
def isD (T : String) (tab : List (Str × Bool)) (d : D) : M D := fun S => match tyT d S with
  | some a => .ok (.bl (subT a T)) S
  | none => match d with
    | .exc c _ _ => match tab.lookup c with
      | some b => .ok (.bl b) S
      | none => .stuck
    | _ => .stuck
theorem kit_D {X : Cx} {pins : List (Addr × Obj)} {σ : L2.St} {s : Shared} {P F : Hp} {μ : List Addr} {S : Store} {H : Hp} {d : D} {v : V} {u : Value} {a : String} (I : Inv X pins σ H s) (r : Rel (gX X) P F μ S H) (p : Rep (gX X) F μ d v) (rv : RelV v u) (e : tyT d S = some a) :
    ∃ Z : Heap → Prop, PySem.W.KitX X.K u (.type a) Z ∧ Z s.heap ∧ u ≠ .builtin "__main__.__loader__#opaque" := by
  have tp : ∀ {q : Addr} {xs : List V}, SqT X.K H q xs → ∃ Z : Heap → Prop, PySem.W.KitX X.K (.ref q) (.type "tuple") Z ∧ Z s.heap ∧ (.ref q : Value) ≠ .builtin "__main__.__loader__#opaque" := fun {q xs} h => by
    obtain ⟨its, _, ⟨o, h1, h2, _⟩, _⟩ := I.tuple h
    exact ⟨_, PySem.W.kitx_tuple, ⟨o, h1, h2⟩, fun z => nomatch z⟩
  have ls : ∀ {q : Addr} {xs : List V}, SqL X.K H q xs → ∃ Z : Heap → Prop, PySem.W.KitX X.K (.ref q) (.type "list") Z ∧ Z s.heap ∧ (.ref q : Value) ≠ .builtin "__main__.__loader__#opaque" := fun {q xs} h => by
    obtain ⟨its, _, ⟨o, n, h1, h2, _⟩, _⟩ := I.list h
    exact ⟨_, PySem.W.kitx_list, ⟨o, h1, h2⟩, fun z => nomatch z⟩
  cases d with
  | non => cases e; rw [p.non] at rv; exact kit_of I rv (.base .non)
  | bl b => cases e; rw [p.bl] at rv; exact kit_of I rv (.base (.bl b))
  | int i => cases e; rw [p.int] at rv; exact kit_of I rv (.base (.int i))
  | str x => cases e; rw [p.str] at rv; exact kit_of I rv (.base (.str x))
  | tup l =>
    cases e
    obtain ⟨q, xs, rfl, hs, _⟩ := p.tup r
    cases rv; exact tp hs
  | wt l =>
    cases e
    obtain ⟨q, xs, rfl, hs, _⟩ := p.wt r
    cases rv; exact tp hs
  | lst l =>
    cases e
    obtain ⟨q, xs, rfl, hs, _⟩ := p.lst r
    cases rv; exact ls hs
  | ref n =>
    cases q : S[n]? with
    | none => simp [tyT, q] at e
    | some o =>
      cases o with
      | lst l =>
        simp [tyT, q] at e
        subst e
        obtain ⟨b, xs, rfl, _, hs, _⟩ := p.refL r q
        cases rv; exact ls (.of hs)
      | dct ks ds =>
        simp [tyT, q] at e
        subst e
        simp only [Rep] at p
        obtain ⟨b, h1, rfl⟩ := p
        rcases r.live n _ b q h1 with ⟨z, _⟩ | ⟨w, _, hw, xs, hx, _⟩
        · cases z
        · subst hx
          cases rv
          exact kit_of (x := .ref b) I rfl (.base (.dK hw))
      | ins _ _ _ => simp [tyT, q] at e
      | dead => simp [tyT, q] at e
  | obj _ _ _ => cases e
  | exc _ _ _ => cases e
/-- what the class of an exception must say -/
structure ExI (K : PySem.W.Frag) (C : Addr) : Prop where
  hc : (PySem.W.clsIn K C).isSome = true
  ga : PySem.W.findIn K (.ref C) "__getattribute__" = some (some (.builtin "BaseException.__getattribute__"))
  gt : PySem.W.findIn K (.ref C) "__getattr__" = some none
  sb : PySem.W.subIn K (.ref C) (.type "BaseException") = some true
  ca : PySem.W.findIn K (.ref C) "__class__" = some (some (.builtin "object.__class__"))
  sp : PySem.W.specialIn K (.builtin "object.__class__") "__get__" = some (some (.builtin "getset_descriptor.__get__"))
  tk : PySem.W.takesIn K (.builtin "object.__class__") = some true
  mo : PySem.W.mroIn K C (.type "object") = some true
  hd : PySem.W.hasDictIn K C = true
/-- isinstance(e, c) for the exceptions of the table -/
structure IsT (K : PySem.W.Frag) (mg : Str → Option Value) (cv : Value) (tab : List (Str × Bool)) : Prop where
  all : ∀ c b, tab.lookup c = some b → ∃ C, mg c = some (.ref C) ∧ ExI K C ∧ PySem.W.kitOne K (.ref C) cv = some b
theorem Reps.lookup {g : G} {F : Hp} {μ : List Addr} (f : Str) : ∀ {ns : List Str} {ds : List D} {xs : List V} {d : D}, Reps g F μ ds xs → (ns.zip ds).lookup f = some d → ∃ v, (ns.zip xs).lookup f = some v ∧ Rep g F μ d v
  | [], _, _, _, _, e => by simp at e
  | _ :: _, [], _, _, _, e => by simp at e
  | n :: ns, x :: ds, xs, d, h, e => by
    simp only [Reps] at h
    obtain ⟨v, vs, rfl, h1, h2⟩ := h
    simp only [List.zip_cons_cons, List.lookup_cons] at e ⊢
    cases q : f == n with
    | true =>
      rw [q] at e
      cases e
      exact ⟨v, rfl, h1⟩
    | false =>
      rw [q] at e
      exact Reps.lookup f h2 e
/-- an exception object in the heap -/
theorem exc_inst {X : Cx} {pins : List (Addr × Obj)} {σ : L2.St} {s : Shared} {P F : Hp} {μ : List Addr} {S : Store} {H : Hp} {c : Str} {ns : List Str} {ds : List D} {v : V} (I : Inv X pins σ H s) (r : Rel (gX X) P F μ S H) (p : Rep (gX X) F μ (.exc c ns ds) v) :
    ∃ a C ox od, v = .ref a ∧ X.mg c = some (.ref C) ∧ PySem.W.InstAt s.heap a ox C od ∧ ∀ f d, (ns.zip ds).lookup f = some d → ∃ (oo : Obj) (y : V) (w : Value), od = some oo ∧ PySem.W.lookIn f oo = some (some w) ∧ RelV y w ∧ Rep (gX X) F μ d y := by
  simp only [Rep] at p
  obtain ⟨a, C, dd, xs, rfl, hm, hx, hd, hr, hl⟩ := p
  obtain ⟨⟨ox, vs, e1, e2, e3⟩, _, _⟩ := I.hok a _ (r.sub _ _ hx)
  rcases hd with ⟨rfl, rfl, rfl⟩ | ⟨dx, rfl, hdx⟩
  · exact ⟨a, C, ox, none, rfl, hm, ⟨e1, e2.1, by unfold PySem.W.notCls; rw [e3], by rw [e2.2]; trivial⟩, fun f d e => by simp at e⟩
  · obtain ⟨mA, h1, h2⟩ := I.hok dx _ (r.sub _ _ hdx)
    obtain ⟨od, h3, h4⟩ := lookIn_ns h1
    refine ⟨a, C, ox, some od, rfl, hm, ⟨e1, e2.1, by unfold PySem.W.notCls; rw [e3], by rw [e2.2]; exact h3⟩, fun f d e => ?_⟩
    obtain ⟨y, h5, h6⟩ := hr.lookup f e
    obtain ⟨w, h7, h8⟩ := RelO.some_of (v := y) (o := mA f) (by rw [← h5]; exact h2 f)
    exact ⟨od, y, w, rfl, by rw [h4, h7], h8, h6⟩
section
variable {X : Cx} {W : WX} {e : Expr} {fe : EM} {T x : Str} {p p2 pos : Pos} {tab : List (Str × Bool)} {Tn : String}
theorem cd_is {cv : Value} {c : V} (hcv : ClsV c cv) (hT : cv = .type Tn) (hty : ∀ a ∈ ["NoneType", "bool", "int", "str", "tuple", "list", "dict"], kitB a Tn = some (subT a Tn)) (ht : IsT X.K X.mg cv tab) :
    CallR X (.builtin "isinstance") (fun vs H Q => ∃ d v P F μ S E, vs = [v, c] ∧ Rel (gX X) P F μ S H ∧ Rep (gX X) F μ d v ∧ Fin (repD (gX X)) (gX X) P F μ (isD Tn tab d S) Q E) := by
  intro pins s σ H vs us Q I rv ⟨d, v, P, F, μ, S, E, ev, rl, p, k⟩
  subst ev hT
  obtain ⟨u1, u2, rfl, r1, r2⟩ := vals2 rv
  have e2 := hcv.eq r2
  subst e2
  unfold isD at k
  cases q : tyT d S with
  | some a =>
    rw [q] at k
    have ha : a ∈ ["NoneType", "bool", "int", "str", "tuple", "list", "dict"] := by
      cases d <;> simp only [tyT] at q <;> first | (cases q; done) | (cases q; decide) | skip
      split at q <;> first | (cases q; decide) | cases q
    obtain ⟨Z, z1, z2, z3⟩ := kit_D I rl p r1 q
    exact PySem.W.kia_one z1 I.kIn z2 (kit_ty (hty a ha)) z3 fun tk => ⟨.bl _, H, I.tok tk, rfl, k.here rl rep_bl⟩
  | none =>
    rw [q] at k
    cases d <;> first | exact k.elim | skip
    rename_i cn ns ds
    simp only at k
    cases q2 : tab.lookup cn with
    | none => rw [q2] at k; exact k.elim
    | some b =>
      rw [q2] at k
      obtain ⟨C, hm, hC, hk⟩ := ht.all cn b q2
      obtain ⟨a, C', ox, od, rfl, hm', J, _⟩ := exc_inst I rl p
      rw [hm] at hm'; cases hm'
      cases r1
      exact PySem.W.kia_one (PySem.W.kitx_exc hC.hc hC.ga hC.gt hC.sb hC.ca hC.sp hC.tk hC.mo) I.kIn J hk (fun z => nomatch z) fun tk => ⟨.bl b, H, I.tok tk, rfl, k.here rl rep_bl⟩
/-- isinstance(e, T), T a built-in type -/
def mIs (Tn : String) (tab : List (Str × Bool)) (fe : EM) : EM := fun ρ S => (fe ρ S).bind (isD Tn tab)
theorem d_isB (hm : X.mg "isinstance" = none) (hmT : X.mg T = none) (hty : ∀ a ∈ ["NoneType", "bool", "int", "str", "tuple", "list", "dict"], kitB a Tn = some (subT a Tn)) (ht : IsT X.K X.mg (.type Tn) tab) (he : DE X W e fe)
    (hg : Gl X "isinstance" := by rfl) (hgT : Gl X T := by rfl) (hv : bootBuiltins T = some (.type Tn) := by decide +kernel) (hn : T ≠ "__name__" := by decide) (hdb : (T == ("__debug__" : Str)) = false := by decide)
    (h1 : starEach [e, .Name T p2] X.env = (false, eval e X.env) :: starEach [.Name T p2] X.env := by rfl) (h2 : starEach [.Name T p2] X.env = (false, eval (.Name T p2) X.env) :: starEach [] X.env := by rfl) (h3 : (backTo pos (starEach [.Name T p2] X.env)).any (·.1) = false := by rfl) :
    DE X W (.Call (.Name "isinstance" p) [e, .Name T p2] [] pos) (mIs Tn tab fe) := by
  have hT : PE X (.Name T p2) (tC (.ty Tn)) := ⟨fun pins s σ H Q I q => ld_blt I hgT hmT hv ⟨.ty Tn, H, I, rfl, q⟩ hn hdb⟩
  refine PE.weak (pe_callB (id := "isinstance") (cd_is (.ty Tn) rfl hty ht) hg hm (by decide +kernel) (pa_cons he (pa_cons hT pa_nil h2) h1) (by decide) (by decide) h1 h3) fun σ H Q ⟨P, ρ, F, μ, S, en, rl, k⟩ => ?_
  refine tD.run en rl (Fin.imp (Fin.bind (rep := repD (gX X)) k) (fun v H1 ⟨d, F1, μ1, S1, g1, r1, p1, k1⟩ => ?_) fun _ _ _ z => z)
  exact ⟨d, v, P, F1, μ1, S1, _, rfl, r1, p1, k1⟩
/-- isinstance(e, x), x an own class, e an exception -/
def isC (tab : List (Str × Bool)) (d : D) : M D := fun S => match d with
  | .exc c _ _ => match tab.lookup c with
    | some b => .ok (.bl b) S
    | none => .stuck
  | _ => .stuck
def mIsC (tab : List (Str × Bool)) (fe : EM) : EM := fun ρ S => (fe ρ S).bind (isC tab)
/-- the module's name x is an own class, and isinstance answers as the table says -/
structure IsCD (K : PySem.W.Frag) (mg : Str → Option Value) (x : Str) (tab : List (Str × Bool)) : Prop where
  ex : ∃ CS, mg x = some (.ref CS) ∧ IsT K mg (.ref CS) tab
theorem d_isC (hm : X.mg "isinstance" = none) (hx : IsCD X.K X.mg x tab) (he : DE X W e fe) (hg : Gl X "isinstance" := by rfl) (hgT : Gl X x := by rfl) (hdb : (x == ("__debug__" : Str)) = false := by decide)
    (h1 : starEach [e, .Name x p2] X.env = (false, eval e X.env) :: starEach [.Name x p2] X.env := by rfl) (h2 : starEach [.Name x p2] X.env = (false, eval (.Name x p2) X.env) :: starEach [] X.env := by rfl) (h3 : (backTo pos (starEach [.Name x p2] X.env)).any (·.1) = false := by rfl) :
    DE X W (.Call (.Name "isinstance" p) [e, .Name x p2] [] pos) (mIsC tab fe) := by
  obtain ⟨CS, hmx, ht⟩ := hx.ex
  have cr : CallR X (.builtin "isinstance") (fun vs H Q => ∃ d v P F μ S E, vs = [v, .ref CS] ∧ Rel (gX X) P F μ S H ∧ Rep (gX X) F μ d v ∧ Fin (repD (gX X)) (gX X) P F μ (isC tab d S) Q E) := by
    intro pins s σ H vs us Q I rv ⟨d, v, P, F, μ, S, E, ev, rl, p, k⟩
    subst ev
    obtain ⟨u1, u2, rfl, r1, r2⟩ := vals2 rv
    cases r2
    unfold isC at k
    cases d <;> first | exact k.elim | skip
    rename_i cn ns ds
    simp only at k
    cases q2 : tab.lookup cn with
    | none => rw [q2] at k; exact k.elim
    | some b =>
      rw [q2] at k
      obtain ⟨C, hm, hC, hk⟩ := ht.all cn b q2
      obtain ⟨a, C', ox, od, rfl, hm', J, _⟩ := exc_inst I rl p
      rw [hm] at hm'; cases hm'
      cases r1
      exact PySem.W.kia_one (PySem.W.kitx_exc hC.hc hC.ga hC.gt hC.sb hC.ca hC.sp hC.tk hC.mo) I.kIn J hk (fun z => nomatch z) fun tk => ⟨.bl b, H, I.tok tk, rfl, k.here rl rep_bl⟩
  refine PE.weak (pe_callB (id := "isinstance") cr hg hm (by decide +kernel) (pa_cons he (pa_cons (pe_glob hgT hmx (v := .ref CS) rfl hdb) pa_nil h2) h1) (by decide) (by decide) h1 h3) fun σ H Q ⟨P, ρ, F, μ, S, en, rl, k⟩ => ?_
  refine tD.run en rl (Fin.imp (Fin.bind (rep := repD (gX X)) k) (fun v H1 ⟨d, F1, μ1, S1, g1, r1, p1, k1⟩ => ?_) fun _ _ _ z => z)
  exact ⟨d, v, P, F1, μ1, S1, _, rfl, r1, p1, k1⟩
/-- e.f, e an exception with the field f -/
def xfD (f : Str) (d : D) : M D := fun S => match d with
  | .exc _ ns ds => match (ns.zip ds).lookup f with
    | some y => .ok y S
    | none => .stuck
  | _ => .stuck
def mXf (f : Str) (fe : EM) : EM := fun ρ S => (fe ρ S).bind (xfD f)
/-- the classes whose instances may be asked for f -/
structure XfD (K : PySem.W.Frag) (mg : Str → Option Value) (f : Str) (cs : List Str) : Prop where
  all : ∀ c ∈ cs, ∃ C, mg c = some (.ref C) ∧ ExI K C ∧ PySem.W.findIn K (.ref C) f = some none
def xfC (cs : List Str) (f : Str) (d : D) : M D := fun S => match d with
  | .exc c _ _ => if cs.contains c then xfD f d S else .stuck
  | _ => .stuck
def mXfC (cs : List Str) (f : Str) (fe : EM) : EM := fun ρ S => (fe ρ S).bind (xfC cs f)
theorem d_xf {f : Str} {cs : List Str} (hx : XfD X.K X.mg f cs) (he : DE X W e fe) (hb : attributeBase e f X.env (eval e X.env) = eval e X.env := by rfl) : DE X W (.Attribute e f pos) (mXfC cs f fe) := by
  refine ⟨fun pins s σ H Q I ⟨P, ρ, F, μ, S, en, rl, k⟩ => ?_⟩
  refine attr_of hb (thn (he.run pins s σ H _ I (tD.run en rl (Fin.imp (Fin.bind (rep := repD (gX X)) k) (fun v H1 z => z) fun _ _ _ z => z))) fun u s1 ⟨v, H1, I1, rv, d, F1, μ1, S1, g1, r1, p1, k1⟩ => ?_)
  unfold xfC at k1
  cases d <;> first | exact k1.elim | skip
  rename_i c ns ds
  simp only at k1
  split at k1
  · rename_i hc
    unfold xfD at k1
    simp only at k1
    cases q : (ns.zip ds).lookup f with
    | none => rw [q] at k1; exact k1.elim
    | some y =>
      rw [q] at k1
      obtain ⟨C, hm, hC, hno⟩ := hx.all c (List.contains_iff_mem.mp hc)
      obtain ⟨a, C', ox, od, rfl, hm', J, hf⟩ := exc_inst I1 r1 p1
      rw [hm] at hm'; cases hm'
      cases rv
      obtain ⟨oo, z, w, rfl, h1, h2, h3⟩ := hf f y q
      exact HandSPX.exc_get I1.kIn J hC.ga hC.gt hC.sb (PySem.W.findObj_own hC.hd hno rfl h1) (handed_of h2) ⟨z, H1, I1.tok _, h2, k1.here r1 h3⟩
  · exact k1.elim
end
end DL

/-! The data layer, 11: repr of numbers of up to 4,300 digits, also within lists and tuples. -/
namespace DL
open PySem PySem.Spec PyProof.Rows L2

mutual
def fewB : PyData → Bool
  | .none => true
  | .bool _ => true
  | .str _ => true
  | .int i => decide (i.natAbs < 10 ^ 4300)
  | .list xs => fewsB xs
  | .tuple xs => fewsB xs
  | .dict _ => false
def fewsB : List PyData → Bool
  | [] => true
  | x :: xs => fewB x && fewsB xs
end
section
variable {prog : Program} {w : World} {h0 : Heap}
theorem big_int {A : Around} {E : Value → Shared → Prop} {s : Shared} {i : Int} {t : Tok} {Q : Value → Shared → Prop} (hn : s.heap.NoDigits) (hi : i.natAbs < 10 ^ 4300) (hu : A.units < cLine) (h : Q (.str (toString i) s.toks) { s with toks := s.toks + 1 }) :
    wpAny (model prog w) A (pyReprObj (.int i t)) Q E s := by
  refine wpAny_pyReprObj_slot hu (typeIs_int s i t) PySem.F.slot_int_repr.toG (wpAny_call_entry PySem.F.slot_int_repr (typeIs_int s i t) PySem.F.entry_int_repr ?_ (PySem.F.args_int_repr_1 _))
  unfold Builtin.«int.__repr__»
  show wpAny _ _ (do let q ← Builtin.overDigitLimit? i; _) _ _ s
  exact wpAny_bind (overDigitLimit_any hn (fun _ => wpAny_bind (wpAny_mkStr (wpAny_pure ⟨_, rfl, _, _, rfl, h⟩) (int_text_fits10 hi))) (fun z => absurd hi (Nat.not_lt.mpr z)))
theorem big_leaf {i : Int} {t : Tok} (nd : h0.NoDigits) (hi : i.natAbs < 10 ^ 4300) (bs : List Addr) (n : Nat) : ReprK prog w bs h0 n (.int i t) (toString i) := by
  intro b hb A g E s Q hg hc hu hk hQ
  rw [pyReprUnder_leaf (v := .int i t) (by omega) (fun a e => nomatch e)]
  unfold pyRepr
  exact wpAny_bind (big_int (nd.keeps hk) hi (by omega) (wpAny_pure (hQ s.heap _ fun _ _ e => e)))
mutual
theorem bigK (nd : h0.NoDigits) : ∀ {v : Value} {d : PyData} {as : List Addr}, Reads h0 v d as → fewB d = true → d.shown.length ≤ sizeLine → ∃ bs, ReadAtMost h0 d.depth bs ∧ ReprK prog w bs h0 d.depth v d.shown
  | _, _, _, .none, _, _ => ⟨[], nofun, by rw [PyData.shown]; exact .of_is ReprIs.none _ _ _⟩
  | _, _, _, .bool b, _, _ => ⟨[], nofun, by rw [PyData.shown]; exact .of_is (ReprIs.bool b) _ _ _⟩
  | _, _, _, .int i t, hf, _ => ⟨[], nofun, by rw [PyData.shown]; exact big_leaf nd (by simpa [fewB] using hf) _ _⟩
  | _, _, _, .str x t, _, hz => ⟨[], nofun, by rw [PyData.shown] at hz ⊢; exact .of_is (ReprIs.str x t hz) _ _ _⟩
  | _, _, _, .list (a := a) (vs := vs) (xs := xs) h1 h2 h3 h4, hf, hz => by
    rw [PyData.shown] at hz
    obtain ⟨bs, b1, b2⟩ := bigsK nd h4 (by simpa [fewB] using hf) fun t m => Nat.le_trans (listText_mem_le m) hz
    have rd : Reads h0 (.ref a) (.list xs) _ := .list h1 h2 h3 h4
    have out : a ∉ bs := not_mem_of_deeper rd (by rw [PyData.depth]; omega) b1
    refine ⟨a :: bs, ReadAtMost.cons rd (by rw [PyData.depth]; omega) b1, ?_⟩
    rw [PyData.depth, PyData.shown]
    rcases vs with ⟨_ | ⟨y, l⟩⟩
    · cases (show ReadsAll h0 [] xs _ from h4)
      rw [PyData.shownAll, listText_nil]
      exact .listEmpty h1 h2 h3
    · exact .list h1 h2 h3 out (by simpa using b2.length_eq) fun i z e => b2.item i z (by simpa using e)
  | _, _, _, .tuple (a := a) (xs := xs) h1 h2 h3 h4, hf, hz => by
    rw [PyData.shown] at hz
    obtain ⟨bs, b1, b2⟩ := bigsK nd h4 (by simpa [fewB] using hf) fun t m => Nat.le_trans (tupleText_mem_le m) hz
    have rd : Reads h0 (.ref a) (.tuple xs) _ := .tuple h1 h2 h3 h4
    have out : a ∉ bs := not_mem_of_deeper rd (by rw [PyData.depth]; omega) b1
    refine ⟨a :: bs, ReadAtMost.cons rd (by rw [PyData.depth]; omega) b1, ?_⟩
    rw [PyData.depth, PyData.shown]
    exact .tuple h1 h2 h3 out b2
  | _, _, _, .dict .., hf, _ => by simp [fewB] at hf
theorem bigsK (nd : h0.NoDigits) : ∀ {vs : List Value} {ds : List PyData} {as : List Addr}, ReadsAll h0 vs ds as → fewsB ds = true → (∀ t ∈ PyData.shownAll ds, t.length ≤ sizeLine) →
    ∃ bs, ReadAtMost h0 (PyData.depthAll ds) bs ∧ ReprAllK prog w bs h0 (PyData.depthAll ds) vs (PyData.shownAll ds)
  | _, _, _, .nil, _, _ => ⟨[], nofun, by rw [PyData.shownAll]; exact .nil⟩
  | _, _, _, .cons (d := d) (ds := ds) r rs, hf, hz => by
    rw [PyData.shownAll] at hz
    simp only [fewsB, Bool.and_eq_true] at hf
    obtain ⟨b1, m1, k1⟩ := bigK nd r hf.1 (hz _ List.mem_cons_self)
    obtain ⟨b2, m2, k2⟩ := bigsK nd rs hf.2 fun t m => hz t (List.mem_cons_of_mem _ m)
    have le1 : d.depth ≤ PyData.depthAll (d :: ds) := by rw [PyData.depthAll]; exact Nat.le_max_left _ _
    have le2 : PyData.depthAll ds ≤ PyData.depthAll (d :: ds) := by rw [PyData.depthAll]; exact Nat.le_max_right _ _
    refine ⟨b1 ++ b2, (m1.mono le1).append (m2.mono le2), ?_⟩
    rw [PyData.shownAll]
    exact .cons ((k1.more fun b m => List.mem_append_left _ m).level_le le1) (k2.more_le (fun b m => List.mem_append_right _ m) le2)
end
/-- repr(v) -/
theorem big_repr {A : Around} {E : Value → Shared → Prop} {s : Shared} {Q : Value → Shared → Prop} {v : Value} {d : PyData} {as : List Addr} (r : Reads s.heap v d as) (nd : s.heap.NoDigits) (hf : fewB d = true) (hz : d.shown.length ≤ sizeLine) (hg : A.guards = some []) (hu : A.units + d.depth + 1 < cLine)
    (q : ∀ h' u tk, (∀ b o, s.heap.get? b = some o → h'.get? b = some o) → Q (.str d.shown u) { s with heap := h', toks := tk }) : wpAny (model prog w) A (call (.builtin "repr") [v]) Q E s := by
  cases r with
  | none => exact PySem.P.repr_of_none (q s.heap _ _ fun _ _ e => e)
  | bool b => exact PySem.P.repr_of_bool (q s.heap _ _ fun _ _ e => e)
  | int i t =>
    have hi : i.natAbs < 10 ^ 4300 := by simpa [fewB] using hf
    refine call_repr_slot (by omega) (typeIs_int s i t) PySem.F.slot_int_repr.toG (wpAny_call_entry PySem.F.slot_int_repr (typeIs_int s i t) PySem.F.entry_int_repr ?_ (PySem.F.args_int_repr_1 _))
    unfold Builtin.«int.__repr__»
    show wpAny _ _ (do let q ← Builtin.overDigitLimit? i; _) _ _ s
    exact wpAny_bind (overDigitLimit_any nd (fun _ => wpAny_bind (wpAny_mkStr (wpAny_pure ⟨_, rfl, _, _, rfl, q s.heap _ _ fun _ _ e => e⟩) (int_text_fits10 hi))) (fun z => absurd hi (Nat.not_lt.mpr z)))
  | str x t =>
    rw [PyData.shown] at hz
    exact PySem.P.repr_of_str (q s.heap _ _ fun _ _ e => e) hz
  | @list o a vs n xs bs0 h1 h2 h3 h4 =>
    rw [PyData.shown] at hz
    rw [PyData.depth] at hu
    obtain ⟨bs, b1, b2⟩ := bigsK (prog := prog) (w := w) nd h4 (by simpa [fewB] using hf) fun t m => Nat.le_trans (listText_mem_le m) hz
    have out := not_mem_of_deeper (.list h1 h2 h3 h4) (n := PyData.depthAll xs) (bs := bs) (by rw [PyData.depth]; omega) b1
    refine call_repr_slot (by omega) ⟨_, h1, h2⟩ PySem.F.slot_list_repr.toG ?_
    rcases vs with ⟨_ | ⟨y, l⟩⟩
    · cases (show ReadsAll s.heap [] xs _ from h4)
      rw [PyData.shown, PyData.shownAll, listText_nil] at q
      exact call_list_repr_empty ⟨_, h1, h2⟩ h1 h3 ⟨_, _, rfl, q s.heap _ _ fun _ _ e => e⟩
    · rw [PyData.shown] at q
      exact call_list_reprK h1 h2 h3 out (by simpa using b2.length_eq) (fun i z e => b2.item i z (by simpa using e)) hg (fun b _ => Clear.nil b) (by show A.units + 1 + _ < cLine; omega) (fun _ _ e => e) (fun h' u tk k => ⟨_, _, rfl, q h' u tk k⟩) hz
  | tuple h1 h2 h3 h4 =>
    rename_i xs
    rw [PyData.shown] at hz
    rw [PyData.depth] at hu
    obtain ⟨bs, b1, b2⟩ := bigsK (prog := prog) (w := w) nd h4 (by simpa [fewB] using hf) fun t m => Nat.le_trans (tupleText_mem_le m) hz
    have out := not_mem_of_deeper (.tuple h1 h2 h3 h4) (n := PyData.depthAll xs) (bs := bs) (by rw [PyData.depth]; omega) b1
    rw [PyData.shown] at q
    exact call_repr_slot (by omega) ⟨_, h1, h2⟩ PySem.F.slot_tuple_repr (call_tuple_reprK h1 h2 h3 out b2 hg (fun b _ => Clear.nil b) (by show A.units + 1 + _ < cLine; omega) (fun _ _ e => e) (fun h' u tk k => ⟨_, _, rfl, q h' u tk k⟩) hz)
  | dict => simp [fewB] at hf
end
/-- repr(x) -/
def reprD (x : D) : M D := fun S => if plain 63 (derD x S) && fewB (toPy (derD x S)) && decide ((toPy (derD x S)).shown.length ≤ sizeLine) then .ok (.str (toPy (derD x S)).shown) S else .stuck
theorem nd_here {X : Cx} {pins : List (Addr × Obj)} {σ : L2.St} {H : Hp} {s : Shared} (I : Inv X pins σ H s) (nd : X.base.NoDigits) : s.heap.NoDigits := nd.keeps I.bk
theorem cd_repr {X : Cx} (nd : X.base.NoDigits) (hg : X.A.guards = some []) (hu : X.A.units + 64 < cLine) : CallD X (.builtin "repr") (one reprD) := by
  intro pins s σ H vs us Q I rv ⟨ds, P, F, μ, S, E, rl, rx, k⟩
  obtain ⟨d, v, rfl, p, k⟩ := one_fin k rx
  unfold reprD at k
  split at k
  · rename_i hc
    simp only [Bool.and_eq_true, decide_eq_true_eq] at hc
    obtain ⟨⟨h1, h2⟩, h3⟩ := hc
    obtain ⟨u, rfl, ru⟩ := vals1 rv
    obtain ⟨as, rd⟩ := Dp.reads I _ v u (der_dp rl (plain_up h1) p) ru
    obtain ⟨_, hd⟩ := plain_lay 63 _ h1
    exact big_repr rd (nd_here I nd) h2 h3 hg (by omega) fun h' u tk hk => ⟨.str _, H, I.kept (t' := tk) hk, ⟨_, rfl⟩, k.here rl rep_str⟩
  · exact k.elim
end DL

/-! The data layer, 12: what the top tells of classes and names; augmented assignments; extend. -/
namespace DL
open PySem PySem.Spec PyProof.Rows L2

inductive Each {α : Type} (P : α → Prop) : List α → Prop where
  | nil : Each P []
  | cons {a : α} {l : List α} (h : P a) (t : Each P l) : Each P (a :: l)
theorem Each.mem {α : Type} {P : α → Prop} {l : List α} (e : Each P l) : ∀ a ∈ l, P a := by
  induction e with
  | nil => intro a h; simp at h
  | cons h t ih =>
    intro a m
    rcases List.mem_cons.mp m with rfl | m
    · exact h
    · exact ih a m
def NsK (K : PySem.W.Frag) (x : Str) (C : Addr) : Prop := PySem.W.nsIn K mainGlobals x = some (some (.ref C))
theorem nsK {K : PySem.W.Frag} {x : Str} {C : Addr} (h : PySem.W.nsIn K mainGlobals x = some (some (.ref C))) : NsK K x C := h
theorem NsK.eq {K : PySem.W.Frag} {x : Str} {C D : Addr} (a : NsK K x C) (b : NsK K x D) : C = D := by
  unfold NsK at a b
  rw [a] at b
  injection b with b
  injection b with b
  injection b
/-- an own exception class -/
def XcK (K : PySem.W.Frag) (c : Str) : Prop := ∃ C, NsK K c C ∧ ExI K C
theorem xcK {K : PySem.W.Frag} {c : Str} {C : Addr} (n : PySem.W.nsIn K mainGlobals c = some (some (.ref C))) (h2 : PySem.W.findIn K (.ref C) "__getattribute__" = some (some (.builtin "BaseException.__getattribute__"))) (h3 : PySem.W.findIn K (.ref C) "__getattr__" = some none)
    (h4 : PySem.W.subIn K (.ref C) (.type "BaseException") = some true) (h5 : PySem.W.findIn K (.ref C) "__class__" = some (some (.builtin "object.__class__"))) (h6 : PySem.W.specialIn K (.builtin "object.__class__") "__get__" = some (some (.builtin "getset_descriptor.__get__")))
    (h7 : PySem.W.takesIn K (.builtin "object.__class__") = some true) (h8 : PySem.W.mroIn K C (.type "object") = some true) (h9 : PySem.W.hasDictIn K C = true) : XcK K c := ⟨C, n, (by obtain ⟨cd, e, _⟩ := PySem.W.any_some h9; rw [e]; rfl), h2, h3, h4, h5, h6, h7, h8, h9⟩
/-- isinstance of an exception of the class p.1 by the class x, by the built-in type T -/
def IsPK (K : PySem.W.Frag) (x : Str) (p : Str × Bool) : Prop := ∃ CS C, NsK K x CS ∧ NsK K p.1 C ∧ PySem.W.kitOne K (.ref C) (.ref CS) = some p.2
def IsTK (K : PySem.W.Frag) (T : String) (p : Str × Bool) : Prop := ∃ C, NsK K p.1 C ∧ PySem.W.kitOne K (.ref C) (.type T) = some p.2
/-- an except clause -/
def CaPK (K : PySem.W.Frag) (x c : Str) : Prop := ∃ CS C, NsK K x CS ∧ NsK K c C ∧ PySem.W.exmOne K (.ref C) (.ref CS) = some true
/-- the field f of the class c's exceptions -/
def XfPK (K : PySem.W.Frag) (f c : Str) : Prop := ∃ C, NsK K c C ∧ PySem.W.findIn K (.ref C) f = some none
theorem isPK {K : PySem.W.Frag} {x c : Str} {b : Bool} {CS C : Addr} (h1 : PySem.W.nsIn K mainGlobals x = some (some (.ref CS))) (h2 : PySem.W.nsIn K mainGlobals c = some (some (.ref C))) (h3 : PySem.W.kitOne K (.ref C) (.ref CS) = some b) : IsPK K x (c, b) := ⟨CS, C, h1, h2, h3⟩
theorem isTK {K : PySem.W.Frag} {T : String} {c : Str} {b : Bool} {C : Addr} (h2 : PySem.W.nsIn K mainGlobals c = some (some (.ref C))) (h3 : PySem.W.kitOne K (.ref C) (.type T) = some b) : IsTK K T (c, b) := ⟨C, h2, h3⟩
theorem caPK {K : PySem.W.Frag} {x c : Str} {CS C : Addr} (h1 : PySem.W.nsIn K mainGlobals x = some (some (.ref CS))) (h2 : PySem.W.nsIn K mainGlobals c = some (some (.ref C))) (h3 : PySem.W.exmOne K (.ref C) (.ref CS) = some true) : CaPK K x c := ⟨CS, C, h1, h2, h3⟩
theorem xfPK {K : PySem.W.Frag} {f c : Str} {C : Addr} (h2 : PySem.W.nsIn K mainGlobals c = some (some (.ref C))) (h3 : PySem.W.findIn K (.ref C) f = some none) : XfPK K f c := ⟨C, h2, h3⟩
section
variable {K : PySem.W.Frag} {h : Heap} {mg : Str → Option Value}
theorem mem_lookup {tab : List (Str × Bool)} {c : Str} {b : Bool} (e : tab.lookup c = some b) : (c, b) ∈ tab := by
  induction tab with
  | nil => simp at e
  | cons p l ih =>
    obtain ⟨a, d⟩ := p
    simp only [List.lookup_cons] at e
    cases q : c == a with
    | true =>
      rw [q] at e
      cases e
      have : c = a := by simpa using q
      subst this
      exact List.mem_cons_self
    | false =>
      rw [q] at e
      exact List.mem_cons_of_mem _ (ih e)
theorem isCD_of (X : K.In h) (G : h.Ns mainGlobals mg) {x : Str} {tab : List (Str × Bool)} {CS : Addr} (hx : NsK K x CS) (hz : Each (XcK K) (tab.map (·.1))) (hp : Each (IsPK K x) tab) : IsCD K mg x tab :=
  ⟨CS, PySem.W.mg_of X G hx, ⟨fun c b e => by
    have m := mem_lookup e
    obtain ⟨C, n1, n2⟩ := hz.mem c (List.mem_map.mpr ⟨_, m, rfl⟩)
    obtain ⟨CS', C', n3, n4, n5⟩ := hp.mem _ m
    cases hx.eq n3
    cases n1.eq n4
    exact ⟨C, PySem.W.mg_of X G n1, n2, n5⟩⟩⟩
theorem isT_of (X : K.In h) (G : h.Ns mainGlobals mg) {T : String} {tab : List (Str × Bool)} (hz : Each (XcK K) (tab.map (·.1))) (hp : Each (IsTK K T) tab) : IsT K mg (.type T) tab :=
  ⟨fun c b e => by
    have m := mem_lookup e
    obtain ⟨C, n1, n2⟩ := hz.mem c (List.mem_map.mpr ⟨_, m, rfl⟩)
    obtain ⟨C', n4, n5⟩ := hp.mem _ m
    cases n1.eq n4
    exact ⟨C, PySem.W.mg_of X G n1, n2, n5⟩⟩
theorem isT_nil {T : String} : IsT K mg (.type T) [] := ⟨fun c b e => by simp at e⟩
theorem catD_of (X : K.In h) (G : h.Ns mainGlobals mg) {x : Str} {cs : List Str} {CS : Addr} (hx : NsK K x CS) (hp : Each (CaPK K x) cs) : CatD K mg x cs :=
  ⟨CS, PySem.W.mg_of X G hx, fun c m => by
    obtain ⟨CS', C, n3, n4, n5⟩ := hp.mem _ m
    cases hx.eq n3
    exact ⟨C, PySem.W.mg_of X G n4, n5⟩⟩
theorem xfD_of (X : K.In h) (G : h.Ns mainGlobals mg) {f : Str} {cs : List Str} (hz : Each (XcK K) cs) (hp : Each (XfPK K f) cs) : XfD K mg f cs :=
  ⟨fun c m => by
    obtain ⟨C, n1, n2⟩ := hz.mem c m
    obtain ⟨C', n3, n4⟩ := hp.mem c m
    cases n1.eq n3
    exact ⟨C, PySem.W.mg_of X G n1, n2, n4⟩⟩
/-- x, a second name of the def y -/
def SameK (K : PySem.W.Frag) (x y : Str) : Prop := ∃ f, NsK K x f ∧ NsK K y f
theorem sameK {x y : Str} {f : Addr} (a : PySem.W.nsIn K mainGlobals x = some (some (.ref f))) (b : PySem.W.nsIn K mainGlobals y = some (some (.ref f))) : SameK K x y := ⟨f, a, b⟩
theorem SameK.cal {P : Program} {w : World} {base : Heap} {k n : Nat} {x y : Str} {m : List D → M D} (s : SameK K x y) (X : K.In h) (G : h.Ns mainGlobals mg) (c : Cal P w K mg base k y n m) : Cal P w K mg base k x n m := by
  obtain ⟨f, n1, n2⟩ := s
  obtain ⟨f', fd, ps, h1, h2, h3, h4, h5⟩ := c.ex
  rw [PySem.W.mg_of X G n2] at h1
  cases h1
  exact ⟨f, fd, ps, PySem.W.mg_of X G n1, h2, h3, h4, h5⟩
/-- a constant of the module -/
def GlobV (K : PySem.W.Frag) (d : D) (u : Value) : Prop := ∃ v, RelV v u ∧ ∀ (g : G) (F : Hp) (μ : List Addr), g.K = K → Rep g F μ d v
inductive GlobVs (K : PySem.W.Frag) : List D → List Value → Prop where
  | nil : GlobVs K [] []
  | cons {d : D} {u : Value} {ds : List D} {us : List Value} (h : GlobV K d u) (t : GlobVs K ds us) : GlobVs K (d :: ds) (u :: us)
theorem globV_int {i : Int} {t : Tok} : GlobV K (.int i) (.int i t) := ⟨.int i, ⟨t, rfl⟩, fun _ _ _ _ => rep_int⟩
theorem globV_str {x : Str} {t : Tok} : GlobV K (.str x) (.str x t) := ⟨.str x, ⟨t, rfl⟩, fun _ _ _ _ => rep_str⟩
theorem globV_tup {ds : List D} {a : Addr} {us : List Value} {n : Nat} {sl : Array (Option Value)} (l : K.lookup a = some ⟨.type "tuple", none, .seq us.toArray n, sl⟩) (h : GlobVs K ds us) (hz : ds.length ≤ sizeLine) : GlobV K (.tup ds) (.ref a) := by
  have key : ∃ xs, Vals xs us ∧ xs.length = ds.length ∧ ∀ (g : G) (F : Hp) (μ : List Addr), g.K = K → Reps g F μ ds xs := by
    clear hz l
    induction h with
    | nil => exact ⟨[], .nil, rfl, fun _ _ _ _ => reps_nil⟩
    | cons h t ih =>
      obtain ⟨v, h1, h2⟩ := h
      obtain ⟨xs, h3, h4, h5⟩ := ih
      exact ⟨v :: xs, .cons h1 h3, by simp [h4], fun g F μ e => reps_cons (h2 g F μ e) (h5 g F μ e)⟩
  obtain ⟨xs, h1, h2, h3⟩ := key
  refine ⟨.ref a, rfl, fun g F μ e => ?_⟩
  simp only [Rep]
  subst e
  refine ⟨a, xs, rfl, ⟨.inr ⟨_, us.toArray, n, l, rfl, rfl, ?_, by simpa using h1⟩, ⟨_, rfl, .inr l⟩⟩, h3 g F μ rfl⟩
  have := h1.length
  simp; omega
def GlobK (K : PySem.W.Frag) (x : Str) (d : D) : Prop := ∃ u, PySem.W.nsIn K mainGlobals x = some (some u) ∧ GlobV K d u
theorem globK {x : Str} {d : D} {u : Value} (a : PySem.W.nsIn K mainGlobals x = some (some u)) (b : GlobV K d u) : GlobK K x d := ⟨u, a, b⟩
theorem GlobK.glob {x : Str} {d : D} (k : GlobK K x d) (X : K.In h) (G : h.Ns mainGlobals mg) : GlobD ⟨K, mg⟩ x d := by
  obtain ⟨u, a, v, r, p⟩ := k
  exact ⟨v, u, PySem.W.mg_of X G a, r, fun F μ => p _ F μ rfl⟩
end
/-- a + b, a list that will change -/
def addN (x y : D) : M D := fun S => match lstOf x S, lstOf y S with
  | some a, some b => if a.length + b.length ≤ sizeLine then .ok (.ref S.length) (S ++ [.lst (a ++ b)]) else .stuck
  | _, _ => .stuck
theorem od_addN {X : Cx} : OpD X (binaryOp .Add) addN := by
  intro pins s σ H v w u u' Q I rv rw ⟨x, y, P, F, μ, S, E, rl, rx, ry, k⟩
  unfold addN at k
  split at k
  · rename_i a b ea eb
    split at k
    · rename_i hc
      obtain ⟨a', xs, e1, h1, p1⟩ := lstOf_rep rl ea rx
      obtain ⟨b', ys, e2, h2, p2⟩ := lstOf_rep rl eb ry
      have l1 := p1.length
      have l2 := p2.length
      exact op_catQ pins s σ H _ _ _ _ Q I rv rw ⟨a', b', xs, ys, e1, e2, h1, h2, by omega, fun p hp => k.newR rl (p1.append p2) hp⟩
    · exact k.elim
  · exact k.elim
end DL

/-! The data layer, 13: dicts at places: comprehensions, d[k]. -/
namespace DL
open PySem PySem.Spec PyProof.Rows L2

def keyOf : D → Option Key
  | .int i => some (.inl i)
  | .str x => some (.inr x)
  | _ => none
theorem keyOf_rep {g : G} {F : Hp} {μ : List Addr} {d : D} {k : Key} {v : V} (e : keyOf d = some k) (h : Rep g F μ d v) : v = kV k := by
  cases d <;> cases e
  · exact h.int
  · exact h.str
/-- the value of a key -/
def getK : List Key → List D → Key → Option D
  | n :: ks, d :: ds, k => if n = k then some d else getK ks ds k
  | _, _, _ => none
theorem getK_rep {g : G} {F : Hp} {μ : List Addr} {k : Key} : ∀ {ks : List Key} {ds : List D} {xs : List V} {d : D}, Reps g F μ ds xs → getK ks ds k = some d → ∃ v, valV (ks.zip xs) k = some v ∧ Rep g F μ d v
  | [], _, _, _, _, e => by simp [getK] at e
  | _ :: _, [], _, _, _, e => by simp [getK] at e
  | n :: ks, x :: ds, xs, d, h, e => by
    simp only [Reps] at h
    obtain ⟨v, vs, rfl, h1, h2⟩ := h
    unfold getK at e
    split at e
    · rename_i q
      cases e
      exact ⟨v, valV_pos q, h1⟩
    · rename_i q
      obtain ⟨w, h3, h4⟩ := getK_rep (ks := ks) h2 e
      exact ⟨w, (valV_neg (p := (n, v)) q).trans h3, h4⟩
def dgetD (x y : D) : M D := fun S => match x with
  | .ref n => match S[n]? with
    | some (.dct ks ds) => match keyOf y with
      | some k => match getK ks ds k with
        | some d => .ok d S
        | none => .stuck
      | none => .stuck
    | _ => .stuck
  | _ => .stuck
section
variable {X : Cx} {W : WX} {a b : Expr} {fa fb : EM} {pos : Pos}
theorem d_dget (hu : X.A.units + 65 < cLine) (ha : DE X W a fa) (hb : DE X W b fb) (hs : NoSl b := by exact fun _ _ => rfl) : DE X W (.Subscript a b pos) (mOp dgetD fa fb) := by
  refine PE.weak (pe_dget (by omega) ha hb hs) fun σ H Q ⟨P, ρ, F, μ, S, en, rl, k⟩ => ?_
  refine tD.run en rl (Fin.imp (Fin.bind (rep := repD (gX X)) k) (fun v H1 ⟨x, F1, μ1, S1, g1, r1, p1, k1⟩ => ?_) fun _ _ _ z => z)
  refine tD.run (en.mono g1) r1 (Fin.imp (Fin.bind (rep := repD (gX X)) k1) (fun w H2 ⟨y, F2, μ2, S2, g2, r2, p2, k2⟩ => ?_) fun _ _ _ z => z)
  have px := p1.mono g2
  unfold dgetD at k2
  cases x <;> first | exact k2.elim | skip
  rename_i nn
  simp only at k2
  split at k2
  · rename_i ks ds q
    split at k2
    · rename_i key qk
      split at k2
      · rename_i d qd
        simp only [Rep] at px
        obtain ⟨p, h1, rfl⟩ := px
        rcases r2.live _ _ p q h1 with ⟨z, _⟩ | ⟨u, _, hu', hob⟩
        · cases z
        · obtain ⟨xs, hx, hr, hl⟩ := hob
          subst hx
          obtain ⟨v', h2, h3⟩ := getK_rep hr qd
          exact ⟨p, v', rfl, by rw [keyOf_rep qk p2, ← h2]; exact DGet.k hu', k2.here r2 h3⟩
      · exact k2.elim
    · exact k2.elim
  · exact k2.elim
end
/-- the loop of a dict comprehension -/
def mDcA (gm : GM) (tt : BM) (tk tv : EM) (ρ : Env) : List D → List Key → List D → M (List Key × List D)
  | [], ks, vs, S => .ok (ks, vs) S
  | d :: ds, ks, vs, S => match gm d ρ S with
    | none => .stuck
    | some x => (tt x.1 x.2).nx.bind fun b S => if b then (tk x.1 S).nx.bind fun kd S => (tv x.1 S).nx.bind fun vd S => match keyOf kd with
      | some k => if ks.any (fun q => decide (q = k)) then .stuck else mDcA gm tt tk tv ρ ds (ks ++ [k]) (vs ++ [vd]) S
      | none => .stuck
      else mDcA gm tt tk tv ρ ds ks vs S
def mDc (vs : List Nat) (fi : IM) (gm : GM) (tt : BM) (tk tv : EM) : EM := fun ρ S => (fi ρ S).bind fun ds S => if ds.length ≤ sizeLine then (mDcA gm tt tk tv (wipeD ρ vs) ds [] [] S).bind fun r S => .ok (.ref S.length) (S ++ [.dct r.1 r.2]) else .stuck
theorem putK_new {ks : List Key} {xs : List V} {k : Key} {v : V} (hl : ks.length = xs.length) (h : k ∉ ks) : putK (ks.zip xs) k v = (ks ++ [k]).zip (xs ++ [v]) := by
  unfold putK
  have : ((ks.zip xs).any fun kv => decide (kv.1 = k)) = false := by
    rw [List.any_eq_false]
    intro p hp
    have := List.of_mem_zip hp
    simp only [decide_eq_true_eq]
    intro e
    exact h (e ▸ this.1)
  rw [this, if_neg Bool.false_ne_true, List.zip_append hl]
  rfl
theorem dc_run {g : G} {W : WX} {gm : GM} {tt : BM} {tk tv : EM} {fi : IM} {vs : List Nat} : ∀ σ H Q, tD g W (mDc vs fi gm tt tk tv) σ H Q → tDc (tDI g W fi) (tDGw g vs gm) (tDB g W0 tt) (tD g W0 tk) (tD g W0 tv) vs σ H Q := fun σ H Q ⟨P, ρ, F, μ, S, en, rl, k⟩ => by
  refine ⟨P, ρ, F, μ, S, en, rl, Fin.imp (Fin.bind (rep := repI g) k) (fun J H1 ⟨ds, F1, μ1, S1, g1, r1, w, k1⟩ => ?_) fun _ _ _ z => z⟩
  split at k1
  rotate_left
  · exact k1.elim
  rename_i hlen
  intro Dl hD
  have nP : P Dl = none := by
    cases e : P Dl with
    | none => rfl
    | some u => rw [(r1.priv Dl u e).1] at hD; cases hD
  refine ⟨fun i m H => m = ds.length - i ∧ i ≤ ds.length ∧ ∃ ks acc accD F μ S, Rel g (upd P Dl (.dK (ks.zip acc))) F μ S H ∧ Gr F1 μ1 F μ ∧ Reps g F μ accD acc ∧ ks.length = acc.length ∧ acc.length ≤ i ∧
    Fin (repD g) g P F μ ((mDcA gm tt tk tv (wipeD ρ vs) (ds.drop i) ks accD S).bind fun r S => .ok (.ref S.length) (S ++ [.dct r.1 r.2])) Q (fun c d H' => W c d σ H'),
    ⟨ds.length, by simp, Nat.zero_le _, [], [], [], F1, μ1, S1, r1.hide hD, Gr.refl _ _, reps_nil, rfl, Nat.zero_le _, by simpa using k1⟩, ?_⟩
  rintro i m H2 ⟨rfl, hi, ks, acc, accD, F2, μ2, S2, r2, g2, pa, hkl, hl, k2⟩
  by_cases hlt : i < ds.length
  · refine .inr ⟨w.goes _ F2 μ2 S2 H2 i g2 r2 hlt, _, fun H' p' => ⟨ds.length - (i + 1), by omega, p'⟩, fun x H' y => ?_⟩
    obtain ⟨F3, g3, r3, rp⟩ := w.yields _ F2 μ2 S2 H2 i ds[i] x H' g2 r2 (by simp [hlt]) y
    rw [List.drop_eq_getElem_cons hlt] at k2
    unfold mDcA at k2
    cases q : gm ds[i] (wipeD ρ vs) S2 with
    | none => rw [q] at k2; exact k2.elim
    | some z =>
      rw [q] at k2
      simp only at k2
      have enw : EnvR g F3 μ2 (wipeD ρ vs) (L2.wipe σ vs) := ((en.mono (g1.trans g2)).mono g3).wipe vs
      refine ⟨ds[i], _, wipeD ρ vs, F3, μ2, S2, z.1, z.2, enw, r3, rp, q, fun F4 μ4 H4 σ4 g4 r4 en4 w4 => ?_⟩
      refine ⟨?_, ?_⟩
      · rw [w4]
        have key : ∀ (σ : L2.St) (ws us : List Nat), (∀ u ∈ us, u ∈ ws) → L2.wipe (L2.wipe σ us) ws = L2.wipe σ ws := by
          intro σ ws us
          induction us with
          | nil => intro _; rfl
          | cons u us ih =>
            intro h
            show L2.wipe ((L2.wipe σ us).set u none) ws = _
            rw [wipe_set (h u List.mem_cons_self)]
            exact ih fun v hv => h v (List.mem_cons_of_mem _ hv)
        exact key σ vs vs fun _ h => h
      · cases qt : tt z.1 z.2 with
        | stuck => rw [qt] at k2; exact k2.elim
        | exn e S5 => rw [qt] at k2; exact k2.elim
        | ok b S5 =>
          rw [qt] at k2
          refine tDB.run en4 r4 ?_
          rw [qt]
          intro F5 μ5 H5 b' g5 r5 eb
          cases eb
          simp only [R.nx_ok, R.bind_ok] at k2
          have g25 := (g3.trans g4).trans g5
          cases b with
          | false =>
            refine iteF ⟨rfl, hlt, ks, acc, accD, F5, μ5, S5, r5, g2.trans g25, pa.mono g25, hkl, Nat.le_succ_of_le hl, Fin.gr g25 ?_⟩
            simpa using k2
          | true =>
            simp only [if_true] at k2
            refine iteT ?_
            cases qe : tk z.1 S5 with
            | stuck => rw [qe] at k2; exact k2.elim
            | exn e S6 => rw [qe] at k2; exact k2.elim
            | ok kd S6 =>
              rw [qe] at k2
              simp only [R.nx_ok, R.bind_ok] at k2
              refine tD.run (en4.mono g5) r5 ?_
              rw [qe]
              intro F6 μ6 H6 vk g6 r6 pk
              cases qv : tv z.1 S6 with
              | stuck => rw [qv] at k2; exact k2.elim
              | exn e S7 => rw [qv] at k2; exact k2.elim
              | ok vd S7 =>
                rw [qv] at k2
                simp only [R.nx_ok, R.bind_ok] at k2
                refine tD.run ((en4.mono g5).mono g6) r6 ?_
                rw [qv]
                intro F7 μ7 H7 vv g7 r7 pv
                cases qk : keyOf kd with
                | none => rw [qk] at k2; exact k2.elim
                | some key =>
                  rw [qk] at k2
                  simp only at k2
                  split at k2
                  · exact k2.elim
                  · rename_i hnew
                    have hn : key ∉ ks := fun m => hnew (List.any_eq_true.mpr ⟨key, m, decide_eq_true rfl⟩)
                    have g27 := (g25.trans g6).trans g7
                    refine ⟨ks.zip acc, key, keyOf_rep qk pk, (r7.priv Dl _ upd_same).1, by rw [List.length_zip]; have := Nat.lt_of_le_of_lt hl hlt; omega, rfl, hlt, ks ++ [key], acc ++ [vv], accD ++ [vd], F7, μ7, S7, ?_, g2.trans g27, (pa.mono g27).append (reps_cons pv reps_nil), by simp [hkl], by rw [List.length_append, List.length_singleton]; omega, Fin.gr g27 k2⟩
                    have := r7.hidden (o' := .dK ((ks ++ [key]).zip (acc ++ [vv]))) (upd_same (H := P) (a := Dl) (o := .dK (ks.zip acc)))
                    rw [upd_upd] at this
                    rw [putK_new hkl hn]
                    exact this
  · have e : i = ds.length := by omega
    subst e
    rw [List.drop_length] at k2
    simp only [mDcA, R.bind_ok] at k2
    refine .inl ⟨w.stops _ F2 μ2 S2 H2 g2 r2, ?_⟩
    have g0 : Gr F2 μ2 F2 (μ2 ++ [Dl]) := ⟨fun _ _ h => h, fun n q h => by
      have : n < μ2.length := (List.getElem?_eq_some_iff.mp h).1
      rw [List.getElem?_append_left this]; exact h⟩
    obtain ⟨r4, g4, e4⟩ := r2.place (P' := P) (u := .dK (ks.zip acc)) (o := .dct ks accD) upd_same (fun a o e => by rw [upd_ne (ne_of_none e nP)]; exact e) nP ⟨acc, rfl, pa.mono g0, by rw [hkl, ← pa.length]⟩
    exact (Fin.gr g4 k2).here r4 (by simp only [Rep]; exact ⟨Dl, e4, rfl⟩)
section
variable {X : Cx} {W : WX} {kx vx tg iter : Expr} {ifs : List Expr} {scope : Scope} {own : List (Str × Nat)} {pos : Pos} {fi : IM} {gm : GM} {tt : BM} {tk tv : EM}
theorem d_dc (hc : X.calm = true) (hN : X.N.Nodup) (hi : DI X W tg iter fi) (ok : BlkOk X.N X.env.scope scope own)
    (hg : ∀ (s : Shared) (H : Hp) (C : Addr) (cl : List (Str × Addr)) (fp : List Addr), DGw (X.blk s H scope (compEnvC scope cl C X.env) fp) (own.map (·.2)) tg gm) (ht : ∀ (s : Shared) (H : Hp) (C : Addr) (cl : List (Str × Addr)) (fp : List Addr), DT (X.blk s H scope (compEnvC scope cl C X.env) fp) W0 ifs tt)
    (hk : ∀ (s : Shared) (H : Hp) (C : Addr) (cl : List (Str × Addr)) (fp : List Addr), DE (X.blk s H scope (compEnvC scope cl C X.env) fp) W0 kx tk)
    (he : ∀ (s : Shared) (H : Hp) (C : Addr) (cl : List (Str × Addr)) (fp : List Addr), DE (X.blk s H scope (compEnvC scope cl C X.env) fp) W0 vx tv) (hs : ∀ x, foldedSetIterable iter X.env x = pure x := by intro _; rfl) :
    DE X W (.DictComp kx vx [⟨tg, iter, ifs, 0⟩] scope pos) (mDc (own.map (·.2)) fi gm tt tk tv) := PE.weak (pe_dc hc hN hi ok hg ht hk he hs) dc_run
end
end DL

/-! The data layer, 14: walks over a list at a place (it must stand, turn for turn). -/
namespace DL
open PySem PySem.Spec PyProof.Rows L2

open Classical in
noncomputable def mLcLS (n : Nat) (l : List D) (gm : GM) (tt : BM) (te : EM) (ρ : Env) : List D → M (List D)
  | [], S => if S[n]? = some (.lst l) then .ok [] S else .stuck
  | d :: ds, S => if S[n]? = some (.lst l) then (match gm d ρ S with
    | none => .stuck
    | some x => (tt x.1 x.2).nx.bind fun b S => if b then (te x.1 S).nx.bind fun y S => (mLcLS n l gm tt te ρ ds S).bind fun ys S => .ok (y :: ys) S else mLcLS n l gm tt te ρ ds S) else .stuck
/-- the place of a list -/
def placeD (d : D) : M (Nat × List D) := fun S => match d with
  | .ref n => match S[n]? with
    | some (.lst l) => .ok (n, l) S
    | _ => .stuck
  | _ => .stuck
noncomputable def mLcS (fin : List D → M D) (vs : List Nat) (fe : EM) (gm : GM) (tt : BM) (te : EM) : EM := fun ρ S => (fe ρ S).bind fun d S => (placeD d S).bind fun z S => if z.2.length ≤ sizeLine then (mLcLS z.1 z.2 gm tt te (wipeD ρ vs) z.2 S).bind fin else .stuck
theorem placeD_eq {d : D} {S : Store} (h : placeD d S ≠ .stuck) : ∃ n l, d = .ref n ∧ S[n]? = some (.lst l) ∧ placeD d S = .ok (n, l) S := by
  unfold placeD at h ⊢
  cases d <;> first | exact absurd rfl h | skip
  rename_i n
  simp only at h ⊢
  cases q : S[n]? with
  | none => rw [q] at h; exact absurd rfl h
  | some o =>
    cases o with
    | lst l => exact ⟨n, l, rfl, q, rfl⟩
    | ins _ _ _ => rw [q] at h; exact absurd rfl h
    | dct _ _ => rw [q] at h; exact absurd rfl h
    | dead => rw [q] at h; exact absurd rfl h
theorem place_at {g : G} {P F F' : Hp} {μ μ' : List Addr} {S : Store} {H : Hp} {n : Nat} {l : List D} {a : Addr} (r : Rel g P F' μ' S H) (gr : Gr F μ F' μ') (hm : μ[n]? = some a) (e : S[n]? = some (.lst l)) : ∃ xs, SqL g.K H a xs ∧ Reps g F' μ' l xs := by
  rcases r.live n _ a e (gr.m _ _ hm) with ⟨z, _⟩ | ⟨u, _, hu, xs, hx, hr⟩
  · cases z
  · subst hx
    exact ⟨xs, .of hu, hr⟩
theorem lcS_run {g : G} {W : WX} {fin : List D → M D} (hfin : FinL g fin) {gm : GM} {tt : BM} {te fe : EM} {vs : List Nat} : ∀ σ H Q, tD g W (mLcS fin vs fe gm tt te) σ H Q → tLc (iList g.K (tD g W fe)) (tDGw g vs gm) (tDB g W0 tt) (tD g W0 te) vs σ H Q := fun σ H Q ⟨P, ρ, F, μ, S, en, rl, k⟩ => by
  refine tD.run en rl (Fin.imp (Fin.bind (rep := repD g) k) (fun v H1 ⟨d, F1, μ1, S1, g1, r1, p1, k1⟩ => ?_) fun _ _ _ z => z)
  by_cases hst : placeD d S1 = .stuck
  · rw [hst] at k1; exact k1.elim
  obtain ⟨n, l, rfl, hS, hp⟩ := placeD_eq hst
  rw [hp] at k1
  simp only [R.bind_ok] at k1
  obtain ⟨a, xs0, rfl, hm, hH, hr0⟩ := p1.refL r1 hS
  split at k1
  rotate_left
  · exact k1.elim
  rename_i hlen
  refine ⟨a, rfl, ⟨xs0, .of hH⟩, ?_⟩
  intro Dl hD
  have nP : P Dl = none := by
    cases e : P Dl with
    | none => rfl
    | some u => rw [(r1.priv Dl u e).1] at hD; cases hD
  refine ⟨fun i m H => m = l.length - i ∧ i ≤ l.length ∧ ∃ acc accD F μ S, Rel g (upd P Dl (.lst acc)) F μ S H ∧ Gr F1 μ1 F μ ∧ Reps g F μ accD acc ∧ acc.length ≤ i ∧
    Fin (repD g) g P F μ ((mLcLS n l gm tt te (wipeD ρ vs) (l.drop i) S).bind fun ys S => fin (accD ++ ys) S) Q (fun c d H' => W c d σ H'),
    ⟨_, rfl, Nat.zero_le _, [], [], F1, μ1, S1, r1.hide hD, Gr.refl _ _, reps_nil, Nat.zero_le _, by simpa using k1⟩, ?_⟩
  rintro i m H2 ⟨rfl, hi, acc, accD, F2, μ2, S2, r2, g2, pa, hl, k2⟩
  by_cases hlt : i < l.length
  · rw [List.drop_eq_getElem_cons hlt] at k2
    unfold mLcLS at k2
    by_cases hS2 : S2[n]? = some (.lst l)
    rotate_left
    · rw [if_neg hS2] at k2; exact k2.elim
    rw [if_pos hS2] at k2
    obtain ⟨xs, hsq, hr⟩ := place_at r2 g2 hm hS2
    obtain ⟨v, hv, hrep⟩ := hr.get (show l[i]? = some l[i] by simp [hlt])
    refine .inr ⟨⟨xs, v, hsq, hv⟩, _, fun H' p' => ⟨l.length - (i + 1), by omega, p'⟩, fun x H' y => ?_⟩
    obtain ⟨rfl, y⟩ := y
    have hx := y xs hsq
    rw [hv] at hx
    cases hx
    cases q : gm l[i] (wipeD ρ vs) S2 with
    | none => rw [q] at k2; exact k2.elim
    | some z =>
      rw [q] at k2
      simp only at k2
      have enw : EnvR g F2 μ2 (wipeD ρ vs) (L2.wipe σ vs) := (en.mono (g1.trans g2)).wipe vs
      refine ⟨l[i], _, wipeD ρ vs, F2, μ2, S2, z.1, z.2, enw, r2, hrep, q, fun F4 μ4 H4 σ4 g4 r4 en4 w4 => ⟨?_, ?_⟩⟩
      · rw [w4]
        have key : ∀ (σ : L2.St) (ws us : List Nat), (∀ u ∈ us, u ∈ ws) → L2.wipe (L2.wipe σ us) ws = L2.wipe σ ws := by
          intro σ ws us
          induction us with
          | nil => intro _; rfl
          | cons u us ih =>
            intro h
            show L2.wipe ((L2.wipe σ us).set u none) ws = _
            rw [wipe_set (h u List.mem_cons_self)]
            exact ih fun v hv => h v (List.mem_cons_of_mem _ hv)
        exact key σ vs vs fun _ h => h
      · cases qt : tt z.1 z.2 with
        | stuck => rw [qt] at k2; exact k2.elim
        | exn e S5 => rw [qt] at k2; exact k2.elim
        | ok b S5 =>
          rw [qt] at k2
          refine tDB.run en4 r4 ?_
          rw [qt]
          intro F5 μ5 H5 b' g5 r5 eb
          cases eb
          simp only [R.nx_ok, R.bind_ok] at k2
          have g25 := g4.trans g5
          cases b with
          | false =>
            refine iteF ⟨rfl, hlt, acc, accD, F5, μ5, S5, r5, g2.trans g25, pa.mono g25, Nat.le_succ_of_le hl, Fin.gr g25 ?_⟩
            simpa using k2
          | true =>
            simp only [if_true] at k2
            refine iteT ?_
            cases qe : te z.1 S5 with
            | stuck => rw [qe] at k2; exact k2.elim
            | exn e S6 => rw [qe] at k2; exact k2.elim
            | ok yv S6 =>
              rw [qe] at k2
              simp only [R.nx_ok, R.bind_ok] at k2
              refine tD.run (en4.mono g5) r5 ?_
              rw [qe]
              intro F6 μ6 H6 vy g6 r6 py
              have g26 := g25.trans g6
              refine ⟨acc, (r6.priv Dl _ upd_same).1, by have := Nat.lt_of_le_of_lt hl hlt; omega, rfl, hlt, acc ++ [vy], accD ++ [yv], F6, μ6, S6, ?_, g2.trans g26, (pa.mono g26).append (reps_cons py reps_nil), by rw [List.length_append, List.length_singleton]; omega, Fin.gr g26 ?_⟩
              · have := r6.hidden (o' := .lst (acc ++ [vy])) (upd_same (H := P) (a := Dl) (o := .lst acc))
                rw [upd_upd] at this
                exact this
              · have e : ((mLcLS n l gm tt te (wipeD ρ vs) (l.drop (i + 1)) S6).bind fun ys S => (R.ok (yv :: ys) S)).bind (fun ys S => fin (accD ++ ys) S) = (mLcLS n l gm tt te (wipeD ρ vs) (l.drop (i + 1)) S6).bind fun ys S => fin ((accD ++ [yv]) ++ ys) S := by
                  cases mLcLS n l gm tt te (wipeD ρ vs) (l.drop (i + 1)) S6 <;> simp
                rw [← e]
                exact k2
  · have e : i = l.length := by omega
    subst e
    rw [List.drop_length] at k2
    unfold mLcLS at k2
    by_cases hS2 : S2[n]? = some (.lst l)
    rotate_left
    · rw [if_neg hS2] at k2; exact k2.elim
    rw [if_pos hS2] at k2
    simp only [R.bind_ok, List.append_nil] at k2
    obtain ⟨xs, hsq, hr⟩ := place_at r2 g2 hm hS2
    exact .inl ⟨⟨xs, hsq, Nat.le_of_eq hr.length.symm⟩, hfin P F2 μ2 S2 H2 Dl acc accD Q _ r2 nP pa k2⟩
section
variable {X : Cx} {W : WX} {elt tg iter : Expr} {ifs : List Expr} {scope : Scope} {own : List (Str × Nat)} {pos : Pos} {fe : EM} {gm : GM} {tt : BM} {te : EM}
theorem d_lcS {fin : List D → M D} (hfin : FinL (gX X) fin) (hc : X.calm = true) (hN : X.N.Nodup) (hi : DE X W iter fe) (ok : BlkOk X.N X.env.scope scope own)
    (hg : ∀ (s : Shared) (H : Hp) (C : Addr) (cl : List (Str × Addr)) (fp : List Addr), DGw (X.blk s H scope (compEnvC scope cl C X.env) fp) (own.map (·.2)) tg gm) (ht : ∀ (s : Shared) (H : Hp) (C : Addr) (cl : List (Str × Addr)) (fp : List Addr), DT (X.blk s H scope (compEnvC scope cl C X.env) fp) W0 ifs tt)
    (he : ∀ (s : Shared) (H : Hp) (C : Addr) (cl : List (Str × Addr)) (fp : List Addr), DE (X.blk s H scope (compEnvC scope cl C X.env) fp) W0 elt te) (hs : ∀ x, foldedSetIterable iter X.env x = pure x := by intro _; rfl) :
    DE X W (.ListComp elt [⟨tg, iter, ifs, 0⟩] scope pos) (mLcS fin (own.map (·.2)) fe gm tt te) := PE.weak (pe_lc hc hN (pi_list hi) ok hg ht he hs) (lcS_run hfin)
end
theorem Reps.rep {g : G} {F : Hp} {μ : List Addr} {ds : List D} {xs : List V} (h : Reps g F μ ds xs) : ∀ k : Nat, Reps g F μ (List.replicate k ds).flatten (List.replicate k xs).flatten
  | 0 => reps_nil
  | k + 1 => by
    rw [List.replicate_succ, List.replicate_succ, List.flatten_cons, List.flatten_cons]
    exact h.append (Reps.rep h k)
/-- [a, ..] * k, k written -/
def mRep (k : Int) (fa : AM) : EM := fun ρ S => (fa ρ S).bind fun l S => if l.length ≤ sizeLine ∧ -(2 ^ 63) ≤ k ∧ k < 2 ^ 63 ∧ l.length * k.toNat ≤ sizeLine then .ok (.lst (List.replicate k.toNat l).flatten) S else .stuck
theorem d_rep {X : Cx} {W : WX} {es : List Expr} {fa : AM} {k : Int} {j} {p1 p2 pos : Pos} (h : DA X W es fa) : DE X W (.BinOp (.List es p1) .Mult (.Constant (.int k) j p2) pos) (mRep k fa) := by
  refine PE.weak (pe_op op_rep (pe_lst h) pe_int) fun σ H Q ⟨P, ρ, F, μ, S, en, rl, q⟩ => ?_
  refine tDA.run en rl (Fin.imp (Fin.bind (rep := repA (gX X)) q) (fun vs H1 ⟨a, F1, μ1, S1, g1, r1, p1, k1⟩ => ?_) fun _ _ _ z => z)
  split at k1
  · rename_i hc
    have hl := p1.length
    refine ⟨by rw [← hl]; exact hc.1, fun p hp => ⟨p, k, vs, rfl, rfl, upd_same, hc.2.1, hc.2.2.1, by rw [← hl]; exact hc.2.2.2, fun p' hp' => ?_⟩⟩
    exact k1.newL (r1.more (o := .lst vs) hp) (p1.rep k.toNat) hp'
  · exact k1.elim
end DL

/-! The data layer, 15: sorted of tuples of ints; comprehensions with two clauses. -/
namespace DL
open PySem PySem.Spec PyProof.Rows L2

/-! ### sorted -/
def intOf : D → Option Int
  | .int i => some i
  | _ => none
def intsOfD : List D → Option (List Int)
  | [] => some []
  | d :: ds => match intOf d, intsOfD ds with
    | some i, some is => some (i :: is)
    | _, _ => none
def faceOf : D → Option (List Int)
  | .tup l => intsOfD l
  | _ => none
def facesOf : List D → Option (List (List Int))
  | [] => some []
  | d :: ds => match faceOf d, facesOf ds with
    | some f, some fs => some (f :: fs)
    | _, _ => none
def faceD (f : List Int) : D := .tup (f.map .int)
def sameLen : List (List Int) → Bool
  | [] => true
  | f :: fs => decide (1 ≤ f.length) && fs.all fun g => g.length == f.length
def leF (a b : List Int) : Bool := !HT.lexLt b a
def sortF (l : List (List Int)) : List (List Int) := l.mergeSort leF
def sortedD (x : D) : M D := fun S => match lstOf x S with
  | some l => match facesOf l with
    | some fs => if sameLen fs then .ok (.lst ((sortF fs).map faceD)) S else .stuck
    | none => .stuck
  | none => .stuck
theorem intsOfD_eq : ∀ {ds : List D} {is : List Int}, intsOfD ds = some is → ds = is.map D.int
  | [], _, e => by cases e; rfl
  | d :: ds, is, e => by
    unfold intsOfD at e
    split at e
    · rename_i i is' q1 q2
      cases e
      cases d <;> first | (cases q1; done) | skip
      cases q1
      rw [intsOfD_eq q2]; rfl
    · cases e
theorem facesOf_eq : ∀ {ds : List D} {fs : List (List Int)}, facesOf ds = some fs → ds = fs.map faceD
  | [], _, e => by cases e; rfl
  | d :: ds, fs, e => by
    unfold facesOf at e
    split at e
    · rename_i f fs' q1 q2
      cases e
      cases d <;> first | (cases q1; done) | skip
      rw [facesOf_eq q2, List.map_cons, faceD, intsOfD_eq q1]
    · cases e
theorem intsOfD_map : ∀ is : List Int, intsOfD (is.map D.int) = some is
  | [] => rfl
  | i :: is => by simp [intsOfD, intOf, intsOfD_map is]
theorem facesOf_map : ∀ fs : List (List Int), facesOf (fs.map faceD) = some fs
  | [] => rfl
  | f :: fs => by
    rw [List.map_cons, facesOf, facesOf_map fs, faceD, faceOf, intsOfD_map f]
theorem sameLen_all {fs : List (List Int)} (h : sameLen fs = true) : ∃ d, fs = [] ∨ (1 ≤ d ∧ ∀ f ∈ fs, f.length = d) := by
  cases fs with
  | nil => exact ⟨0, .inl rfl⟩
  | cons f fs =>
    simp only [sameLen, Bool.and_eq_true, decide_eq_true_eq, List.all_eq_true, beq_iff_eq] at h
    exact ⟨f.length, .inr ⟨h.1, fun g hg => by
      rcases List.mem_cons.mp hg with rfl | hg
      · rfl
      · exact h.2 g hg⟩⟩
/-- lists of ints, neither before the other -/
theorem lex_anti : ∀ (x y : List Int), HT.lexLt x y = false → HT.lexLt y x = false → x = y
  | [], [], _, _ => rfl
  | [], y :: ys, h, _ => by rw [HT.lexLt_nil_cons] at h; cases h
  | x :: xs, [], _, h => by rw [HT.lexLt_nil_cons] at h; cases h
  | x :: xs, y :: ys, h1, h2 => by
    rw [HT.lexLt_cons] at h1 h2
    by_cases e : x = y
    · rw [if_pos e] at h1
      rw [if_pos e.symm] at h2
      rw [e, lex_anti xs ys h1 h2]
    · rw [if_neg e] at h1
      rw [if_neg (Ne.symm e)] at h2
      have := of_decide_eq_false h1
      have := of_decide_eq_false h2
      omega
theorem leF_tot (a b : List Int) : (leF a b || leF b a) = true := by
  unfold leF
  cases h : HT.lexLt b a with
  | false => rfl
  | true => rw [NtL.lex_asym _ _ h]; rfl
theorem leF_tr (a b c : List Int) (h1 : leF a b = true) (h2 : leF b c = true) : leF a c = true := by
  unfold leF at *
  simp only [Bool.not_eq_true'] at *
  exact NtL.lex_tr _ _ _ h1 h2
theorem sortF_perm (l : List (List Int)) : (sortF l).Perm l := List.mergeSort_perm l leF
theorem sortF_sorted (l : List (List Int)) : (sortF l).Pairwise fun a b => HT.lexLt b a = false := by
  refine (List.pairwise_mergeSort leF_tr leF_tot l).imp fun {a b} h => ?_
  simpa [leF] using h
/-- two sorted rearrangements are one -/
theorem sorted_uniq : ∀ {l m : List (List Int)}, l.Perm m → (l.Pairwise fun a b => HT.lexLt b a = false) → (m.Pairwise fun a b => HT.lexLt b a = false) → l = m
  | [], m, p, _, _ => (List.Perm.eq_nil p.symm).symm
  | x :: l, [], p, _, _ => absurd p.length_eq (by simp)
  | x :: l, y :: m, p, h1, h2 => by
    have a1 : HT.lexLt x y = false := by
      rcases List.mem_cons.mp (p.mem_iff.mp (List.mem_cons_self (a := x) (l := l))) with e | e
      · rw [e]; exact (NtL.swo_lexL (fun z : List Int => z)).refl y
      · exact (List.pairwise_cons.mp h2).1 x e
    have a2 : HT.lexLt y x = false := by
      rcases List.mem_cons.mp (p.mem_iff.mpr (List.mem_cons_self (a := y) (l := m))) with e | e
      · rw [e]; exact (NtL.swo_lexL (fun z : List Int => z)).refl x
      · exact (List.pairwise_cons.mp h1).1 y e
    have e := lex_anti x y a1 a2
    subst e
    rw [sorted_uniq p.cons_inv (List.pairwise_cons.mp h1).2 (List.pairwise_cons.mp h2).2]
theorem sortF_eq {l m : List (List Int)} (p : m.Perm l) (h : m.Pairwise fun a b => HT.lexLt b a = false) : sortF l = m :=
  sorted_uniq ((sortF_perm l).trans p.symm) (sortF_sorted l) h

section
variable {prog : Program} {w : World} {A : Around} {E : Value → Shared → Prop} {s : Shared} {Q : Bool → Shared → Prop}
theorem face_lex {b : Bool} {xs ys : List Value} {ns ms : List Int} (hx : IntsAre xs ns) (hy : IntsAre ys ms) : ∀ (i : Nat), ns.length = ms.length → Q (HT.lexLt ns ms) s → PySem.W.KatLex prog w A b false Q (xs.zip ys) i s := by
  induction hx generalizing ys ms with
  | nil =>
    intro i hl h
    cases hy with
    | nil => exact PySem.W.kat_nil h
    | cons q u hy => simp at hl
  | @cons p t xs ns hx ih =>
    intro i hl h
    cases hy with
    | nil => simp at hl
    | @cons q u ys ms hy =>
      rw [List.zip_cons_cons]
      rw [HT.lexLt_cons] at h
      refine PySem.W.kat_cons (wpAny_eqBool_int ?_)
      by_cases e : p = q
      · rw [if_pos e] at h
        rw [e, beq_self_eq_true]
        exact PySem.W.kat_yes (ih hy (i + 1) (by simpa using hl) h)
      · rw [if_neg e] at h
        rw [beq_eq_false_iff_ne.mpr e]
        exact PySem.W.kat_no (TS.oneLt_ints _ h)
/-- what is sorted: tuples of d ints each -/
def FacesAt (h : Heap) (d : Nat) (k : Value → List Int) (vs : List Value) : Prop := ∀ v ∈ vs, TS.TupInts h v (k v) ∧ (k v).length = d
theorem faces_first {h : Heap} {d : Nat} {k : Value → List Int} (hd : 1 ≤ d) : ∀ vs : List Value, FacesAt h d k vs → ∃ fs, PySem.W.KatTups h vs fs ∧ fs.length = vs.length ∧ ∀ f ∈ fs, ∃ n t, f = Value.int n t
  | [], _ => ⟨[], .nil, rfl, by simp⟩
  | v :: vs, x => by
    obtain ⟨fs, kk, hl, hi⟩ := faces_first hd vs fun u hu => x u (List.mem_cons_of_mem _ hu)
    obtain ⟨⟨a, xs, hv, ⟨o, ho, hc, n, hdt⟩, i⟩, hn⟩ := x v List.mem_cons_self
    subst hv
    have hne : xs.toList ≠ [] := fun e => by
      rw [e] at i
      have := i.length
      rw [hn] at this
      simp at this
      omega
    obtain ⟨y, ys, e⟩ := List.exists_cons_of_ne_nil hne
    obtain ⟨m, t, hy⟩ := i.all y (by rw [e]; exact List.mem_cons_self)
    refine ⟨y :: fs, PySem.W.KatTups.cons ho hc hdt ?_ kk, by simp [hl], fun f hf => ?_⟩
    · have z : xs.toList[0]? = some y := by rw [e]; rfl
      simpa using z
    · rcases List.mem_cons.mp hf with rfl | hf
      · exact ⟨m, t, hy⟩
      · exact hi f hf
theorem faces_sortable {a : Addr} {vs : List Value} {d : Nat} {k : Value → List Int} (hd : 1 ≤ d) (h0 : 0 < vs.length) (hp : FacesAt s.heap d k vs) (ha : ∀ o, s.heap.get? a = some o → o.cls ≠ .type "tuple") : SrtO.SortableO prog w A s a vs fun v u => HT.lexLt (k v) (k u) := by
  intro h' keep
  have hp' : FacesAt h' d k vs := fun v hm => ⟨(hp v hm).1.keeps fun b o e c => keep b o (fun z => by subst z; exact ha o e c) e, (hp v hm).2⟩
  obtain ⟨fs, k1, k2, k3⟩ := faces_first hd vs hp'
  refine ⟨tuples' true, fun Q E hq => ?_, ?_⟩
  rotate_left
  · intro p q hm hm'
    obtain ⟨⟨a1, xs, e1, ⟨o1, ho1, hc1, n1, hd1⟩, i1⟩, l1⟩ := hp' _ hm
    obtain ⟨⟨a2, ys, e2, ⟨o2, ho2, hc2, n2, hd2⟩, i2⟩, l2⟩ := hp' _ hm'
    show wpAny (model prog w) A (keyLt' (tuples' true) p.1 q.1) (fun r s' => s' = { s with heap := h' } ∧ r = HT.lexLt (k p.1) (k q.1)) (fun _ _ => False) { s with heap := h' }
    rw [e1] at i1 l1 ⊢
    rw [e2] at i2 l2 ⊢
    refine PySem.W.kat_lt ho1 hd1 ho2 hd2 ?_
    have q1 := i1.length
    have q2 := i2.length
    rw [Array.length_toList] at q1 q2
    rw [show decide (xs.size < ys.size) = false from decide_eq_false (by omega)]
    exact face_lex i1 i2 0 (by omega) ⟨rfl, rfl⟩
  · refine PySem.W.kat_kind (T := .type "int") k1 (by omega) (fun f hf => ?_) (by rfl) ?_
    · obtain ⟨x, t, rfl⟩ := k3 f hf
      exact PySem.W.Looks.now
    · have e : (Value.type "int" != Value.type "tuple") = true := by decide +kernel
      rw [e]
      exact hq
end
/-- what stands for faces: references to tuples of these ints -/
theorem faces_reps {g : G} {F : Hp} {μ : List Addr} : ∀ {fs : List (List Int)} {xs : List V}, Reps g F μ (fs.map faceD) xs → (∀ x ∈ xs, ∃ a, x = V.ref a) ∧ fs.length = xs.length
  | [], xs, h => by
    simp only [List.map_nil, Reps] at h
    subst h
    exact ⟨by simp, rfl⟩
  | f :: fs, xs, h => by
    simp only [List.map_cons, Reps, faceD, Rep] at h
    obtain ⟨v, vs, rfl, ⟨a, _, rfl, _⟩, h2⟩ := h
    obtain ⟨q1, q2⟩ := faces_reps h2
    refine ⟨fun x hx => ?_, by simp [q2]⟩
    rcases List.mem_cons.mp hx with rfl | hx
    · exact ⟨a, rfl⟩
    · exact q1 x hx
theorem sorted_back {h : Heap} {g : G} {F : Hp} {μ : List Addr} : ∀ {fs : List (List Int)} {us : List Value}, Reps g F μ (fs.map faceD) (us.map backV) → (∀ f ∈ fs, ∀ u ∈ us, Rep g F μ (faceD f) (backV u) → TS.TupInts h u f) → (∀ u ∈ us, ∃ f ∈ fs, Rep g F μ (faceD f) (backV u) ∧ TS.intsOf h u = f) ∧ us.map (TS.intsOf h) = fs
  | [], us, r, _ => by
    simp only [List.map_nil, Reps, List.map_eq_nil_iff] at r
    subst r
    exact ⟨by simp, rfl⟩
  | f :: fs, [], r, _ => by
    simp only [List.map_cons, List.map_nil, Reps] at r
    obtain ⟨v, vs, e, _⟩ := r
    cases e
  | f :: fs, u :: us, r, k => by
    simp only [List.map_cons, Reps] at r
    obtain ⟨v, vs, e, r1, r2⟩ := r
    cases e
    obtain ⟨q1, q2⟩ := sorted_back r2 fun f' hf u' hu => k f' (List.mem_cons_of_mem _ hf) u' (List.mem_cons_of_mem _ hu)
    have t := (k f List.mem_cons_self u List.mem_cons_self r1).ints
    refine ⟨fun u' hu => ?_, by rw [List.map_cons, t, q2]⟩
    rcases List.mem_cons.mp hu with rfl | hu
    · exact ⟨f, List.mem_cons_self, r1, t⟩
    · obtain ⟨f', hf', w⟩ := q1 u' hu
      exact ⟨f', List.mem_cons_of_mem _ hf', w⟩
theorem reps_int_eq {g : G} {F : Hp} {μ : List Addr} : ∀ (f : List Int) {ys : List V}, Reps g F μ (f.map .int) ys → ys = f.map V.int
  | [], ys, h => by simpa only [List.map_nil, Reps] using h
  | i :: f, ys, h => by
    simp only [List.map_cons, Reps, Rep] at h
    obtain ⟨v, vs, rfl, rfl, h2⟩ := h
    rw [reps_int_eq f h2, List.map_cons]
theorem reps_sorted {h : Heap} {g : G} {F : Hp} {μ : List Addr} : ∀ {out : List Value}, (∀ u ∈ out, Rep g F μ (faceD (TS.intsOf h u)) (backV u)) → Reps g F μ ((out.map (TS.intsOf h)).map faceD) (out.map backV)
  | [], _ => reps_nil
  | u :: out, k => reps_cons (k u List.mem_cons_self) (reps_sorted fun w hw => k w (List.mem_cons_of_mem _ hw))
section
variable {X : Cx}
theorem cd_sorted : CallD X (.builtin "sorted") (one sortedD) := by
  intro pins s σ H vs us Q I r h
  obtain ⟨ds, P, F, μ, S, E, rl, rx, k⟩ := h
  obtain ⟨d, v, rfl, p, k⟩ := one_fin k rx
  unfold sortedD at k
  split at k
  rotate_left
  · exact k.elim
  rename_i l hl
  split at k
  rotate_left
  · exact k.elim
  rename_i fs hfs
  split at k
  rotate_left
  · exact k.elim
  rename_i hsame
  obtain ⟨a, xs, rfl, hs, hr⟩ := lstOf_rep rl hl p
  rw [facesOf_eq hfs] at hr
  obtain ⟨its, rv, hL, hz⟩ := I.list hs
  obtain ⟨u, rfl, ru⟩ := vals1 r
  obtain rfl : u = Value.ref a := ru
  obtain ⟨f1, f2⟩ := faces_reps hr
  obtain ⟨e1, e2⟩ := refs_back rv f1
  rw [e1] at hr
  have tup : ∀ f ∈ fs, ∀ u ∈ its, Rep (gX X) F μ (faceD f) (backV u) → TS.TupInts s.heap u f := fun f _ u hu rp => by
    obtain ⟨b, rfl⟩ := e2 u hu
    simp only [faceD, Rep, backV] at rp
    obtain ⟨b', ys, eb, ⟨hq, _⟩, hr'⟩ := rp
    cases eb
    obtain ⟨us', rv', ht, _⟩ := I.tuple (show SqT X.K H b ys from sqT_mono (g := gX X) rl.gr0 hq)
    have ey : ys = f.map V.int := reps_int_eq f hr'
    rw [ey] at rv'
    exact ⟨b, us'.toArray, rfl, ht, intsAre_of rv'⟩
  obtain ⟨b1, b2⟩ := sorted_back hr tup
  obtain ⟨dd, hd⟩ := sameLen_all hsame
  have O : SrtO.Swo fun v u : Value => HT.lexLt (TS.intsOf s.heap v) (TS.intsOf s.heap u) := NtL.swo_lexL _
  refine SrtO.sorted_ord (ltv := fun v u => HT.lexLt (TS.intsOf s.heap v) (TS.intsOf s.heap u)) O hL.isList (by rw [← rv.length]; exact hz) (fun h2 h₁ a₁ ha kk => ?_) fun out hs' hb => ?_
  · rcases hd with hd | ⟨hd1, hd2⟩
    · subst hd
      rw [List.map_eq_nil_iff] at b2
      rw [b2] at h2
      simp at h2
    · refine faces_sortable (s := { s with heap := h₁ }) (d := dd) hd1 (by omega) (fun v hm => ?_) fun o e => ?_
      · obtain ⟨f, hf, hrep, hi⟩ := b1 v hm
        rw [hi]
        exact ⟨(tup f hf v hm hrep).keeps fun b o e _ => (kk b o e).2, hd2 f hf⟩
      · have e' : some o = some (seqObj "list" its.toArray 0) := e.symm.trans ha
        cases e'
        intro c
        exact absurd (Value.type.inj c) (by decide)
  · have h3 : ∀ u ∈ out, ∃ a, u = Value.ref a := fun u hu => e2 u (hb.perm.mem_iff.mp hu)
    obtain ⟨n, hn⟩ := sortedAll_at s.heap its out.toArray
    have hso : sortF fs = out.map (TS.intsOf s.heap) := by
      refine sortF_eq ?_ ?_
      · rw [← b2]
        exact hb.perm.map _
      · rw [List.pairwise_map]
        exact hs'
    have hrep : Reps (gX X) F μ ((sortF fs).map faceD) (out.map backV) := by
      rw [hso]
      refine reps_sorted fun u hu => ?_
      obtain ⟨f, _, q1, q2⟩ := b1 u (hb.perm.mem_iff.mp hu)
      rw [q2]; exact q1
    refine ⟨.ref (s.heap.objs.size + 1), upd H (s.heap.objs.size + 1) (.lst (out.map backV)), I.laid (t' := s.toks) (fun b o e => sortedAll_old e) (Nat.le_succ _) ⟨?_, out, n, vals_back h3, hn⟩, rfl, k.newL rl hrep (I.hok.fresh (Nat.le_succ _))⟩
    rw [List.length_map, hb.perm.length_eq, ← rv.length]
    exact hz
end

/-! ### comprehensions with two clauses -/
def mLc2L (vs1 : List Nat) (gm : GM) (tt : BM) (fi1 : IM) (gm1 : GM) (tt1 : BM) (te : EM) (ρ : Env) : List D → M (List D)
  | [], S => .ok [] S
  | d :: ds, S => match gm d ρ S with
    | none => .stuck
    | some x => (tt x.1 x.2).nx.bind fun b S => if b then (fi1 x.1 S).nx.bind fun es S => if es.length ≤ 1000 then (mLcL gm1 tt1 te (wipeD x.1 vs1) es S).bind fun ys S => (mLc2L vs1 gm tt fi1 gm1 tt1 te ρ ds S).bind fun zs S => .ok (ys ++ zs) S else .stuck else mLc2L vs1 gm tt fi1 gm1 tt1 te ρ ds S
def mLc2F (fin : List D → M D) (vs vs1 : List Nat) (fi : IM) (gm : GM) (tt : BM) (fi1 : IM) (gm1 : GM) (tt1 : BM) (te : EM) : EM := fun ρ S => (fi ρ S).bind fun ds S => if ds.length ≤ 10000 then (mLc2L vs1 gm tt fi1 gm1 tt1 te (wipeD ρ vs) ds S).bind fin else .stuck
theorem wipe_wipe : ∀ (σ : L2.St) (ws us : List Nat), (∀ u ∈ us, u ∈ ws) → L2.wipe (L2.wipe σ us) ws = L2.wipe σ ws := by
  intro σ ws us
  induction us with
  | nil => intro _; rfl
  | cons u us ih =>
    intro h
    show L2.wipe ((L2.wipe σ us).set u none) ws = _
    rw [wipe_set (h u List.mem_cons_self)]
    exact ih fun v hv => h v (List.mem_cons_of_mem _ hv)
theorem lc2_run {g : G} {W : WX} {fin : List D → M D} (hfin : FinL g fin) {gm gm1 : GM} {tt tt1 : BM} {te : EM} {fi fi1 : IM} {vs vs1 : List Nat} : ∀ σ H Q, tD g W (mLc2F fin vs vs1 fi gm tt fi1 gm1 tt1 te) σ H Q → tLc2 (tDI g W fi) (tDGw g vs gm) (tDB g W0 tt) (tDI g W0 fi1) (tDGw g vs1 gm1) (tDB g W0 tt1) (tD g W0 te) vs vs1 σ H Q := fun σ H Q ⟨P, ρ, F, μ, S, en, rl, k⟩ => by
  refine ⟨P, ρ, F, μ, S, en, rl, Fin.imp (Fin.bind (rep := repI g) k) (fun J H1 ⟨ds, F1, μ1, S1, g1, r1, w, k1⟩ => ?_) fun _ _ _ z => z⟩
  split at k1
  rotate_left
  · exact k1.elim
  rename_i hlen
  intro Dl hD
  have nP : P Dl = none := by
    cases e : P Dl with
    | none => rfl
    | some u => rw [(r1.priv Dl u e).1] at hD; cases hD
  let Wo : Nat → Nat → Hp → Prop := fun i m H => m = ds.length - i ∧ i ≤ ds.length ∧ ∃ acc accD F μ S, Rel g (upd P Dl (.lst acc)) F μ S H ∧ Gr F1 μ1 F μ ∧ Reps g F μ accD acc ∧ acc.length ≤ 1000 * i ∧
    Fin (repD g) g P F μ ((mLc2L vs1 gm tt fi1 gm1 tt1 te (wipeD ρ vs) (ds.drop i) S).bind fun l S => fin (accD ++ l) S) Q (fun c d H' => W c d σ H')
  refine ⟨Wo, ⟨_, rfl, Nat.zero_le _, [], [], F1, μ1, S1, r1.hide hD, Gr.refl _ _, reps_nil, Nat.zero_le _, k1⟩, ?_⟩
  rintro i m H2 ⟨rfl, hi, acc, accD, F2, μ2, S2, r2, g2, pa, hl, k2⟩
  by_cases hlt : i < ds.length
  · refine .inr ⟨w.goes _ F2 μ2 S2 H2 i g2 r2 hlt, fun H' => Wo (i + 1) (ds.length - (i + 1)) H', fun H' p' => ⟨ds.length - (i + 1), by omega, p'⟩, fun x H' y => ?_⟩
    obtain ⟨F3, g3, r3, rp⟩ := w.yields _ F2 μ2 S2 H2 i ds[i] x H' g2 r2 (by simp [hlt]) y
    rw [List.drop_eq_getElem_cons hlt] at k2
    unfold mLc2L at k2
    cases q : gm ds[i] (wipeD ρ vs) S2 with
    | none => rw [q] at k2; exact k2.elim
    | some z =>
      rw [q] at k2
      simp only at k2
      have enw : EnvR g F3 μ2 (wipeD ρ vs) (L2.wipe σ vs) := ((en.mono (g1.trans g2)).mono g3).wipe vs
      refine ⟨ds[i], _, wipeD ρ vs, F3, μ2, S2, z.1, z.2, enw, r3, rp, q, fun F4 μ4 H4 σ4 g4 r4 en4 w4 => ⟨?_, ?_⟩⟩
      · rw [w4]
        exact wipe_wipe σ vs vs fun _ h => h
      · cases qt : tt z.1 z.2 with
        | stuck => rw [qt] at k2; exact k2.elim
        | exn e S5 => rw [qt] at k2; exact k2.elim
        | ok b S5 =>
          rw [qt] at k2
          refine tDB.run en4 r4 ?_
          rw [qt]
          intro F5 μ5 H5 b' g5 r5 eb
          cases eb
          simp only [R.nx_ok, R.bind_ok] at k2
          have g25 := (g3.trans g4).trans g5
          cases b with
          | false =>
            refine iteF ⟨rfl, hlt, acc, accD, F5, μ5, S5, r5, g2.trans g25, pa.mono g25, by omega, Fin.gr g25 ?_⟩
            simpa using k2
          | true =>
            simp only [if_true] at k2
            refine iteT ?_
            cases qi : fi1 z.1 S5 with
            | stuck => rw [qi] at k2; exact k2.elim
            | exn e S6 => rw [qi] at k2; exact k2.elim
            | ok es S6 =>
              rw [qi] at k2
              simp only [R.nx_ok, R.bind_ok] at k2
              by_cases hes : es.length ≤ 1000
              rotate_left
              · rw [if_neg hes] at k2; exact k2.elim
              rw [if_pos hes] at k2
              refine ⟨upd P Dl (.lst acc), z.1, F5, μ5, S5, en4.mono g5, r5, ?_⟩
              rw [qi]
              intro F6 μ6 H6 J1 g6 r6 w1
              refine ⟨fun j k H => k = es.length - j ∧ j ≤ es.length ∧ ∃ acc accD F μ S, Rel g (upd P Dl (.lst acc)) F μ S H ∧ Gr F6 μ6 F μ ∧ Reps g F μ accD acc ∧ acc.length ≤ 1000 * i + j ∧
                Fin (repD g) g P F μ (((mLcL gm1 tt1 te (wipeD z.1 vs1) (es.drop j) S).bind fun ys S => (mLc2L vs1 gm tt fi1 gm1 tt1 te (wipeD ρ vs) (ds.drop (i + 1)) S).bind fun zs S => .ok (ys ++ zs) S).bind fun l S => fin (accD ++ l) S) Q (fun c d H' => W c d σ H'),
                ⟨_, rfl, Nat.zero_le _, acc, accD, F6, μ6, S6, r6, Gr.refl _ _, (pa.mono g25).mono g6, by omega, Fin.gr (g25.trans g6) k2⟩, ?_⟩
              rintro j kk H7 ⟨rfl, hj, acc7, accD7, F7, μ7, S7, r7, g7, pa7, hl7, k7⟩
              have g27 := (g25.trans g6).trans g7
              by_cases hjl : j < es.length
              · refine .inr ⟨w1.goes _ F7 μ7 S7 H7 j g7 r7 hjl, _, fun H' p' => ⟨es.length - (j + 1), by omega, p'⟩, fun x1 H8 y1 => ?_⟩
                obtain ⟨F8, g8, r8, rp8⟩ := w1.yields _ F7 μ7 S7 H7 j es[j] x1 H8 g7 r7 (by simp [hjl]) y1
                rw [List.drop_eq_getElem_cons hjl] at k7
                unfold mLcL at k7
                cases q1 : gm1 es[j] (wipeD z.1 vs1) S7 with
                | none => rw [q1] at k7; exact k7.elim
                | some z1 =>
                  rw [q1] at k7
                  simp only at k7
                  have enw1 : EnvR g F8 μ7 (wipeD z.1 vs1) (L2.wipe σ4 vs1) := (en4.mono (((g5.trans g6).trans g7).trans g8)).wipe vs1
                  refine ⟨es[j], _, wipeD z.1 vs1, F8, μ7, S7, z1.1, z1.2, enw1, r8, rp8, q1, fun F9 μ9 H9 σ9 g9 r9 en9 w9 => ⟨?_, ?_⟩⟩
                  · rw [w9]
                    exact wipe_wipe σ4 vs1 vs1 fun _ h => h
                  · cases qt1 : tt1 z1.1 z1.2 with
                    | stuck => rw [qt1] at k7; exact k7.elim
                    | exn e S5 => rw [qt1] at k7; exact k7.elim
                    | ok b1 S10 =>
                      rw [qt1] at k7
                      refine tDB.run en9 r9 ?_
                      rw [qt1]
                      intro F10 μ10 H10 b' g10 r10 eb
                      cases eb
                      simp only [R.nx_ok, R.bind_ok] at k7
                      have g710 := (g8.trans g9).trans g10
                      cases b1 with
                      | false =>
                        refine iteF ⟨rfl, hjl, acc7, accD7, F10, μ10, S10, r10, g7.trans g710, pa7.mono g710, by omega, Fin.gr g710 ?_⟩
                        simpa using k7
                      | true =>
                        simp only [if_true] at k7
                        refine iteT ?_
                        cases qe : te z1.1 S10 with
                        | stuck => rw [qe] at k7; exact k7.elim
                        | exn e S6 => rw [qe] at k7; exact k7.elim
                        | ok yv S11 =>
                          rw [qe] at k7
                          simp only [R.nx_ok, R.bind_ok] at k7
                          refine tD.run (en9.mono g10) r10 ?_
                          rw [qe]
                          intro F11 μ11 H11 vy g11 r11 py
                          have g711 := g710.trans g11
                          refine ⟨acc7, (r11.priv Dl _ upd_same).1, by rw [show sizeLine = 16777216 from rfl]; omega, rfl, hjl, acc7 ++ [vy], accD7 ++ [yv], F11, μ11, S11, ?_, g7.trans g711, (pa7.mono g711).append (reps_cons py reps_nil), by rw [List.length_append, List.length_singleton]; omega, Fin.gr g711 ?_⟩
                          · have := r11.hidden (o' := .lst (acc7 ++ [vy])) (upd_same (H := P) (a := Dl) (o := .lst acc7))
                            rw [upd_upd] at this
                            exact this
                          · have e : (((mLcL gm1 tt1 te (wipeD z.1 vs1) (es.drop (j + 1)) S11).bind fun ys S => (R.ok (yv :: ys) S)).bind fun ys S => (mLc2L vs1 gm tt fi1 gm1 tt1 te (wipeD ρ vs) (ds.drop (i + 1)) S).bind fun zs S => .ok (ys ++ zs) S).bind (fun l S => fin (accD7 ++ l) S) = ((mLcL gm1 tt1 te (wipeD z.1 vs1) (es.drop (j + 1)) S11).bind fun ys S => (mLc2L vs1 gm tt fi1 gm1 tt1 te (wipeD ρ vs) (ds.drop (i + 1)) S).bind fun zs S => .ok (ys ++ zs) S).bind fun l S => fin ((accD7 ++ [yv]) ++ l) S := by
                              cases mLcL gm1 tt1 te (wipeD z.1 vs1) (es.drop (j + 1)) S11 with
                              | stuck => rfl
                              | exn e S => rfl
                              | ok ys S =>
                                simp only [R.bind_ok]
                                cases mLc2L vs1 gm tt fi1 gm1 tt1 te (wipeD ρ vs) (ds.drop (i + 1)) S with
                                | stuck => rfl
                                | exn e S => rfl
                                | ok zs S => simp
                            rw [← e]
                            exact k7
              · have e : j = es.length := by omega
                subst e
                rw [List.drop_length] at k7
                simp only [mLcL, R.bind_ok, List.nil_append] at k7
                refine .inl ⟨w1.stops _ F7 μ7 S7 H7 g7 r7, rfl, hlt, acc7, accD7, F7, μ7, S7, r7, g2.trans g27, pa7, by omega, ?_⟩
                have e : ((mLc2L vs1 gm tt fi1 gm1 tt1 te (wipeD ρ vs) (ds.drop (i + 1)) S7).bind fun zs S => (R.ok zs S)).bind (fun l S => fin (accD7 ++ l) S) = (mLc2L vs1 gm tt fi1 gm1 tt1 te (wipeD ρ vs) (ds.drop (i + 1)) S7).bind fun l S => fin (accD7 ++ l) S := by
                  cases mLc2L vs1 gm tt fi1 gm1 tt1 te (wipeD ρ vs) (ds.drop (i + 1)) S7 <;> rfl
                rw [← e]
                exact k7
  · have e : i = ds.length := by omega
    subst e
    rw [List.drop_length] at k2
    simp only [mLc2L, R.bind_ok, List.append_nil] at k2
    exact .inl ⟨w.stops _ F2 μ2 S2 H2 g2 r2, hfin P F2 μ2 S2 H2 Dl acc accD Q _ r2 nP pa k2⟩
section
variable {X : Cx} {W : WX} {elt tg iter tg1 iter1 : Expr} {ifs ifs1 : List Expr} {scope : Scope} {own : List (Str × Nat)} {pos : Pos} {fi fi1 : IM} {gm gm1 : GM} {tt tt1 : BM} {te : EM} {vs1 : List Nat}
theorem d_lc2 {fin : List D → M D} (hfin : FinL (gX X) fin) (hc : X.calm = true) (hN : X.N.Nodup) (hi : DI X W tg iter fi) (ok : BlkOk X.N X.env.scope scope own) (hv : ∀ i ∈ vs1, i ∈ own.map (·.2))
    (hg : ∀ (s : Shared) (H : Hp) (C : Addr) (cl : List (Str × Addr)) (fp : List Addr), DGw (X.blk s H scope (compEnvC scope cl C X.env) fp) (own.map (·.2)) tg gm) (ht : ∀ (s : Shared) (H : Hp) (C : Addr) (cl : List (Str × Addr)) (fp : List Addr), DT (X.blk s H scope (compEnvC scope cl C X.env) fp) W0 ifs tt)
    (hi1 : ∀ (s : Shared) (H : Hp) (C : Addr) (cl : List (Str × Addr)) (fp : List Addr), DI (X.blk s H scope (compEnvC scope cl C X.env) fp) W0 tg1 iter1 fi1)
    (hg1 : ∀ (s : Shared) (H : Hp) (C : Addr) (cl : List (Str × Addr)) (fp : List Addr), DGw (X.blk s H scope (compEnvC scope cl C X.env) fp) vs1 tg1 gm1) (ht1 : ∀ (s : Shared) (H : Hp) (C : Addr) (cl : List (Str × Addr)) (fp : List Addr), DT (X.blk s H scope (compEnvC scope cl C X.env) fp) W0 ifs1 tt1)
    (he : ∀ (s : Shared) (H : Hp) (C : Addr) (cl : List (Str × Addr)) (fp : List Addr), DE (X.blk s H scope (compEnvC scope cl C X.env) fp) W0 elt te) (hs : ∀ x, foldedSetIterable iter X.env x = pure x := by intro _; rfl) (hs1 : ∀ env x, foldedSetIterable iter1 env x = pure x := by intro _ _; rfl) :
    DE X W (.ListComp elt [⟨tg, iter, ifs, 0⟩, ⟨tg1, iter1, ifs1, 0⟩] scope pos) (mLc2F fin (own.map (·.2)) vs1 fi gm tt fi1 gm1 tt1 te) := PE.weak (pe_lc2 hc hN hi ok hv hg ht hi1 hg1 ht1 he hs hs1) (lc2_run hfin)
theorem ds_setLc2 {fin : List D → M D} (hfin : FinL (gX X) fin) (i : Nat) {y : Str} {py spos : Pos} (hc : X.calm = true) (hN : X.N.Nodup) (hi : DI X W tg iter fi) (ok : BlkOk X.N X.env.scope scope own) (hv : ∀ i ∈ vs1, i ∈ own.map (·.2))
    (hg : ∀ (s : Shared) (H : Hp) (C : Addr) (cl : List (Str × Addr)) (fp : List Addr), DGw (X.blk s H scope (compEnvC scope cl C X.env) fp) (own.map (·.2)) tg gm) (ht : ∀ (s : Shared) (H : Hp) (C : Addr) (cl : List (Str × Addr)) (fp : List Addr), DT (X.blk s H scope (compEnvC scope cl C X.env) fp) W0 ifs tt)
    (hi1 : ∀ (s : Shared) (H : Hp) (C : Addr) (cl : List (Str × Addr)) (fp : List Addr), DI (X.blk s H scope (compEnvC scope cl C X.env) fp) W0 tg1 iter1 fi1)
    (hg1 : ∀ (s : Shared) (H : Hp) (C : Addr) (cl : List (Str × Addr)) (fp : List Addr), DGw (X.blk s H scope (compEnvC scope cl C X.env) fp) vs1 tg1 gm1) (ht1 : ∀ (s : Shared) (H : Hp) (C : Addr) (cl : List (Str × Addr)) (fp : List Addr), DT (X.blk s H scope (compEnvC scope cl C X.env) fp) W0 ifs1 tt1)
    (he : ∀ (s : Shared) (H : Hp) (C : Addr) (cl : List (Str × Addr)) (fp : List Addr), DE (X.blk s H scope (compEnvC scope cl C X.env) fp) W0 elt te)
    (hsw : swapsWith (.ListComp elt [⟨tg, iter, ifs, 0⟩, ⟨tg1, iter1, ifs1, 0⟩] scope pos) (some (.Name y py)) spos.line X.env = pure true) (hy : X.N[i]? = some y := by rfl) (hyl : X.env.scope.names.lookup y = some .local := by rfl) (hs : ∀ x, foldedSetIterable iter X.env x = pure x := by intro _; rfl) (hs1 : ∀ env x, foldedSetIterable iter1 env x = pure x := by intro _ _; rfl) :
    DS X W (.Assign [.Name y py] (.ListComp elt [⟨tg, iter, ifs, 0⟩, ⟨tg1, iter1, ifs1, 0⟩] scope pos) spos) (mAsg (mLc2F fin (own.map (·.2)) vs1 fi gm tt fi1 gm1 tt1 te) (gN i)) := by
  refine PS.weak (ps_setLc2 (wi1 := tDI (gX X) W0 fi1) (g := tDGw (gX X) (own.map (·.2)) gm) (tt := tDB (gX X) W0 tt) (g1 := tDGw (gX X) vs1 gm1) (tt1 := tDB (gX X) W0 tt1) (te := tD (gX X) W0 te) hc hN hy hyl hsw hi ok hv hg ht hi1 hg1 ht1 he hs hs1) fun Dn σ H ⟨P, ρ, F, μ, S, en, rl, k⟩ => ?_
  refine lc2_run hfin σ H _ (tD.run en rl (Fin.imp (FinS.to (rep := repD (gX X)) en k) (fun v H1 ⟨a, F1, μ1, S1, g1, r1, p1, k1⟩ => ?_) fun _ _ _ z => z))
  exact k1 F1 μ1 H1 (Gr.refl _ _) r1 _ ((en.mono g1).set p1)
end

/-! ### extend -/
theorem list_extendW (l : Addr) (xs : Array Value) (n : Nat) (b : Addr) (ys : Array Value) (m : Nat) (sl : Array (Option Value)) (h0 : ¬(!xs.isEmpty && Builtin.List.listTooLong (xs.size + ys.size)) = true) (h1 : xs.size ≤ sizeLine) (h2 : xs.size + ys.size ≤ sizeLine + 1) :
    Meets (Builtin.«list.extend» ⟨[.ref l, .ref b], []⟩) (fun _ R s => s.heap.get? l = some { cls := .type "list", dict := none, data := .seq xs n, slots := #[] } ∧ s.heap.get? b = some { cls := .type "list", dict := none, data := .seq ys m, slots := sl } ∧
      R (.ok (.ret Value.none)) { s with heap := s.heap.update l (Obj.mapSeq fun x => x ++ ys), toks := s.toks }) :=
  .of_wp fun prog w A R s h => by
    obtain ⟨hp, g, d, tk, os⟩ := s
    obtain ⟨hl, hb, h⟩ := h
    have f1 := PySem.AutoSeq1.sub_list_list
    have f2 := PySem.AutoSeq1.sub_tuple_list
    have f3 := PySem.AutoSeq1.sub_list_tuple
    have hz' : (xs ++ ys).size ≤ sizeLine + 1 := by rw [Array.size_append]; exact h2
    wp_walk using (wpAny_updateSeq hl rfl (hz := h1) (_hz' := hz')), PySem.AutoSeq1.wpAny_loadPart' hl, PySem.AutoSeq1.wpAny_loadPart' hb
    exact ⟨_, rfl, h⟩
section
variable {X : Cx}
theorem mt_extendS : MtM X "list.extend" (fun x vs H Q => ∃ l b xs zs, x = .ref l ∧ vs = [.ref b] ∧ H l = some (.lst xs) ∧ SqL X.K H b zs ∧ xs.length + zs.length ≤ sizeLine ∧ Q .non (upd H l (.lst (xs ++ zs)))) := by
  intro pins s σ H x vs v us Q I rx rv h
  obtain ⟨l, b, xs, zs, rfl, rfl, hH, hB, hz, q⟩ := h
  cases rx
  obtain ⟨u, rfl, ru⟩ := rv.one
  cases ru
  obtain ⟨z, its, n, r, hl, e⟩ := I.lstM hH
  obtain ⟨its2, r2, ⟨o2, n2, e2, hc2, hd2, hs2⟩, z2⟩ := I.list hB
  have l2 := r2.length
  obtain ⟨oc2, od2, oda2, osl2⟩ := o2
  dsimp only at hc2 hd2 hs2
  subst hc2 hd2 hs2
  have hsz : its.toArray.size + its2.toArray.size ≤ sizeLine := by rw [List.size_toArray, List.size_toArray]; omega
  have hlong : ¬ (!its.toArray.isEmpty && Builtin.List.listTooLong (its.toArray.size + its2.toArray.size)) = true := by
    rw [notLongL hsz, Bool.and_false]
    exact Bool.false_ne_true
  refine call_meets PySem.F.slot_list_extend ⟨_, e, rfl⟩ PySem.F.entry_list_extend (PySem.F.args_list_extend_2 _ _) (list_extendW l its.toArray n b its2.toArray n2 osl2 hlong (by rw [List.size_toArray]; omega) (by omega)) ⟨e, e2, ?_⟩
  refine ⟨.non, _, I.lset (its' := its ++ its2) hH e (by simp) (r.append r2) ?_, rfl, q⟩
  rw [List.length_append]
  omega
theorem md_extend : MetD X "list" "list.extend" isL extendD := by
  refine ⟨fun P F μ S H d v r p e => isL_ty r p e, ?_⟩
  intro pins s σ H x xs v us Q I rx rxs h
  obtain ⟨d, ds, P, F, μ, S, E, rl, p, ps, k⟩ := h
  unfold extendD at k
  split at k
  rotate_left
  · exact k.elim
  rename_i n d
  split at k
  rotate_left
  · exact k.elim
  rename_i l kk q
  split at k
  rotate_left
  · exact k.elim
  rename_i hl
  obtain ⟨a, ys, rfl, hm, hH, hr⟩ := p.refL rl q
  simp only [Reps] at ps
  obtain ⟨w, _, rfl, pw, rfl⟩ := ps
  obtain ⟨b, zs, rfl, hs, hr2⟩ := pw.lst rl
  refine mt_extendS pins s σ H _ _ v us Q I rx rxs ⟨a, b, ys, zs, rfl, rfl, hH, hs, by rw [← hr.length, ← hr2.length]; exact hl, ?_⟩
  exact k.here (rl.write q (by intro z; cases z) hm ⟨_, rfl, hr.append hr2⟩) rep_non
end
end DL

/-! The data layer, 16: enumerate over a tuple. -/
namespace DL
open PySem PySem.Spec PyProof.Rows L2

theorem meets_enum1 {v : Value} {o : Obj} {Hh : Heap → Prop} (B : Begins v o Hh) :
    Meets (Builtin.«enumerate.__new__» ⟨[.type "enumerate", v], []⟩) (fun _ R s => Hh s.heap ∧
      R (.ok (.ret (.ref (s.heap.push o).objs.size))) { s with heap := (s.heap.push o).push { cls := .type "enumerate", data := .fields #[.none, .bool false, .ref s.heap.objs.size, rawInt 0, .none, .none] } }) :=
  .of_wp fun prog w A R s h => by
    obtain ⟨hp, g, d, tk, os⟩ := s
    obtain ⟨h1, h⟩ := h
    have hsub := sub_enumerate
    have it0 : ∀ {A' : Around} {E : Value → Shared → Prop} {Q : Value → Shared → Prop}, Q (.ref hp.objs.size) ⟨hp.push o, g, d, tk, os⟩ → wpAny (model prog w) A' (pyIter v) Q E ⟨hp, g, d, tk, os⟩ :=
      fun q => B.iter prog w _ _ ⟨hp, g, d, tk, os⟩ _ h1 q
    wp_walk using it0
    refine wpAny_stack_any fun st => wpAny_pure ?_
    split
    · rename_i c _ _ _ _ _
      cases (c == Value.type "enumerate") <;> (wp_walk using it0; exact ⟨_, rfl, h⟩)
    · wp_walk using it0
      exact ⟨_, rfl, h⟩
section
variable {prog : Program} {w : World} {A : Around} {E : Value → Shared → Prop} {s : Shared}
theorem call_enum1 {v : Value} {o : Obj} {Hh : Heap → Prop} {Q : Value → Shared → Prop} (B : Begins v o Hh) (h1 : Hh s.heap)
    (h : ∀ h', IsEnum h' (s.heap.objs.size + 1) s.heap.objs.size 0 .none → h'.get? s.heap.objs.size = some o → (∀ b u, s.heap.get? b = some u → h'.get? b = some u) → Q (.ref (s.heap.objs.size + 1)) { s with heap := h' }) :
    wpAny (model prog w) A (call (.type "enumerate") [v]) Q E s := by
  refine callType_new F.called_enumerate (by decide) (F.typeCall_enumerate_1 _) (F.newCall_enumerate_1 _) (fun obj => F.args_object_init_2 obj _) F.entry_enumerate_new (meets_enum1 B) ⟨h1, ?_⟩
  have hz : (s.heap.push o).objs.size = s.heap.objs.size + 1 := Heap.size_push ..
  rw [hz]
  have he := Heap.get?_push_size (s.heap.push o) (o := { cls := .type "enumerate", data := .fields #[.none, .bool false, .ref s.heap.objs.size, rawInt 0, .none, .none] }) rfl
  rw [hz] at he
  exact ⟨⟨_, he, rfl⟩, h _ he (Heap.get?_push_of_some _ (Heap.get?_push_size _ B.free)) fun b u x => Heap.get?_push_of_some _ (Heap.get?_push_of_some _ x)⟩
end
/-- the tuple at a, each item in a new pair -/
def IteT (K : PySem.W.Frag) (a : Addr) : It :=
  ⟨fun i H => ∃ (xs : List V) (x : V), SqT K H a xs ∧ xs[i]? = some x, fun i H v H' => ∃ T x, v = .ref T ∧ H T = none ∧ H' = upd H T (.tup [.int (i : Nat), x]) ∧ ∀ xs, SqT K H a xs → xs[i]? = some x, fun i H => ∃ xs : List V, SqT K H a xs ∧ xs.length ≤ i⟩
theorem turn_enumT {P : Program} {w : World} {K : PySem.W.Frag} {elts : List Expr} {kk : Nat} {tpos : Pos} (a e it : Addr) :
    Turn P w K (.Tuple elts kk tpos) (IteT K a) [e, it] e (fun i h => (∃ old, IsEnum h e it ((i : Nat) : Int) old) ∧ h.IsTupleIter it a i ∧ e ≠ it ∧ a ≠ it ∧ e ≠ a) where
  mem := by simp
  obj := fun i h st b hb => by
    obtain ⟨⟨old, he⟩, ⟨o, ho, hc, hd⟩, _⟩ := st
    rcases (show b = e ∨ b = it by simpa using hb) with rfl | rfl
    · exact ⟨_, he, fun v q => nomatch q⟩
    · exact ⟨o, ho, fun v q => by rw [hd] at q; cases q⟩
  keep := fun i h h' st k => by
    obtain ⟨⟨old, he⟩, hi, hne⟩ := st
    exact ⟨⟨old, k e (by simp) _ he⟩, hi.at fun o q => k it (by simp) o q, hne⟩
  item := by
    intro X hP hw hK hc i pins s σ H E I hf st hg
    subst hP hw hK
    obtain ⟨⟨old, he⟩, hit, hne, ha, hea⟩ := st
    obtain ⟨xs, x, hq, hx⟩ := hg
    obtain ⟨its, rv, p, hz⟩ := I.tuple hq
    obtain ⟨u, hu, ru⟩ := rv.get hx
    obtain ⟨po, ph, pc, pn, pd⟩ := p
    have hel : e < s.heap.objs.size := Heap.lt_size he
    have hil : it < s.heap.objs.size := by obtain ⟨_, q, _⟩ := hit; exact Heap.lt_size q
    have hlt : i < its.toArray.size := by
      have := (List.getElem?_eq_some_iff.mp hu).1
      simpa using this
    refine wpAny_pyNext_enum_itemD (Draws.tuple (A := X.A.in1) (show X.A.in1.handled = none from I.ok.hd hc) it a ha its.toArray) he ⟨hit, po, ph, pc, pn, pd⟩ hlt hne (by simp [hne, hea]) fun x' h' tk hP ho hst hT hsz hk => ?_
    have ex : x' = u := by
      have h1 : its.toArray[i]? = some u := by simpa using hu
      rw [h1] at hP
      exact (Option.some.inj hP).symm
    subst ex
    refine ⟨_, rfl, wpAny_letOwnedTupleGo_enum (s := { s with heap := h', toks := tk + 1 }) ho fun h'' he' sb => ?_⟩
    have hT2 : h''.get? s.heap.objs.size = some { cls := .type "tuple", data := .seq #[.int i tk, x'] } := (sb.2 _ (Nat.ne_of_gt hel)).trans hT
    have new : ObjOk X.prog X.w (upd H s.heap.objs.size (.tup [.int (i : Nat), x])) h'' s.heap.objs.size (.tup [.int (i : Nat), x]) :=
      ⟨by show 2 ≤ sizeLine; decide, [.int i tk, x'], .cons ⟨_, rfl⟩ (.cons ru .nil), ⟨_, hT2, rfl, _, rfl⟩⟩
    have I1 : Inv X pins σ (upd H s.heap.objs.size (.tup [.int (i : Nat), x])) { s with heap := h'', toks := tk + 1 } :=
      I.turnedNew (ch := [e, it]) (fun b ob hb q => (sb.2 b (fun z => hb (by simp [z]))).trans (hk b ob (fun z => hb (by simp [z])) (fun z => hb (by simp [z])) q)) hf (Nat.le_refl _) new
    refine ⟨.ref s.heap.objs.size, _, I1, rfl, ⟨_, x, rfl, I.hok.fresh (Nat.le_refl _), rfl, fun ys hy => by rw [I.tuple_inj hy hq]; exact hx⟩, ⟨⟨x', ?_⟩, hst.1.at fun o q => (sb.2 it (Ne.symm hne)).trans q, hne, ha, hea⟩, fun b hb => ?_⟩
    · rw [show ((i + 1 : Nat) : Int) = (i : Int) + 1 by omega]
      exact he'
    · have hb' : b < s.heap.objs.size := by
        rcases (show b = e ∨ b = it by simpa using hb) with rfl | rfl
        · exact hel
        · exact hil
      rw [upd_ne (Nat.ne_of_lt hb')]
      exact (hf b hb).1
  done := by
    intro X hP hw hK hc i pins s σ H E I hf st hg
    subst hP hw hK
    obtain ⟨⟨old, he⟩, hit, hne, ha, hea⟩ := st
    obtain ⟨xs, hq, hx⟩ := hg
    obtain ⟨its, rv, p, hz⟩ := I.tuple hq
    obtain ⟨po, ph, pc, pn, pd⟩ := p
    obtain ⟨f0, f1, f2, f3, f4, f5⟩ := hf it (by simp)
    have hl := rv.length
    have hn : its.toArray[i]? = none := by simp; omega
    have D2 : Draws X.prog X.w X.A.in1 it [it, a] i (fun _ _ => True) (fun j h => j = i ∧ h.IsTupleIter it a i ∧ h.IsTuple a its.toArray) :=
      { live := fun _ _ st => let ⟨o, ho, _⟩ := st.2.1; ⟨o, ho⟩
        frame := fun _ _ _ st hk => ⟨st.1, st.2.1.at fun o e => hk it (by simp) o e, st.2.2.at fun o e => hk a (by simp) o e⟩
        item := fun j s Q E hi st hQ => absurd hi (by rw [st.1]; exact Nat.lt_irrefl _)
        done := fun s Q E st hE => wpAny_nextOf_tuple_end (I.ok.hd hc) st.2.1 st.2.2 hn hE }
    exact wpAny_pyNext_enum_endD D2 he ⟨rfl, hit, po, ph, pc, pn, pd⟩ fun h' eb => ⟨rfl, I.turned (t' := s.toks) (fun b o hb q => eb b o hb q) f0 f1 f3 f4 f5⟩
  self := fun A i s Q E st h => by
    obtain ⟨⟨old, he⟩, _⟩ := st
    exact wpAny_pyIter_enum he h
def mEnumQ (fe : EM) : IM := fun ρ S => (fe ρ S).bind fun d S => match d with
  | .lst l => .ok ((enumL 0 l).map D.wt) S
  | .tup l => .ok ((enumL 0 l).map D.wt) S
  | _ => .stuck
theorem pi_enumQ {X : Cx} {e : Expr} {ta : TA} {p pos tpos : Pos} {elts : List Expr} {kk : Nat} (hg : Gl X "enumerate") (hm : X.mg "enumerate" = none) (ha : PA X [e] ta) (hs : starEach [e] X.env = [(false, eval e X.env)] := by rfl) :
    PI X (.Tuple elts kk tpos) (.Call (.Name "enumerate" p) [e] [] pos) (fun σ H R => ta σ H fun vs H1 => ∃ a xs, vs = [.ref a] ∧ ((SqL X.K H1 a xs ∧ R (Ite X.K a) H1) ∨ (SqT X.K H1 a xs ∧ R (IteT X.K a) H1))) := by
  refine ⟨fun pins s σ H R I h => ?_⟩
  refine Call_ (ld_blt I hg hm boot_enumerate (PyProof.Rows.callWith_type1 (thn (ha.run pos pins s σ H _ I h) fun us s1 ⟨vs, H1, I1, r1, q1⟩ => ?_) hs rfl))
  obtain ⟨a, xs, ex, q⟩ := q1
  subst ex
  cases r1 with
  | cons r rr =>
    cases rr
    cases r
    rcases q with ⟨hq, q⟩ | ⟨hq, q⟩
    · obtain ⟨its, rv, p', hz⟩ := I1.list hq
      refine call_enumerate_list p'.isList fun h' he hit hsz hk => wpAny_pyIter_enum he ?_
      have I2 : Inv X pins σ H1 { s1 with heap := h' } := I1.kept (t' := s1.toks) hk
      refine ⟨s1.heap.objs.size + 1, [s1.heap.objs.size + 1, s1.heap.objs.size], _, _, H1, rfl, I2, turn_enum a (s1.heap.objs.size + 1) s1.heap.objs.size, ⟨⟨.none, he⟩, hit, Nat.succ_ne_self _⟩, fun b hb => ?_, q⟩
      have hle : s1.heap.objs.size ≤ b := by
        rcases (show b = s1.heap.objs.size + 1 ∨ b = s1.heap.objs.size by simpa using hb) with z | z <;> rw [z] <;> omega
      exact I1.fpOk hle (I1.hok.fresh hle)
    · obtain ⟨its, rv, ⟨po, ph, pc, pn, pd⟩, hz⟩ := I1.tuple hq
      have hlt := Heap.lt_size ph
      refine call_enum1 (begins_tuple a its.toArray) ⟨po, ph, pc, pn, pd⟩ fun h' he hit hk => wpAny_pyIter_enum he ?_
      have I2 : Inv X pins σ H1 { s1 with heap := h' } := I1.kept (t' := s1.toks) hk
      refine ⟨s1.heap.objs.size + 1, [s1.heap.objs.size + 1, s1.heap.objs.size], _, _, H1, rfl, I2, turn_enumT a (s1.heap.objs.size + 1) s1.heap.objs.size, ⟨⟨.none, he⟩, ⟨_, hit, rfl, rfl⟩, Nat.succ_ne_self _, Nat.ne_of_lt hlt, Ne.symm (Nat.ne_of_lt (Nat.lt_succ_of_lt hlt))⟩, fun b hb => ?_, q⟩
      have hle : s1.heap.objs.size ≤ b := by
        rcases (show b = s1.heap.objs.size + 1 ∨ b = s1.heap.objs.size by simpa using hb) with z | z <;> rw [z] <;> omega
      exact I1.fpOk hle (I1.hok.fresh hle)
theorem walkD_enumT {g : G} {F : Hp} {μ : List Addr} {ds : List D} {xs : List V} {a : Addr} (hs : SqT g.K F a xs) (hr : Reps g F μ ds xs) : WalkD g F μ ((enumL 0 ds).map D.wt) (IteT g.K a) := by
  refine walkD_pair fun F' H h1 h2 => ?_
  have hx : SqT g.K H a xs := sqT_mono (μ := μ) (μ' := μ) ⟨fun c o e => h2 c o (h1 c o e), fun _ _ z => z⟩ hs
  refine ⟨fun i hi => ?_, ?_, fun i x H' z e y => ?_⟩
  · have hi : i < xs.length := by rw [← hr.length, ← enumL_len 0]; exact hi
    exact ⟨xs, xs[i], hx, by simp [hi]⟩
  · rw [enumL_len, hr.length]; exact ⟨xs, hx, Nat.le_refl _⟩
  · obtain ⟨d, e1, rfl⟩ := enumL_get e
    obtain ⟨v, e2, e3⟩ := hr.get e1
    obtain ⟨T, u, h3, h4, h5, h6⟩ := y
    have h6 := h6 xs hx
    rw [e2] at h6; cases h6
    refine ⟨T, _, h3, h4, h5, reps_cons ?_ (reps_cons e3 reps_nil)⟩
    rw [Nat.zero_add]; exact rep_int
theorem di_enumQ {X : Cx} {W : WX} {e : Expr} {fe : EM} {p pos tpos : Pos} {elts : List Expr} {kk : Nat} (hm : X.mg "enumerate" = none) (h : DE X W e fe) (hg : Gl X "enumerate" := by rfl) (hs : starEach [e] X.env = [(false, eval e X.env)] := by rfl) :
    DI X W (.Tuple elts kk tpos) (.Call (.Name "enumerate" p) [e] [] pos) (mEnumQ fe) := by
  refine PI.weak (pi_enumQ hg hm (pa_cons h pa_nil hs) hs) fun σ H R ⟨P, ρ, F, μ, S, en, rl, k⟩ => ?_
  refine tD.run en rl (Fin.imp (Fin.bind (rep := repD (gX X)) k) (fun v H1 ⟨d, F1, μ1, S1, g1, r1, p1, k1⟩ => ?_) fun _ _ _ z => z)
  cases d <;> first | exact k1.elim | skip
  · simp only [Rep] at p1
    obtain ⟨a, xs, ea, ⟨hs, _⟩, hr⟩ := p1
    exact ⟨a, xs, by rw [ea], .inr ⟨sqT_mono (g := gX X) r1.gr0 hs, k1.here r1 (walkD_enumT hs hr)⟩⟩
  · simp only [Rep] at p1
    obtain ⟨a, xs, ea, hs, hr⟩ := p1
    exact ⟨a, xs, by rw [ea], .inl ⟨sqL_mono (g := gX X) r1.gr0 hs, k1.here r1 (walkD_enum hs hr)⟩⟩
end DL

/-! The data layer, 17: zip of a tuple and a list. -/
namespace DL
open PySem PySem.Spec PyProof.Rows L2

def ItzM (K : PySem.W.Frag) (a b : Addr) : It :=
  ⟨fun i H => ∃ (xs ys : List V) (x y : V), SqT K H a xs ∧ SqL K H b ys ∧ xs[i]? = some x ∧ ys[i]? = some y,
    fun i H v H' => ∃ T x y, v = .ref T ∧ H T = none ∧ H' = upd H T (.tup [x, y]) ∧ (∀ xs, SqT K H a xs → xs[i]? = some x) ∧ ∀ ys, SqL K H b ys → ys[i]? = some y,
    fun i H => ∃ xs ys : List V, SqT K H a xs ∧ SqL K H b ys ∧ i ≤ xs.length ∧ i ≤ ys.length ∧ (i = xs.length ∨ i = ys.length)⟩
theorem turn_zipM {P : Program} {w : World} {K : PySem.W.Frag} {elts : List Expr} {kk : Nat} {tpos : Pos} {a b z TI TO i1 i2 : Addr} (D : ZipSep2 z TI TO i1 i2 [i1, a] [i2, b]) (ha : a ≠ i1) (hb : b ≠ i2) :
    Turn P w K (.Tuple elts kk tpos) (ItzM K a b) [z, TI, TO, i1, i2] z (fun i h => IsZip h z TI TO .none ∧ IsTupOf2 h TI (.ref i1) (.ref i2) ∧ (∃ x y, IsTupOf2 h TO x y) ∧ h.IsTupleIter i1 a i ∧ h.IsListIter i2 b i) where
  mem := by simp
  obj := fun i h st c hc => by
    obtain ⟨hz, hTI, ⟨x, y, hTO⟩, ⟨o1, e1, _, d1⟩, ⟨o2, e2, _, d2⟩⟩ := st
    rcases (show c = z ∨ c = TI ∨ c = TO ∨ c = i1 ∨ c = i2 by simpa using hc) with rfl | rfl | rfl | rfl | rfl
    · exact ⟨_, hz, fun v q => nomatch q⟩
    · exact ⟨_, hTI, fun v q => nomatch q⟩
    · exact ⟨_, hTO, fun v q => nomatch q⟩
    · exact ⟨o1, e1, fun v q => by rw [d1] at q; cases q⟩
    · exact ⟨o2, e2, fun v q => by rw [d2] at q; cases q⟩
  keep := fun i h h' st k => by
    obtain ⟨hz, hTI, ⟨x, y, hTO⟩, h1, h2⟩ := st
    exact ⟨k z (by simp) _ hz, k TI (by simp) _ hTI, ⟨x, y, k TO (by simp) _ hTO⟩, h1.at fun o q => k i1 (by simp) o q, h2.at fun o q => k i2 (by simp) o q⟩
  item := by
    intro X hP hw hK hc i pins s σ H E I hf st hg
    subst hP hw hK
    obtain ⟨hz, hTI, ⟨x0, y0, hTO⟩, h1, h2⟩ := st
    obtain ⟨xs, ys, x, y, hqx, hqy, hx, hy⟩ := hg
    obtain ⟨its, rv, ⟨po, ph, pc, pn, pd⟩, _⟩ := I.tuple hqx
    obtain ⟨its2, rv2, p2, _⟩ := I.list hqy
    obtain ⟨u, hu, ru⟩ := rv.get hx
    obtain ⟨u2, hu2, ru2⟩ := rv2.get hy
    have hzl : z < s.heap.objs.size := Heap.lt_size hz
    have lt1 : i < its.toArray.size := by
      have := (List.getElem?_eq_some_iff.mp hu).1
      simpa using this
    have lt2 : i < its2.toArray.size := by
      have := (List.getElem?_eq_some_iff.mp hu2).1
      simpa using this
    have hd : X.A.in1.handled = none := I.ok.hd hc
    refine wpAny_pyNext_zipD2_item D (Draws.tuple (A := X.A.in1) hd i1 a ha its.toArray) (Draws.list (A := X.A.in1) hd i2 b hb its2.toArray) hz hTI hTO ⟨h1, po, ph, pc, pn, pd⟩ ⟨h2, p2.isList⟩ lt1 lt2 fun v1 v2 h' tk e1 e2 z' TO' s1' s2' hT hsz hk => ?_
    have ex : v1 = u := by
      have q : its.toArray[i]? = some u := by simpa using hu
      rw [q] at e1
      exact (Option.some.inj e1).symm
    have ey : v2 = u2 := by
      have q : its2.toArray[i]? = some u2 := by simpa using hu2
      rw [q] at e2
      exact (Option.some.inj e2).symm
    subst ex ey
    refine ⟨_, rfl, wpAny_letOwnedTupleGo_zip (s := { s with heap := h', toks := tk }) z' fun h'' z'' sb => ?_⟩
    have hT2 : h''.get? s.heap.objs.size = some { cls := .type "tuple", data := .seq #[v1, v2] } := (sb.2 _ (Nat.ne_of_gt hzl)).trans hT
    have new : ObjOk X.prog X.w (upd H s.heap.objs.size (.tup [x, y])) h'' s.heap.objs.size (.tup [x, y]) :=
      ⟨by show 2 ≤ sizeLine; decide, [v1, v2], .cons ru (.cons ru2 .nil), ⟨_, hT2, rfl, _, rfl⟩⟩
    have I1 : Inv X pins σ (upd H s.heap.objs.size (.tup [x, y])) { s with heap := h'', toks := tk } :=
      I.turnedNew (ch := [z, TI, TO, i1, i2]) (fun c o hb q => (sb.2 c (fun q' => hb (by simp [q']))).trans (hk c o (fun q' => hb (by simp [q'])) (fun q' => hb (by simp [q'])) (fun q' => hb (by simp [q'])) (fun q' => hb (by simp [q'])) q)) hf (Nat.le_refl _) new
    refine ⟨.ref s.heap.objs.size, _, I1, rfl, ⟨_, x, y, rfl, I.hok.fresh (Nat.le_refl _), rfl, fun l hl => by rw [I.tuple_inj hl hqx]; exact hx, fun l hl => by rw [I.list_inj hl hqy]; exact hy⟩, ⟨z'', ?_, ⟨v1, v2, ?_⟩, ?_, ?_⟩, fun c hcm => ?_⟩
    · exact (sb.2 _ D.TIz).trans (hk _ _ D.TIz D.TITO D.TIi1 D.TIi2 hTI)
    · exact (sb.2 _ D.TOz).trans TO'
    · exact s1'.1.at fun o q => (sb.2 _ (Ne.symm D.zi1)).trans q
    · exact s2'.1.at fun o q => (sb.2 _ (Ne.symm D.zi2)).trans q
    · have hlt : c < s.heap.objs.size := by
        rcases (show c = z ∨ c = TI ∨ c = TO ∨ c = i1 ∨ c = i2 by simpa using hcm) with rfl | rfl | rfl | rfl | rfl
        · exact hzl
        · exact Heap.lt_size hTI
        · exact Heap.lt_size hTO
        · obtain ⟨_, e1, _⟩ := h1; exact Heap.lt_size e1
        · obtain ⟨_, e2, _⟩ := h2; exact Heap.lt_size e2
      rw [upd_ne (Nat.ne_of_lt hlt)]
      exact (hf c hcm).1
  done := by
    intro X hP hw hK hc i pins s σ H E I hf st hg
    subst hP hw hK
    obtain ⟨hz, hTI, ⟨x0, y0, hTO⟩, h1, h2⟩ := st
    obtain ⟨xs, ys, hqx, hqy, le1, le2, hend⟩ := hg
    obtain ⟨its, rv, ⟨po, ph, pc, pn, pd⟩, _⟩ := I.tuple hqx
    obtain ⟨its2, rv2, p2, _⟩ := I.list hqy
    have l1 := rv.length
    have l2 := rv2.length
    have hd : X.A.in1.handled = none := I.ok.hd hc
    exact wpAny_pyNext_zipD2_end D (Draws.tuple (A := X.A.in1) hd i1 a ha its.toArray) (Draws.list (A := X.A.in1) hd i2 b hb its2.toArray) hz hTI hTO ⟨h1, po, ph, pc, pn, pd⟩ ⟨h2, p2.isList⟩ (by simp; omega) (by simp; omega) (by simp; omega) fun h' tk hk => ⟨rfl, I.turnedL (t' := tk) (ch := [z, TI, TO, i1, i2]) (fun c o hb q =>
      hk c o (fun q' => hb (by simp [q'])) (fun q' => hb (by simp [q'])) (fun q' => hb (by simp [q'])) (fun q' => hb (by simp [q'])) q) hf⟩
  self := fun A i s Q E st h => wpAny_pyIter_zip st.1 h
theorem notin2 {x y z : Nat} (h1 : x ≠ y) (h2 : x ≠ z) : x ∉ [y, z] := by simp [h1, h2]
theorem sep_new (n a b : Nat) (ha : a < n) (hb : b < n) : ZipSep2 (n + 4) (n + 2) (n + 3) n (n + 1) [n, a] [n + 1, b] where
  TIz := Nat.ne_of_lt (by omega)
  TOz := Nat.ne_of_lt (by omega)
  TITO := Nat.ne_of_lt (by omega)
  TIi1 := Nat.ne_of_gt (by omega)
  mem1 := List.mem_cons_self
  zf1 := notin2 (by omega) (by omega)
  Tf1 := notin2 (by omega) (by omega)
  TIi2 := Nat.ne_of_gt (by omega)
  mem2 := List.mem_cons_self
  zf2 := notin2 (by omega) (by omega)
  Tf2 := notin2 (by omega) (by omega)
  sep1_2 := notin2 (by omega) (by omega)
  sep2_1 := notin2 (by omega) (by omega)
theorem pi_zipM {X : Cx} {e e2 : Expr} {ta : TA} {p pos tpos : Pos} {elts : List Expr} {kk : Nat} (hg : Gl X "zip") (hm : X.mg "zip" = none) (ha : PA X [e, e2] ta)
    (hs : starEach [e, e2] X.env = (false, eval e X.env) :: starEach [e2] X.env := by rfl) (hpl : (backTo pos (starEach [e2] X.env)).any (·.1) = false := by rfl) :
    PI X (.Tuple elts kk tpos) (.Call (.Name "zip" p) [e, e2] [] pos) (fun σ H R => ta σ H fun vs H1 => ∃ a b xs ys, vs = [.ref a, .ref b] ∧ SqT X.K H1 a xs ∧ SqL X.K H1 b ys ∧ R (ItzM X.K a b) H1) := by
  refine ⟨fun pins s σ H R I h => ?_⟩
  refine Call_ (ld_blt I hg hm PyProof.Rows.boot_zip (PyProof.Rows.callWith_type1 (thn (ha.run pos pins s σ H _ I h) fun us s1 ⟨vs, H1, I1, r1, q1⟩ => ?_) hs hpl))
  obtain ⟨a, b, xs, ys, ex, hqx, hqy, q⟩ := q1
  subst ex
  cases r1 with
  | cons r rr =>
    cases rr with
    | cons r' rr =>
      cases rr
      cases r
      cases r'
      obtain ⟨its, rv, ⟨po, ph, pc, pn, pd⟩, _⟩ := I1.tuple hqx
      obtain ⟨its2, rv2, p2, _⟩ := I1.list hqy
      have la := Heap.lt_size ph
      have lb := p2.lt
      refine zip_begins2 (begins_tuple a its.toArray) (begins_list b its2.toArray) ⟨po, ph, pc, pn, pd⟩ p2.isList fun h' hz hTI hTO h1 h2 hsz hk => wpAny_pyIter_zip hz ?_
      have I2 : Inv X pins σ H1 { s1 with heap := h' } := I1.kept (t' := s1.toks) hk
      have sep : ZipSep2 (s1.heap.objs.size + 4) (s1.heap.objs.size + 2) (s1.heap.objs.size + 3) s1.heap.objs.size (s1.heap.objs.size + 1) [s1.heap.objs.size, a] [s1.heap.objs.size + 1, b] := sep_new _ a b la lb
      refine ⟨s1.heap.objs.size + 4, [s1.heap.objs.size + 4, s1.heap.objs.size + 2, s1.heap.objs.size + 3, s1.heap.objs.size, s1.heap.objs.size + 1], _, _, H1, rfl, I2, turn_zipM sep (Nat.ne_of_lt la) (Nat.ne_of_lt (Nat.lt_succ_of_lt lb)), ⟨hz, hTI, ⟨_, _, hTO⟩, ⟨_, h1, rfl, rfl⟩, ⟨_, h2, rfl, rfl⟩⟩, fun c hcm => ?_, q⟩
      have hle : s1.heap.objs.size ≤ c := by
        rcases (show c = s1.heap.objs.size + 4 ∨ c = s1.heap.objs.size + 2 ∨ c = s1.heap.objs.size + 3 ∨ c = s1.heap.objs.size ∨ c = s1.heap.objs.size + 1 by simpa using hcm) with z | z | z | z | z <;> rw [z]
        · exact Nat.le_add_right _ _
        · exact Nat.le_add_right _ _
        · exact Nat.le_add_right _ _
        · exact Nat.le_refl _
        · exact Nat.le_add_right _ _
      exact I1.fpOk hle (I1.hok.fresh hle)
theorem walkD_zipM {g : G} {F : Hp} {μ : List Addr} {ds es : List D} {xs ys : List V} {a b : Addr} (hs : SqT g.K F a xs) (hr : Reps g F μ ds xs) (hs2 : SqL g.K F b ys) (hr2 : Reps g F μ es ys) : WalkD g F μ ((zipL ds es).map D.wt) (ItzM g.K a b) := by
  refine walkD_pair fun F' H h1 h2 => ?_
  have gr : Gr F μ H μ := ⟨fun c o e => h2 c o (h1 c o e), fun _ _ z => z⟩
  have hx := sqT_mono (g := g) gr hs
  have hy := sqL_mono (g := g) gr hs2
  have l1 := hr.length
  have l2 := hr2.length
  have zl := zipL_len ds es
  refine ⟨fun i hi => ?_, ?_, fun i x H' z e y => ?_⟩
  · have i1 : i < xs.length := by omega
    have i2 : i < ys.length := by omega
    exact ⟨xs, ys, xs[i], ys[i], hx, hy, by simp [i1], by simp [i2]⟩
  · exact ⟨xs, ys, hx, hy, by omega, by omega, by omega⟩
  · obtain ⟨d, d2, e1, e1', rfl⟩ := zipL_get e
    obtain ⟨v, e2, e3⟩ := hr.get e1
    obtain ⟨v2, e2', e3'⟩ := hr2.get e1'
    obtain ⟨T, u, u', h3, h4, h5, h6, h7⟩ := y
    have h6 := h6 xs hx
    have h7 := h7 ys hy
    rw [e2] at h6; cases h6
    rw [e2'] at h7; cases h7
    exact ⟨T, _, h3, h4, h5, reps_cons e3 (reps_cons e3' reps_nil)⟩
def mZipM (fa fb : EM) : IM := fun ρ S => (fa ρ S).bind fun d S => (fb ρ S).bind fun e S => match d, e with
  | .tup l, .lst k => .ok ((zipL l k).map D.wt) S
  | _, _ => .stuck
def mZipQ (fa fb : EM) : IM := fun ρ S => (fa ρ S).bind fun d S => (fb ρ S).bind fun e S => match d, e with
  | .lst l, .lst k => .ok ((zipL l k).map D.wt) S
  | .tup l, .tup k => .ok ((zipL l k).map D.wt) S
  | .tup l, .lst k => .ok ((zipL l k).map D.wt) S
  | _, _ => .stuck
theorem zipQ_or (fa fb : EM) (ρ : Env) (S : Store) : mZipQ fa fb ρ S = mZip fa fb ρ S ∨ mZipQ fa fb ρ S = mZipM fa fb ρ S := by
  unfold mZipQ mZip mZipM
  cases fa ρ S with
  | stuck => exact .inl rfl
  | exn e S => exact .inl rfl
  | ok d S =>
    simp only [R.bind_ok]
    cases fb ρ S with
    | stuck => exact .inl rfl
    | exn e S => exact .inl rfl
    | ok e S =>
      simp only [R.bind_ok]
      cases d <;> cases e <;> first | exact .inl rfl | exact .inr rfl
section
variable {X : Cx} {W : WX} {e e2 : Expr} {fe fe2 : EM} {p pos tpos : Pos} {elts : List Expr} {kk : Nat}
theorem di_zipM (hm : X.mg "zip" = none) (h : DE X W e fe) (h2 : DE X W e2 fe2) (hg : Gl X "zip" := by rfl) (hs : starEach [e, e2] X.env = [(false, eval e X.env), (false, eval e2 X.env)] := by rfl) (hs2 : starEach [e2] X.env = [(false, eval e2 X.env)] := by rfl) (hz : (backTo pos (starEach [e2] X.env)).any (·.1) = false := by rfl) :
    DI X W (.Tuple elts kk tpos) (.Call (.Name "zip" p) [e, e2] [] pos) (mZipM fe fe2) := by
  refine PI.weak (pi_zipM hg hm (pa_cons h (pa_cons h2 pa_nil hs2) (by rw [hs, hs2])) (by rw [hs, hs2]) hz) fun σ H R ⟨P, ρ, F, μ, S, en, rl, k⟩ => ?_
  refine tD.run en rl (Fin.imp (Fin.bind (rep := repD (gX X)) k) (fun v H1 ⟨d, F1, μ1, S1, g1, r1, p1, k1⟩ => ?_) fun _ _ _ z => z)
  refine tD.run (en.mono g1) r1 (Fin.imp (Fin.bind (rep := repD (gX X)) k1) (fun v2 H2 ⟨d2, F2, μ2, S2, g2, r2, p2, k2⟩ => ?_) fun _ _ _ z => z)
  have p1 := p1.mono g2
  cases d <;> cases d2 <;> first | exact k2.elim | skip
  simp only [Rep] at p1 p2
  obtain ⟨a, xs, ea, ⟨hs, _⟩, hr⟩ := p1
  obtain ⟨b, ys, eb, hs', hr'⟩ := p2
  exact ⟨a, b, xs, ys, by rw [ea, eb], sqT_mono (g := gX X) r2.gr0 hs, sqL_mono (g := gX X) r2.gr0 hs', k2.here r2 (walkD_zipM hs hr hs' hr')⟩
theorem di_zipQ (hm : X.mg "zip" = none) (h : DE X W e fe) (h2 : DE X W e2 fe2) (hg : Gl X "zip" := by rfl) (hs : starEach [e, e2] X.env = [(false, eval e X.env), (false, eval e2 X.env)] := by rfl) (hs2 : starEach [e2] X.env = [(false, eval e2 X.env)] := by rfl) (hz : (backTo pos (starEach [e2] X.env)).any (·.1) = false := by rfl) :
    DI X W (.Tuple elts kk tpos) (.Call (.Name "zip" p) [e, e2] [] pos) (mZipQ fe fe2) := by
  refine ⟨fun pins s σ H R I ⟨P, ρ, F, μ, S, en, rl, k⟩ => ?_⟩
  rcases zipQ_or fe fe2 ρ S with q | q
  · exact (di_zip hm h h2 hg hs hs2 hz).run pins s σ H R I ⟨P, ρ, F, μ, S, en, rl, q ▸ k⟩
  · exact (di_zipM hm h h2 hg hs hs2 hz).run pins s σ H R I ⟨P, ρ, F, μ, S, en, rl, q ▸ k⟩
end
end DL

/-! The data layer, 18: new exception objects as values. -/
namespace DL
open PySem PySem.Spec PyProof.Rows L2

theorem xo_ok {P : Program} {w : World} {H : Hp} {h : Heap} {a C : Addr} {dd : Option Addr} {oe : Obj} {vs : Array Value} (e : h.get? a = some oe) (z : Zc (.ref C) dd oe) (d : oe.data = .fields vs) : ObjOk P w H h a (XO C dd a) :=
  ⟨⟨oe, vs, e, z, d⟩, ⟨oe, e⟩, fun _ _ ⟨o, v, q, r⟩ k => ⟨o, v, k o q, r⟩⟩
section
variable {X : Cx} {W : WX} {c : Str} {e : Expr} {es : List Expr} {fe : EM} {fa : AM} {p pos : Pos}
theorem pe_exc0 {C : Addr} {bmB : List Value} {B newId initId : String} {ta : TE} (F : ExcBaseFacts B newId initId bmB) (q : PySem.W.excIn X.K C bmB newId = true) (gC : X.mg c = some (.ref C)) (kC : PySem.W.keepIn X.K (.ref C) = true) (hg : Gl X c)
    (he : PE X e ta) (hs : starEach [e] X.env = (false, eval e X.env) :: starEach [] X.env) (hdb : (c == ("__debug__" : Str)) = false) :
    PE X (.Call (.Name c p) [e] [] pos) (fun σ H Q => ta σ H fun _ H1 => ∀ a, H1 a = none → Q (.ref a) (upd H1 a (XO C none a))) := by
  refine ⟨fun pins s σ H Q I h => ?_⟩
  refine wpAny_Call_Name_kw (ld_glob I hg gC ?_ hdb)
  refine PySem.W.callWith_K (h₀ := X.base) I.ok.mod.kin kC ?_ hs (by rfl)
  rw [hs]
  show wpAny _ _ (spliced ((false, eval e X.env) :: backTo pos (starEach [] X.env))) _ _ s
  refine Calls.spliced_cons (thn (he.run pins s σ H _ I h) fun u s1 ⟨v, H1, I1, r1, q1⟩ => ?_)
  refine Calls.spliced_nil ⟨I1.kIn, ?_⟩
  show wpAny _ _ (call (.ref C) [u]) _ _ _
  obtain ⟨bm, N, nm, qn, bs, hdct, sn, sub, ab, col, dd, k0, k1, k2, k3, k5, mN, hC, hN, hni, T⟩ := exc_obj I1.kIn q
  refine wpAny_call_exc_subT F T hC hN hni (fun h' a hm => ?_) (by show 1 ≤ sizeLine; rw [sizeLine_eq]; omega)
  have hn : H1 a = none := I1.hok.gone hm.new
  obtain ⟨t, ht, _, _⟩ := hm.there
  exact ⟨.ref a, upd H1 a (XO C none a), I1.laidN hm.keeps hm.new hn (xo_ok ht ⟨rfl, rfl⟩ rfl), rfl, q1 a hn⟩
/-- X(e), an own exception class without own __init__, as a value -/
def mExc0 (c : Str) (fe : EM) : EM := fun ρ S => (fe ρ S).bind fun _ S => .ok (.exc c [] []) S
theorem d_exc0 (F : ExcF X.K X.mg c) (he : DE X W e fe) (hg : Gl X c := by rfl) (hs : starEach [e] X.env = (false, eval e X.env) :: starEach [] X.env := by rfl) (hdb : (c == ("__debug__" : Str)) = false := by decide) :
    DE X W (.Call (.Name c p) [e] [] pos) (mExc0 c fe) := by
  obtain ⟨C, gC, q, kC, h1, h2⟩ := F.ex
  refine PE.weak (pe_exc0 PySem.F.excBase_ValueError q gC kC hg he hs hdb) fun σ H Q ⟨P, ρ, Fz, μ, S, en, rl, k⟩ => ?_
  refine tD.run en rl (Fin.imp (Fin.bind (rep := repD (gX X)) k) (fun v H1 ⟨d, F1, μ1, S1, g1, r1, p1, k1⟩ => ?_) fun _ _ _ z => z)
  intro a ha
  obtain ⟨r2, g2⟩ := r1.froz (o := XO C none a) ha
  exact (k1.gr g2).here r2 (by simp only [repD, Rep]; exact ⟨a, C, none, [], rfl, gC, upd_same, .inl ⟨rfl, rfl, rfl⟩, reps_nil, rfl⟩)

/-! ### own exception classes with an own __init__ -/
/-- SlopeError.__init__(self, ..), the class an own one that has it from ValueError -/
theorem pe_clsinit {x : Str} {CS : Addr} {mc : Value} {ta : TA} {p1 p2 : Pos} {pl : Sem Bool} (hg : Gl X x) (hm : X.mg x = some (.ref CS)) (sg : PySem.W.specialIn X.K (.ref CS) "__getattribute__" = some (some (.builtin "type.__getattribute__"))) (hr : PySem.W.readsIn X.K CS mc = true)
    (vV : PySem.W.findCls X.K (.ref CS) mc "__init__" = some (.val (.builtin "ValueError.__init__"))) (ha : PA X (e :: es) ta) (hdb : (x == ("__debug__" : Str)) = false := by decide)
    (hc : eval (.Call (.Attribute (.Name x p1) "__init__" p2) (e :: es) [] pos) X.env = (do
      let ov ← eval (.Name x p1) X.env
      standAt p2.atName
      let (f, first) ← holding [ov] (getMethod ov "__init__" pl)
      callWith pos f first (backTo pos (starEach (e :: es) X.env)) (backToKw pos (keywordEach [] X.env))) := by rfl)
    (he : starEach (e :: es) X.env = (false, eval e X.env) :: starEach es X.env := by rfl) (hpl : (backTo pos (starEach es X.env)).any (·.1) = false := by rfl) :
    PE X (.Call (.Attribute (.Name x p1) "__init__" p2) (e :: es) [] pos) (tVeI X.K ta) := by
  refine ⟨fun pins s σ H Q I h => ?_⟩
  refine PySem.W.methodCall_KW (ld_glob I hg hm ?_ hdb) hc
  refine PySem.W.method_cls I.kIn sg (PySem.W.cls_value I.kIn hr vV (by decide +kernel) ?_)
  show wpAny _ _ (callWith pos (Value.builtin "ValueError.__init__") [] (backTo pos (starEach (e :: es) X.env)) []) _ _ _
  refine PyProof.Rows.callWith_method1 (thn (ha.run pos pins _ σ H _ (I.tok _) h) fun us s1 ⟨vs, H1, I1, r1, a, C, ws, ev, hl, T, ea, q⟩ => ?_) he hpl
  subst ev
  cases r1 with
  | @cons _ u0 _ ur ra rw' =>
    obtain rfl : u0 = Value.ref a := ra
    have hlen : ur.length ≤ sizeLine := by
      rw [← Paired.length rw', sizeLine_eq]
      omega
    exact oinit_ok T I1 ea hlen fun s' J => ⟨.non, H1, J, rfl, q⟩
/-- what such an __init__ does: it sets the fields fs to its arguments -/
def spI (K : PySem.W.Frag) (fs : List Str) : Sp := fun vs H Q E => ∃ (a C : Addr) (is : List Int), vs = .ref a :: is.map V.int ∧ is.length = fs.length ∧ (∀ i ∈ is, i.natAbs.log2 < 1920) ∧ OexC K C ∧ (∀ f ∈ fs, PySem.W.findIn K (.ref C) f = some none) ∧ H a = some (exo a C none) ∧
  ∀ (dx : Addr) (H2 : Hp), H dx = none → dx ≠ a → H2 a = some (exo a C (some dx)) → H2 dx = some (exd dx (fs.reverse.zip (is.map V.int).reverse)) → (∀ b, b ≠ a → b ≠ dx → H2 b = H b) → Q .non H2
def tVO (C : Addr) (sp : Sp) (ta : TA) : TE := fun σ H Q => ta σ H fun vs H1 => vs.length ≤ 1000 ∧ ∀ a, H1 a = none → sp (.ref a :: vs) (upd H1 a (exo a C none))
  (fun v H2 => v = .non ∧ ∃ (d : Addr) (fs : List (Str × V)), H2 a = some (exo a C (some d)) ∧ H2 d = some (exd d fs) ∧ Q (.ref a) (upd (upd H2 d (.xd fs)) a (XO C (some d) a))) (fun _ _ _ => False)
theorem pe_oexV {x : Str} {C fI : Addr} {k : Nat} {fd : FuncData} {ps : List Str} {sp : Sp} {ta : TA} (T : OexC X.K C) (iC : PySem.W.findIn X.K (.ref C) "__init__" = some (some (.ref fI))) (tI : PySem.W.typeIn X.K (.ref fI) = some (.type "function"))
    (F1 : FnOk X.prog X.w X.K X.mg X.base L2.CX0 k fI fd ps sp) (hr : Room (k + 1) X.A) (hb : Binds X.K fd ps []) (hg : Gl X x) (hm : X.mg x = some (.ref C)) (ha : PA X (e :: es) ta)
    (hdb : (x == ("__debug__" : Str)) = false) (he : starEach (e :: es) X.env = (false, eval e X.env) :: starEach es X.env) (hpl : (backTo pos (starEach es X.env)).any (·.1) = false) :
    PE X (.Call (.Name x p) (e :: es) [] pos) (tVO C sp ta) := by
  refine ⟨fun pins s σ H Q I h => ?_⟩
  obtain ⟨nm, q, N, bs, bm, sn, sub, ab, col, dd, k0, k1, k2, k3, k5, hC, hbm⟩ := T.cls
  refine wpAny_Call_Name_kw (ld_glob I hg hm ?_ hdb)
  refine PySem.W.callWith_K (h₀ := X.base) I.ok.mod.kin T.kC (thn (ha.run pos pins s σ H _ I h) fun us s1 ⟨vs, H1, I1, r1, hz, q1⟩ => ⟨I1.kIn, ?_⟩) he hpl
  show wpAny _ _ (call (.ref C) us) _ _ _
  obtain ⟨hp, g, dr, tk, os⟩ := s1
  have hsz : hp.objs.size ≤ hp.objs.size + 1 := Nat.le_succ _
  have hn : H1 (hp.objs.size + 1) = none := I1.hok.fresh hsz
  have hq := q1 (hp.objs.size + 1) hn
  have kk : ∀ b o, hp.get? b = some o → ((hp.push (PySem.W.kdv_tup us)).push (PySem.HandSPX.excO C hp.objs.size)).get? b = some o := fun b o e => Heap.get?_push_of_some _ (Heap.get?_push_of_some _ e)
  have hget : ((hp.push (PySem.W.kdv_tup us)).push (PySem.HandSPX.excO C hp.objs.size)).get? (hp.objs.size + 1) = some (PySem.HandSPX.excO C hp.objs.size) := by heap_get
  have I2 : Inv X pins σ (upd H1 (hp.objs.size + 1) (exo (hp.objs.size + 1) C none)) ⟨(hp.push (PySem.W.kdv_tup us)).push (PySem.HandSPX.excO C hp.objs.size), g, dr, tk, os⟩ :=
    I1.laid (t' := tk) (a := hp.objs.size + 1) (o := exo (hp.objs.size + 1) C none) (h' := (hp.push (PySem.W.kdv_tup us)).push (PySem.HandSPX.excO C hp.objs.size)) kk hsz (exo_ok hget)
  have r2 : Vals (V.ref (hp.objs.size + 1) :: vs) (Value.ref (hp.objs.size + 1) :: us) := .cons rfl r1
  have hl : (Value.ref (hp.objs.size + 1) :: us).length = ps.length := by
    have e := r2.length
    rw [F1.len _ _ _ _ hq] at e
    exact e.symm
  have hus : us.length ≤ sizeLine := by
    rw [← Paired.length r1, sizeLine_eq]
    omega
  have b := hb ⟨(hp.push (PySem.W.kdv_tup us)).push (PySem.HandSPX.excO C hp.objs.size), g, dr, tk, os⟩ (Value.ref (hp.objs.size + 1) :: us) I2.kIn (by rw [List.append_nil]; exact hl)
  rw [List.append_nil] at b
  refine wpAny_call (PySem.HandSPX.call_own F.excBase_ValueError (fun Y => PySem.HandSPX.refsVE_contains Y bm hbm) (I1.kIn _ _ hC) (PySem.W.looks_findIn I1.kIn iC) (fun self => PySem.W.bind_fn I1.kIn self tI) hus
    (codeAny_mono (F1.run _ X.stack _ _ ⟨Value.ref (hp.objs.size + 1) :: us, []⟩ (Value.ref (hp.objs.size + 1) :: us) _ _ (fun _ _ _ => False) (hr.make C us []) (I2.env0.make C us []) b r2 hq) fun r s' hq' => ?_))
  cases r with
  | error er => exact hq'.elim
  | ok fl =>
    cases fl with
    | ret u =>
      obtain ⟨v, H2, os2, bare2, un2, hok2, rv, ev, d, fs, ea, ed, q2⟩ := hq'
      subst ev
      obtain ⟨h2, g2, d2, t2, os'⟩ := s'
      have J : Inv X pins σ H2 ⟨h2, g2, d2, t2, os'⟩ := I2.call' (ch := []) os2 un2 hok2 bare2 (fun b z => absurd z (by simp))
      obtain ⟨t0, hoe⟩ := exo_at J.hok ea
      obtain ⟨mA, hns, rel⟩ := exd_at J.hok ed
      have hda : d ≠ hp.objs.size + 1 := fun z => by
        obtain ⟨o, es, ep, e1, e2, _⟩ := hns
        rw [z, hoe] at e1
        have z2 := Option.some.inj e1
        subst z2
        cases e2
      have hd : ∃ o, h2.get? d = some o := by
        obtain ⟨o, _, _, e', _⟩ := hns
        exact ⟨o, e'⟩
      have J1 := J.write (t' := t2) (x := d) (e := d) (o := .xd fs) (h' := h2) (by rw [ed]; exact True.intro) (.inl rfl) (fun _ _ _ z => z) hd ⟨mA, hns, rel⟩
      have ea1 : upd H2 d (.xd fs) (hp.objs.size + 1) = some (exo (hp.objs.size + 1) C (some d)) := by rw [upd_ne (Ne.symm hda)]; exact ea
      have J2 := J1.write (t' := t2) (x := hp.objs.size + 1) (e := hp.objs.size + 1) (o := XO C (some d) (hp.objs.size + 1)) (h' := h2) (by rw [ea1]; exact True.intro) (.inl rfl) (fun _ _ _ z => z) ⟨_, hoe⟩ (xo_ok hoe ⟨rfl, rfl⟩ rfl)
      exact ⟨rv, .ref (hp.objs.size + 1), _, J2, rfl, q2⟩
    | next => exact False.elim hq'
    | brk => exact False.elim hq'
    | cont => exact False.elim hq'
end
/-- ints of data -/
def intsD : List D → Option (List Int)
  | [] => some []
  | .int i :: ds => (intsD ds).map (i :: ·)
  | _ :: _ => none
theorem intsD_reps {g : G} {F : Hp} {μ : List Addr} : ∀ {ds : List D} {is : List Int} {vs : List V}, intsD ds = some is → Reps g F μ ds vs → vs = is.map V.int
  | [], is, vs, e, h => by
    simp only [intsD, Option.some.injEq] at e
    subst e
    simpa [Reps] using h
  | d :: ds, is, vs, e, h => by
    cases d <;> simp only [intsD] at e <;> first | (cases e; done) | skip
    rename_i i
    obtain ⟨js, e1, rfl⟩ := Option.map_eq_some_iff.mp e
    simp only [Reps] at h
    obtain ⟨v, ws, rfl, h1, h2⟩ := h
    rw [h1.int, intsD_reps e1 h2]
    rfl
theorem intsD_len : ∀ {ds : List D} {is : List Int}, intsD ds = some is → ds = is.map D.int
  | [], is, e => by
    simp only [intsD, Option.some.injEq] at e
    subst e; rfl
  | d :: ds, is, e => by
    cases d <;> simp only [intsD] at e <;> first | (cases e; done) | skip
    obtain ⟨js, e1, rfl⟩ := Option.map_eq_some_iff.mp e
    rw [intsD_len e1]; rfl
/-- the class c, made with the fields fs -/
def excI (c : Str) (fs : List Str) (ds : List D) : M D := fun S => match intsD ds with
  | some is => if is.length = fs.length ∧ is.all (fun i => decide (i.natAbs.log2 < 1920)) = true ∧ is.length ≤ 1000 then .ok (.exc c fs.reverse (is.map D.int).reverse) S else .stuck
  | none => .stuck
def mExcI (c : Str) (fs : List Str) (fa : AM) : EM := fun ρ S => (fa ρ S).bind (excI c fs)
structure ExcIF (P : Program) (w : World) (K : PySem.W.Frag) (mg : Str → Option Value) (base : Heap) (c : Str) (fs : List Str) : Prop where
  ex : ∃ (C fI : Addr) (fd : FuncData) (ps : List Str), mg c = some (.ref C) ∧ OexC K C ∧ PySem.W.findIn K (.ref C) "__init__" = some (some (.ref fI)) ∧ PySem.W.typeIn K (.ref fI) = some (.type "function") ∧ FnOk P w K mg base L2.CX0 2 fI fd ps (spI K fs) ∧ Binds K fd ps [] ∧ ∀ f ∈ fs, PySem.W.findIn K (.ref C) f = some none
theorem upd_upd_ne {H : Hp} {a b : Addr} {o u : HO} (h : a ≠ b) : upd (upd H a o) b u = upd (upd H b u) a o := by
  funext x
  by_cases h1 : x = a
  · subst h1; rw [upd_ne h, upd_same, upd_same]
  · by_cases h2 : x = b
    · subst h2; rw [upd_same, upd_ne h1, upd_same]
    · rw [upd_ne h2, upd_ne h1, upd_ne h1, upd_ne h2]
section
variable {X : Cx} {W : WX} {c : Str} {e : Expr} {es : List Expr} {fe : EM} {fa : AM} {p pos : Pos} {fs : List Str}
theorem d_excI (F : ExcIF X.prog X.w X.K X.mg X.base c fs) (hr : Room 3 X.A) (ha : DA X W (e :: es) fa) (hg : Gl X c := by rfl) (hdb : (c == ("__debug__" : Str)) = false := by decide)
    (he : starEach (e :: es) X.env = (false, eval e X.env) :: starEach es X.env := by rfl) (hpl : (backTo pos (starEach es X.env)).any (·.1) = false := by rfl) : DE X W (.Call (.Name c p) (e :: es) [] pos) (mExcI c fs fa) := by
  obtain ⟨C, fI, fd, ps, hm, T, iC, tI, F1, hb, hno⟩ := F.ex
  refine PE.weak (pe_oexV T iC tI F1 hr hb hg hm ha hdb he hpl) fun σ H Q ⟨P, ρ, Fz, μ, S, en, rl, k⟩ => ?_
  refine tDA.run en rl (Fin.imp (Fin.bind (rep := repA (gX X)) k) (fun vs H1 ⟨ds, F1, μ1, S1, g1, r1, p1, k1⟩ => ?_) fun _ _ _ z => z)
  unfold excI at k1
  cases q : intsD ds with
  | none => rw [q] at k1; exact k1.elim
  | some is =>
    rw [q] at k1
    simp only at k1
    split at k1
    · rename_i hc
      have ev := intsD_reps q p1
      subst ev
      refine ⟨by rw [List.length_map]; exact hc.2.2, fun a ha => ⟨a, C, is, rfl, hc.1, fun i hi => by simpa using List.all_eq_true.mp hc.2.1 i hi, T, hno, upd_same, fun dx H2 hdx hne h1 h2 h3 => ⟨rfl, dx, _, h1, h2, ?_⟩⟩⟩
      have hd1 : H1 dx = none := by rw [← hdx, upd_ne hne]
      obtain ⟨r2, g2⟩ := r1.froz (o := .xd (fs.reverse.zip (is.map V.int).reverse)) hd1
      have ha2 : upd H1 dx (.xd (fs.reverse.zip (is.map V.int).reverse)) a = none := by rw [upd_ne (Ne.symm hne)]; exact ha
      obtain ⟨r3, g3⟩ := r2.froz (o := XO C (some dx) a) ha2
      have eh : upd (upd H2 dx (.xd (fs.reverse.zip (is.map V.int).reverse))) a (XO C (some dx) a) = upd (upd H1 dx (.xd (fs.reverse.zip (is.map V.int).reverse))) a (XO C (some dx) a) := by
        funext b
        by_cases hb1 : b = a
        · subst hb1; rw [upd_same, upd_same]
        · rw [upd_ne hb1, upd_ne hb1]
          by_cases hb2 : b = dx
          · subst hb2; rw [upd_same, upd_same]
          · rw [upd_ne hb2, upd_ne hb2, h3 b hb1 hb2, upd_ne hb1]
      rw [eh]
      refine ((k1.gr g2).gr g3).here r3 ?_
      simp only [repD, Rep]
      refine ⟨a, C, some dx, (is.map V.int).reverse, rfl, hm, upd_same, .inr ⟨dx, rfl, by rw [upd_ne hne]; exact upd_same⟩, ?_, by simp [hc.1]⟩
      rw [← List.map_reverse, ← List.map_reverse]
      exact reps_ints _
    · exact k1.elim
end
end DL

/-! The data layer, 19: the __init__ of exception classes. -/
namespace DL
open PySem PySem.Spec PyProof.Rows L2
def bodyD : Stmt → List Stmt
  | .ClassDef (body := b) .. => b
  | _ => []
theorem log_text {i : Int} (h : i.natAbs.log2 < 1920) : (Str.ofString (toString i)).length ≤ 601 := by
  rw [PySem.ofString_length]
  refine int_text_length_le10 (a := i) (k := 600) (by decide) ?_
  have : i.natAbs < 2 ^ 1920 := by
    by_cases z : i.natAbs = 0
    · rw [z]; exact Nat.two_pow_pos _
    · exact (Nat.log2_lt z).mp h
  exact Nat.lt_of_lt_of_le this (by decide +kernel)
theorem tx0 {t0 : Str} (l0 : t0.length ≤ 1000) : (Str.empty ++ t0).length ≤ sizeLine := by
  rw [show sizeLine = 16777216 from rfl, Str.length_append]
  have : (Str.empty).length = 0 := rfl
  omega
theorem tx1 {t0 y : Str} (l0 : t0.length ≤ 1000) (h : y.length ≤ 601) : (Str.empty ++ t0 ++ y).length ≤ sizeLine := by
  rw [show sizeLine = 16777216 from rfl, Str.length_append, Str.length_append]
  have : (Str.empty).length = 0 := rfl
  omega
theorem tx2 {t0 y t1 : Str} (l0 : t0.length ≤ 1000) (h : y.length ≤ 601) (l1 : t1.length ≤ 1000) : (Str.empty ++ t0 ++ y ++ t1).length ≤ sizeLine := by
  rw [show sizeLine = 16777216 from rfl, Str.length_append, Str.length_append, Str.length_append]
  have : (Str.empty).length = 0 := rfl
  omega
theorem tx3 {t0 y t1 z : Str} (l0 : t0.length ≤ 1000) (h : y.length ≤ 601) (l1 : t1.length ≤ 1000) (h2 : z.length ≤ 601) : (Str.empty ++ t0 ++ y ++ t1 ++ z).length ≤ sizeLine := by
  rw [show sizeLine = 16777216 from rfl, Str.length_append, Str.length_append, Str.length_append, Str.length_append]
  have : (Str.empty).length = 0 := rfl
  omega
/-- the module's name x is an own class whose __init__ is ValueError's -/
structure BaseI (K : PySem.W.Frag) (mg : Str → Option Value) (x : Str) : Prop where
  ex : ∃ CS, mg x = some (.ref CS) ∧ PySem.W.specialIn K (.ref CS) "__getattribute__" = some (some (.builtin "type.__getattribute__")) ∧ PySem.W.readsIn K CS (.type "type") = true ∧ PySem.W.findCls K (.ref CS) (.type "type") "__init__" = some (.val (.builtin "ValueError.__init__"))
def BaseK (K : PySem.W.Frag) (x : Str) : Prop := ∃ CS, PySem.W.nsIn K mainGlobals x = some (some (.ref CS)) ∧ PySem.W.specialIn K (.ref CS) "__getattribute__" = some (some (.builtin "type.__getattribute__")) ∧ PySem.W.readsIn K CS (.type "type") = true ∧ PySem.W.findCls K (.ref CS) (.type "type") "__init__" = some (.val (.builtin "ValueError.__init__"))
theorem baseK {K : PySem.W.Frag} {x : Str} {CS : Addr} (a : PySem.W.nsIn K mainGlobals x = some (some (.ref CS))) (b : PySem.W.specialIn K (.ref CS) "__getattribute__" = some (some (.builtin "type.__getattribute__"))) (c : PySem.W.readsIn K CS (.type "type") = true) (d : PySem.W.findCls K (.ref CS) (.type "type") "__init__" = some (.val (.builtin "ValueError.__init__"))) : BaseK K x := ⟨CS, a, b, c, d⟩
theorem BaseK.get {K : PySem.W.Frag} {h : Heap} {mg : Str → Option Value} {x : Str} (d : BaseK K x) (X : K.In h) (G : h.Ns mainGlobals mg) : BaseI K mg x := by
  obtain ⟨C, a, r⟩ := d
  exact ⟨C, PySem.W.mg_of X G a, r⟩
/-- an own exception class with an own __init__, as the top has left it -/
def InitK (K : PySem.W.Frag) (c qual : Str) (st : Stmt) (fs : List Str) : Prop := ∃ (C fI : Addr) (oc : Value) (od : Option Addr) (kV doc pm : Value) (an : Option Addr) (cdv ct : Value) (osl : Array (Option Value)),
  PySem.W.nsIn K mainGlobals c = some (some (.ref C)) ∧ OexC K C ∧ PySem.W.findIn K (.ref C) "__init__" = some (some (.ref fI)) ∧ PySem.W.typeIn K (.ref fI) = some (.type "function") ∧
  K.lookup fI = some ⟨oc, od, .func (PySem.W.fnOf "__init__" qual (defArgs st) (defBody st) (defScope st) .none kV doc pm an cdv ct), osl⟩ ∧ PySem.W.codeIn K cdv qual = true ∧ PySem.W.keepIn K (.ref fI) = true ∧ Each (fun f => PySem.W.findIn K (.ref C) f = some none) fs
theorem oexC {K : PySem.W.Frag} {C : Addr} {nm q : Str} {N : Addr} {bs bm : List Value} {sn : List Str} {sub : List Value} {ab : Bool} {col : Option Bool} {dd : Option Addr} {k0 k1 k2 k3 k5 : Option Value}
    (l : K.lookup C = some (excClassObj nm q C N bs bm true sn sub ab col dd k0 k1 k2 k3 k5 "ValueError.__new__")) (r : PySem.HandSPX.refsVE bm = true) (a : PySem.W.findIn K (.ref C) "__setattr__" = some (some (.builtin "object.__setattr__"))) (b : PySem.W.subIn K (.ref C) (.type "BaseException") = some true) (c : PySem.W.typeIn K (.ref C) = some (.type "type")) (d : PySem.W.keepIn K (.ref C) = true) : OexC K C :=
  ⟨⟨nm, q, N, bs, bm, sn, sub, ab, col, dd, k0, k1, k2, k3, k5, l, r⟩, a, b, c, d⟩
/-- one field -/
theorem read_1 {K : PySem.W.Frag} {a C : Addr} {is : List Int} {H : Hp} {Q : VK} {vs : List V} {f1 t0 : Str} {N : List Str} (l0 : t0.length ≤ 1000) (e : vs = .ref a :: is.map V.int) (hl : is.length = [f1].length) (hb : ∀ i ∈ is, i.natAbs.log2 < 1920) (T : OexC K C) (hno : ∀ f ∈ [f1], PySem.W.findIn K (.ref C) f = some none) (ha : H a = some (exo a C none))
    (k : ∀ (dx : Addr) (H2 : Hp), H dx = none → dx ≠ a → H2 a = some (exo a C (some dx)) → H2 dx = some (exd dx ([f1].reverse.zip (is.map V.int).reverse)) → (∀ b, b ≠ a → b ≠ dx → H2 b = H b) → Q .non H2) :
    tSeq (tDrop (tVeI K (tCons (tVar 0) (tCons (fun σ H Q => tJs [tC (.str t0), tFmt (tVar 1)] Str.empty σ H fun out H1 => Q (.str out) H1) tNil)))) (tOst K f1 (tVar 0) (tVar 1)) { nx := fun _ H' => Q .non H', rt := Q } (start N vs) H := by
  obtain ⟨i, rfl⟩ : ∃ i, is = [i] := by
    match is, hl with
    | [i], _ => exact ⟨i, rfl⟩
  subst e
  have hi := hb i (by simp)
  have hti := log_text hi
  have s0 : (start N (V.ref a :: [i].map V.int))[0]? = some (some (.ref a)) := rfl
  have s1 : (start N (V.ref a :: [i].map V.int))[1]? = some (some (.int i)) := rfl
  refine ⟨_, s0, t0, rfl, tx0 l0, _, s1, .inr ⟨i, rfl, hi, _, rfl, tx1 l0 hti, ⟨a, C, [_], rfl, by simp, T, ha, ?_⟩⟩⟩
  exact ⟨_, s1, _, s0, a, C, rfl, T, hno f1 (by simp), .inl ⟨ha, fun dx h1 h2 => k dx _ h1 h2 upd_same (by rw [upd_ne h2, upd_same]; rfl) (fun b hb1 hb2 => by rw [upd_ne hb1, upd_ne hb2])⟩⟩
/-- two fields -/
theorem read_2 {K : PySem.W.Frag} {a C : Addr} {is : List Int} {H : Hp} {Q : VK} {vs : List V} {f1 f2 t0 t1 : Str} {N : List Str} (l0 : t0.length ≤ 1000) (l1 : t1.length ≤ 1000) (e : vs = .ref a :: is.map V.int) (hl : is.length = [f1, f2].length) (hb : ∀ i ∈ is, i.natAbs.log2 < 1920) (T : OexC K C) (hno : ∀ f ∈ [f1, f2], PySem.W.findIn K (.ref C) f = some none) (ha : H a = some (exo a C none))
    (k : ∀ (dx : Addr) (H2 : Hp), H dx = none → dx ≠ a → H2 a = some (exo a C (some dx)) → H2 dx = some (exd dx ([f1, f2].reverse.zip (is.map V.int).reverse)) → (∀ b, b ≠ a → b ≠ dx → H2 b = H b) → Q .non H2) :
    tSeq (tDrop (tVeI K (tCons (tVar 0) (tCons (fun σ H Q => tJs [tC (.str t0), tFmt (tVar 1), tC (.str t1), tFmt (tVar 2)] Str.empty σ H fun out H1 => Q (.str out) H1) tNil)))) (tSeq (tOst K f1 (tVar 0) (tVar 1)) (tOst K f2 (tVar 0) (tVar 2))) { nx := fun _ H' => Q .non H', rt := Q } (start N vs) H := by
  obtain ⟨i, j, rfl⟩ : ∃ i j, is = [i, j] := by
    match is, hl with
    | [i, j], _ => exact ⟨i, j, rfl⟩
  subst e
  have hi := hb i (by simp)
  have hj := hb j (by simp)
  have hti := log_text hi
  have htj := log_text hj
  have s0 : (start N (V.ref a :: [i, j].map V.int))[0]? = some (some (.ref a)) := rfl
  have s1 : (start N (V.ref a :: [i, j].map V.int))[1]? = some (some (.int i)) := rfl
  have s2 : (start N (V.ref a :: [i, j].map V.int))[2]? = some (some (.int j)) := rfl
  refine ⟨_, s0, t0, rfl, tx0 l0, _, s1, .inr ⟨i, rfl, hi, _, rfl, tx1 l0 hti, t1, rfl, tx2 l0 hti l1, _, s2, .inr ⟨j, rfl, hj, _, rfl, tx3 l0 hti l1 htj, ⟨a, C, [_], rfl, by simp, T, ha, ?_⟩⟩⟩⟩
  refine ⟨_, s1, _, s0, a, C, rfl, T, hno f1 (by simp), .inl ⟨ha, fun dx h1 h2 => ?_⟩⟩
  refine ⟨_, s2, _, s0, a, C, rfl, T, hno f2 (by simp), .inr ⟨dx, [(f1, .int i)], upd_same, by rw [upd_ne h2, upd_same], by simp, ?_⟩⟩
  exact k dx _ h1 h2 (by rw [upd_ne (Ne.symm h2), upd_same]) upd_same (fun b hb1 hb2 => by rw [upd_ne hb2, upd_ne hb1, upd_ne hb2])
end DL

/-! The data layer, 20: repr of data with dicts and lists at places. -/
namespace DL
open PySem PySem.Spec PyProof.Rows L2
mutual
/-- a value in the heap, its dicts none of the system's -/
inductive RdS (h : Heap) : Value → PyData → Prop
  | none : RdS h .none .none
  | bool (b : Bool) : RdS h (.bool b) (.bool b)
  | int (i : Int) (t : Tok) : RdS h (.int i t) (.int i)
  | str (x : Str) (t : Tok) : RdS h (.str x t) (.str x)
  | list {a : Addr} {o : Obj} {vs : Array Value} {n : Nat} {xs : List PyData} : h.get? a = some o → o.cls = .type "list" → o.data = .seq vs n → RdSs h vs.toList xs → RdS h (.ref a) (.list xs)
  | tuple {a : Addr} {o : Obj} {vs : Array Value} {n : Nat} {xs : List PyData} : h.get? a = some o → o.cls = .type "tuple" → o.data = .seq vs n → RdSs h vs.toList xs → RdS h (.ref a) (.tuple xs)
  | dict {a : Addr} {o : Obj} {es : Array DictEntry} {n : Nat} {kvs : List (PyData × PyData)} : h.get? a = some o → o.cls = .type "dict" → o.data = .dict es n → (a == sysModules) = false → RdSs h (es.toList.map (·.key)) (kvs.map (·.1)) → RdSs h (es.toList.map (·.val)) (kvs.map (·.2)) → RdS h (.ref a) (.dict kvs)
inductive RdSs (h : Heap) : List Value → List PyData → Prop
  | nil : RdSs h [] []
  | cons {v : Value} {vs : List Value} {d : PyData} {ds : List PyData} : RdS h v d → RdSs h vs ds → RdSs h (v :: vs) (d :: ds)
end
mutual
theorem RdS.reads {h : Heap} : ∀ {v : Value} {d : PyData}, RdS h v d → ∃ as, Reads h v d as
  | _, _, .none => ⟨_, .none⟩
  | _, _, .bool b => ⟨_, .bool b⟩
  | _, _, .int i t => ⟨_, .int i t⟩
  | _, _, .str x t => ⟨_, .str x t⟩
  | _, _, .list h1 h2 h3 h4 => let ⟨_, k⟩ := RdSs.reads h4; ⟨_, .list h1 h2 h3 k⟩
  | _, _, .tuple h1 h2 h3 h4 => let ⟨_, k⟩ := RdSs.reads h4; ⟨_, .tuple h1 h2 h3 k⟩
  | _, _, .dict h1 h2 h3 _ h4 h5 => let ⟨_, k⟩ := RdSs.reads h4; let ⟨_, m⟩ := RdSs.reads h5; ⟨_, .dict h1 h2 h3 k m⟩
theorem RdSs.reads {h : Heap} : ∀ {vs : List Value} {ds : List PyData}, RdSs h vs ds → ∃ as, ReadsAll h vs ds as
  | _, _, .nil => ⟨_, .nil⟩
  | _, _, .cons h1 h2 => let ⟨_, k⟩ := RdS.reads h1; let ⟨_, m⟩ := RdSs.reads h2; ⟨_, .cons k m⟩
end
mutual
def fewC : PyData → Bool
  | .none => true
  | .bool _ => true
  | .str _ => true
  | .int i => decide (i.natAbs < 10 ^ 4300)
  | .list xs => fewsC xs
  | .tuple xs => fewsC xs
  | .dict kvs => fewKv kvs
def fewsC : List PyData → Bool
  | [] => true
  | x :: xs => fewC x && fewsC xs
def fewKv : List (PyData × PyData) → Bool
  | [] => true
  | (a, b) :: r => fewC a && fewC b && fewKv r
end
theorem fewKv_split : ∀ kvs : List (PyData × PyData), fewKv kvs = true → fewsC (kvs.map (·.1)) = true ∧ fewsC (kvs.map (·.2)) = true
  | [], _ => ⟨rfl, rfl⟩
  | (a, b) :: r, h => by
    simp only [fewKv, Bool.and_eq_true] at h
    obtain ⟨h1, h2⟩ := fewKv_split r h.2
    simp only [List.map_cons, fewsC, Bool.and_eq_true]
    exact ⟨⟨h.1.1, h1⟩, h.1.2, h2⟩
section
variable {prog : Program} {w : World} {h0 : Heap}
mutual
theorem cigK (nd : h0.NoDigits) : ∀ {v : Value} {d : PyData}, RdS h0 v d → fewC d = true → d.shown.length ≤ sizeLine → ∃ bs, ReadAtMost h0 d.depth bs ∧ ReprK prog w bs h0 d.depth v d.shown
  | _, _, .none, _, _ => ⟨[], nofun, by rw [PyData.shown]; exact .of_is ReprIs.none _ _ _⟩
  | _, _, .bool b, _, _ => ⟨[], nofun, by rw [PyData.shown]; exact .of_is (ReprIs.bool b) _ _ _⟩
  | _, _, .int i t, hf, _ => ⟨[], nofun, by rw [PyData.shown]; exact big_leaf nd (by simpa [fewC] using hf) _ _⟩
  | _, _, .str x t, _, hz => ⟨[], nofun, by rw [PyData.shown] at hz ⊢; exact .of_is (ReprIs.str x t hz) _ _ _⟩
  | _, _, .list (a := a) (vs := vs) (xs := xs) h1 h2 h3 h4, hf, hz => by
    rw [PyData.shown] at hz
    obtain ⟨bs, b1, b2⟩ := cigsK nd h4 (by simpa [fewC] using hf) fun t m => Nat.le_trans (listText_mem_le m) hz
    obtain ⟨_, k4⟩ := h4.reads
    have rd : Reads h0 (.ref a) (.list xs) _ := .list h1 h2 h3 k4
    have out : a ∉ bs := not_mem_of_deeper rd (by rw [PyData.depth]; omega) b1
    refine ⟨a :: bs, ReadAtMost.cons rd (by rw [PyData.depth]; omega) b1, ?_⟩
    rw [PyData.depth, PyData.shown]
    rcases vs with ⟨_ | ⟨y, l⟩⟩
    · cases (show RdSs h0 [] xs from h4)
      rw [PyData.shownAll, listText_nil]
      exact .listEmpty h1 h2 h3
    · exact .list h1 h2 h3 out (by simpa using b2.length_eq) fun i z e => b2.item i z (by simpa using e)
  | _, _, .tuple (a := a) (xs := xs) h1 h2 h3 h4, hf, hz => by
    rw [PyData.shown] at hz
    obtain ⟨bs, b1, b2⟩ := cigsK nd h4 (by simpa [fewC] using hf) fun t m => Nat.le_trans (tupleText_mem_le m) hz
    obtain ⟨_, k4⟩ := h4.reads
    have rd : Reads h0 (.ref a) (.tuple xs) _ := .tuple h1 h2 h3 k4
    have out : a ∉ bs := not_mem_of_deeper rd (by rw [PyData.depth]; omega) b1
    refine ⟨a :: bs, ReadAtMost.cons rd (by rw [PyData.depth]; omega) b1, ?_⟩
    rw [PyData.depth, PyData.shown]
    exact .tuple h1 h2 h3 out b2
  | _, _, .dict (a := a) (es := es) (kvs := kvs) h1 h2 h3 hs h4 h5, hf, hz => by
    have hz' : (dictText (PyData.shownKv kvs)).length ≤ sizeLine := by simpa only [PyData.shown] using hz
    obtain ⟨f1, f2⟩ := fewKv_split kvs (by simpa [fewC] using hf)
    obtain ⟨b1, hb1, k1⟩ := cigsK nd h4 f1 (fun t ht => let ⟨p, hp, hl⟩ := PyData.shownKv_key_le kvs t ht; Nat.le_trans hl (Nat.le_trans (dictText_mem_le hp) hz'))
    obtain ⟨b2, hb2, k2⟩ := cigsK nd h5 f2 (fun t ht => let ⟨p, hp, hl⟩ := PyData.shownKv_val_le kvs t ht; Nat.le_trans hl (Nat.le_trans (dictText_mem_le hp) hz'))
    obtain ⟨_, k4⟩ := h4.reads
    obtain ⟨_, k5⟩ := h5.reads
    have r : Reads h0 (.ref a) (.dict kvs) _ := .dict h1 h2 h3 k4 k5
    have hb : ReadAtMost h0 (PyData.depthKv kvs) (b1 ++ b2) := (hb1.mono (PyData.depthAll_keys_le kvs)).append (hb2.mono (PyData.depthAll_vals_le kvs))
    have hna : a ∉ b1 ++ b2 := not_mem_of_deeper r (by simp only [PyData.depth]; omega) hb
    refine ⟨a :: (b1 ++ b2), ReadAtMost.cons r (by simp only [PyData.depth]; omega) hb, ?_⟩
    simp only [PyData.depth, PyData.shown, PyData.shownKv_eq]
    exact ReprK.dict h1 h2 h3 hs hna (ReprEntriesK.of_two es.toList _ _
      (k1.more_le (fun b hb => List.mem_append_left _ hb) (PyData.depthAll_keys_le kvs)) (k2.more_le (fun b hb => List.mem_append_right _ hb) (PyData.depthAll_vals_le kvs)))
theorem cigsK (nd : h0.NoDigits) : ∀ {vs : List Value} {ds : List PyData}, RdSs h0 vs ds → fewsC ds = true → (∀ t ∈ PyData.shownAll ds, t.length ≤ sizeLine) →
    ∃ bs, ReadAtMost h0 (PyData.depthAll ds) bs ∧ ReprAllK prog w bs h0 (PyData.depthAll ds) vs (PyData.shownAll ds)
  | _, _, .nil, _, _ => ⟨[], nofun, by rw [PyData.shownAll]; exact .nil⟩
  | _, _, .cons (d := d) (ds := ds) r rs, hf, hz => by
    rw [PyData.shownAll] at hz
    simp only [fewsC, Bool.and_eq_true] at hf
    obtain ⟨b1, m1, k1⟩ := cigK nd r hf.1 (hz _ List.mem_cons_self)
    obtain ⟨b2, m2, k2⟩ := cigsK nd rs hf.2 fun t m => hz t (List.mem_cons_of_mem _ m)
    have le1 : d.depth ≤ PyData.depthAll (d :: ds) := by rw [PyData.depthAll]; exact Nat.le_max_left _ _
    have le2 : PyData.depthAll ds ≤ PyData.depthAll (d :: ds) := by rw [PyData.depthAll]; exact Nat.le_max_right _ _
    refine ⟨b1 ++ b2, (m1.mono le1).append (m2.mono le2), ?_⟩
    rw [PyData.shownAll]
    exact .cons ((k1.more fun b m => List.mem_append_left _ m).level_le le1) (k2.more_le (fun b m => List.mem_append_right _ m) le2)
end
/-- how an object at a place is shown: by the repr of its type -/
theorem shows_c {a : Addr} {d : PyData} (nd : h0.NoDigits) (r : RdS h0 (.ref a) d) (hf : fewC d = true) (hz : d.shown.length ≤ sizeLine) : ∃ T idr, ShowsBy prog w h0 a d T idr := by
  cases r with
  | @list _ o vs n xs h1 h2 h3 h4 =>
    have hz' := hz
    rw [PyData.shown] at hz'
    obtain ⟨bs, b1, b2⟩ := cigsK (prog := prog) (w := w) nd h4 (by simpa [fewC] using hf) fun t m => Nat.le_trans (listText_mem_le m) hz'
    obtain ⟨_, k4⟩ := h4.reads
    have out := not_mem_of_deeper (.list h1 h2 h3 k4) (n := PyData.depthAll xs) (bs := bs) (by rw [PyData.depth]; omega) b1
    refine ⟨"list", "list.__repr__", F.slot_list_repr.toG, F.slot_list_str, F.slot_list_format, fun s hk0 => ⟨o, hk0 _ _ h1, h2⟩, fun A E s Q hg hu hk0 hQ => ?_⟩
    rw [PyData.depth] at hu
    rcases vs with ⟨_ | ⟨y, l⟩⟩
    · cases (show RdSs h0 [] xs from h4)
      rw [PyData.shown, PyData.shownAll, listText_nil] at hQ
      exact call_list_repr_empty ⟨_, hk0 _ _ h1, h2⟩ (hk0 _ _ h1) h3 (hQ s.heap _ _ fun _ _ e => e)
    · rw [PyData.shown] at hQ
      exact call_list_reprK h1 h2 h3 out (by simpa using b2.length_eq) (fun i z e => b2.item i z (by simpa using e)) hg (fun b _ => Clear.nil b) (by omega) hk0 hQ hz'
  | @tuple _ o vs n xs h1 h2 h3 h4 =>
    have hz' := hz
    rw [PyData.shown] at hz'
    obtain ⟨bs, b1, b2⟩ := cigsK (prog := prog) (w := w) nd h4 (by simpa [fewC] using hf) fun t m => Nat.le_trans (tupleText_mem_le m) hz'
    obtain ⟨_, k4⟩ := h4.reads
    have out := not_mem_of_deeper (.tuple h1 h2 h3 k4) (n := PyData.depthAll xs) (bs := bs) (by rw [PyData.depth]; omega) b1
    refine ⟨"tuple", "tuple.__repr__", F.slot_tuple_repr, F.slot_tuple_str, F.slot_tuple_format, fun s hk0 => ⟨o, hk0 _ _ h1, h2⟩, fun A E s Q hg hu hk0 hQ => ?_⟩
    rw [PyData.depth] at hu
    rw [PyData.shown] at hQ
    exact call_tuple_reprK h1 h2 h3 out b2 hg (fun b _ => Clear.nil b) (by omega) hk0 hQ hz'
  | @dict _ o es n kvs h1 h2 h3 hs h4 h5 =>
    have hz' : (dictText (PyData.shownKv kvs)).length ≤ sizeLine := by simpa only [PyData.shown] using hz
    obtain ⟨f1, f2⟩ := fewKv_split kvs (by simpa [fewC] using hf)
    obtain ⟨b1, hb1, k1⟩ := cigsK (prog := prog) (w := w) nd h4 f1 (fun t ht => let ⟨p, hp, hl⟩ := PyData.shownKv_key_le kvs t ht; Nat.le_trans hl (Nat.le_trans (dictText_mem_le hp) hz'))
    obtain ⟨b2, hb2, k2⟩ := cigsK (prog := prog) (w := w) nd h5 f2 (fun t ht => let ⟨p, hp, hl⟩ := PyData.shownKv_val_le kvs t ht; Nat.le_trans hl (Nat.le_trans (dictText_mem_le hp) hz'))
    obtain ⟨_, k4⟩ := h4.reads
    obtain ⟨_, k5⟩ := h5.reads
    have hb : ReadAtMost h0 (PyData.depthKv kvs) (b1 ++ b2) := (hb1.mono (PyData.depthAll_keys_le kvs)).append (hb2.mono (PyData.depthAll_vals_le kvs))
    have hna : a ∉ b1 ++ b2 := not_mem_of_deeper (.dict h1 h2 h3 k4 k5) (by simp only [PyData.depth]; omega) hb
    refine ⟨"dict", "dict.__repr__", F.slot_dict_repr, F.slot_dict_str, F.slot_dict_format, fun s hk0 => ⟨o, hk0 _ _ h1, h2⟩, fun A E s Q hg hu hk0 hQ => ?_⟩
    simp only [PyData.depth] at hu
    simp only [PyData.shown, PyData.shownKv_eq] at hQ
    exact call_dict_reprK h1 h2 h3 hs hna (ReprEntriesK.of_two es.toList _ _
      (k1.more_le (fun b hb => List.mem_append_left _ hb) (PyData.depthAll_keys_le kvs)) (k2.more_le (fun b hb => List.mem_append_right _ hb) (PyData.depthAll_vals_le kvs))) hg (fun b _ => Clear.nil b) hu hk0 hQ (by rw [← PyData.shownKv_eq]; exact hz')
/-- repr(v) -/
theorem cig_repr {A : Around} {E : Value → Shared → Prop} {s : Shared} {Q : Value → Shared → Prop} {v : Value} {d : PyData} (r : RdS s.heap v d) (nd : s.heap.NoDigits) (hf : fewC d = true) (hz : d.shown.length ≤ sizeLine) (hg : A.guards = some []) (hu : A.units + d.depth + 1 < cLine)
    (q : ∀ h' u tk, (∀ b o, s.heap.get? b = some o → h'.get? b = some o) → Q (.str d.shown u) { s with heap := h', toks := tk }) : wpAny (model prog w) A (call (.builtin "repr") [v]) Q E s := by
  have leaf : fewB d = true → wpAny (model prog w) A (call (.builtin "repr") [v]) Q E s := fun h => by
    obtain ⟨_, k⟩ := r.reads
    exact big_repr k nd h hz hg hu q
  cases r with
  | none => exact leaf rfl
  | bool b => exact leaf rfl
  | int i t => exact leaf (by simpa [fewC, fewB] using hf)
  | str x t => exact leaf rfl
  | list h1 h2 h3 h4 =>
    obtain ⟨T, idr, S⟩ := shows_c (prog := prog) (w := w) nd (.list h1 h2 h3 h4) hf hz
    exact call_repr_slot (by omega) (S.typeIs s fun _ _ e => e) S.slotRepr (S.call A.in1 E s _ hg (by show A.units + 1 + _ < cLine; omega) (fun _ _ e => e) fun h' u tk k => ⟨_, _, rfl, q h' u tk k⟩)
  | tuple h1 h2 h3 h4 =>
    obtain ⟨T, idr, S⟩ := shows_c (prog := prog) (w := w) nd (.tuple h1 h2 h3 h4) hf hz
    exact call_repr_slot (by omega) (S.typeIs s fun _ _ e => e) S.slotRepr (S.call A.in1 E s _ hg (by show A.units + 1 + _ < cLine; omega) (fun _ _ e => e) fun h' u tk k => ⟨_, _, rfl, q h' u tk k⟩)
  | dict h1 h2 h3 h4 h5 h6 =>
    obtain ⟨T, idr, S⟩ := shows_c (prog := prog) (w := w) nd (.dict h1 h2 h3 h4 h5 h6) hf hz
    exact call_repr_slot (by omega) (S.typeIs s fun _ _ e => e) S.slotRepr (S.call A.in1 E s _ hg (by show A.units + 1 + _ < cLine; omega) (fun _ _ e => e) fun h' u tk k => ⟨_, _, rfl, q h' u tk k⟩)
end
end DL

/-! The data layer, 21: what data with places are; repr and str of them. -/
namespace DL
open PySem PySem.Spec PyProof.Rows L2
def allP (f : D → Option PyData) : List D → Option (List PyData)
  | [] => some []
  | d :: ds => match f d with
    | none => none
    | some p => (allP f ds).map (p :: ·)
def keyP : Key → PyData
  | .inl i => .int i
  | .inr x => .str x
/-- data as they stand in the store, nested at most n deep -/
def pyS (S : Store) : Nat → D → Option PyData
  | _, .non => some .none
  | _, .bl b => some (.bool b)
  | _, .int i => some (.int i)
  | _, .str x => some (.str x)
  | n + 1, .tup l => (allP (pyS S n) l).map .tuple
  | n + 1, .lst l => (allP (pyS S n) l).map .list
  | n + 1, .ref k => match S[k]? with
    | some (.lst l) => (allP (pyS S n) l).map .list
    | some (.dct ks ds) => (allP (pyS S n) ds).map fun ps => .dict ((ks.map keyP).zip ps)
    | _ => none
  | _, _ => none
theorem allP_len {f : D → Option PyData} : ∀ {l : List D} {ps : List PyData}, allP f l = some ps → ps.length = l.length
  | [], ps, h => by simp only [allP, Option.some.injEq] at h; subst h; rfl
  | d :: l, ps, h => by
    simp only [allP] at h
    cases q : f d with
    | none => rw [q] at h; cases h
    | some p =>
      rw [q] at h
      obtain ⟨qs, h1, rfl⟩ := Option.map_eq_some_iff.mp h
      simp [allP_len h1]
theorem depthAll_le {n : Nat} : ∀ {ps : List PyData}, (∀ p ∈ ps, p.depth ≤ n) → PyData.depthAll ps ≤ n
  | [], _ => by simp [PyData.depthAll]
  | p :: ps, h => by
    rw [PyData.depthAll]
    exact Nat.max_le.mpr ⟨h p List.mem_cons_self, depthAll_le fun q hq => h q (List.mem_cons_of_mem _ hq)⟩
theorem allP_mem {f : D → Option PyData} : ∀ {l : List D} {ps : List PyData}, allP f l = some ps → ∀ p ∈ ps, ∃ d ∈ l, f d = some p
  | [], ps, h => by simp only [allP, Option.some.injEq] at h; subst h; nofun
  | d :: l, ps, h => by
    simp only [allP] at h
    cases q : f d with
    | none => rw [q] at h; cases h
    | some p =>
      rw [q] at h
      obtain ⟨qs, h1, rfl⟩ := Option.map_eq_some_iff.mp h
      intro x hx
      rcases List.mem_cons.mp hx with rfl | hx
      · exact ⟨d, List.mem_cons_self, q⟩
      · obtain ⟨e, he, h2⟩ := allP_mem h1 x hx
        exact ⟨e, List.mem_cons_of_mem _ he, h2⟩
theorem depthKv_zip {n : Nat} : ∀ (ks : List Key) (ps : List PyData), (∀ p ∈ ps, p.depth ≤ n) → PyData.depthKv ((ks.map keyP).zip ps) ≤ n
  | [], ps, _ => by simp [PyData.depthKv]
  | k :: ks, [], _ => by simp [PyData.depthKv]
  | k :: ks, p :: ps, h => by
    simp only [List.map_cons, List.zip_cons_cons, PyData.depthKv]
    have h1 := h p List.mem_cons_self
    have h2 := depthKv_zip ks ps fun q hq => h q (List.mem_cons_of_mem _ hq)
    have h3 : (keyP k).depth = 0 := by cases k <;> simp [keyP, PyData.depth]
    omega
theorem pyS_depth (S : Store) : ∀ (n : Nat) (d : D) (p : PyData), pyS S n d = some p → p.depth ≤ n := by
  intro n
  induction n with
  | zero =>
    intro d p h
    cases d <;> simp only [pyS, Option.some.injEq] at h <;> first | (cases h; done) | (subst h; simp [PyData.depth])
  | succ n ih =>
    intro d p h
    cases d with
    | tup l =>
      simp only [pyS] at h
      obtain ⟨ps, h1, rfl⟩ := Option.map_eq_some_iff.mp h
      rw [PyData.depth]
      have := depthAll_le fun q hq => let ⟨e, _, he⟩ := allP_mem h1 q hq; ih e q he
      omega
    | lst l =>
      simp only [pyS] at h
      obtain ⟨ps, h1, rfl⟩ := Option.map_eq_some_iff.mp h
      rw [PyData.depth]
      have := depthAll_le fun q hq => let ⟨e, _, he⟩ := allP_mem h1 q hq; ih e q he
      omega
    | ref k =>
      simp only [pyS] at h
      split at h
      · obtain ⟨ps, h1, rfl⟩ := Option.map_eq_some_iff.mp h
        rw [PyData.depth]
        have := depthAll_le fun q hq => let ⟨e, _, he⟩ := allP_mem h1 q hq; ih e q he
        omega
      · rename_i ks ds _
        obtain ⟨ps, h1, rfl⟩ := Option.map_eq_some_iff.mp h
        rw [PyData.depth]
        have := depthKv_zip ks ps fun q hq => let ⟨e, _, he⟩ := allP_mem h1 q hq; ih e q he
        omega
      · cases h
    | _ => simp only [pyS, Option.some.injEq] at h <;> first | (cases h; done) | (subst h; simp [PyData.depth])
section
variable {X : Cx} {pins : List (Addr × Obj)} {σ : L2.St} {H : Hp} {s : Shared} {P F : Hp} {μ : List Addr} {S : Store}
theorem allP_rds {f : D → Option PyData} (hf : ∀ (d : D) (v : V) (u : Value) (p : PyData), f d = some p → Rep (gX X) F μ d v → RelV v u → RdS s.heap u p) : ∀ (l : List D) {xs : List V} {us : List Value} {ps : List PyData}, allP f l = some ps → Reps (gX X) F μ l xs → Vals xs us → RdSs s.heap us ps
  | [], xs, us, ps, h, r, v => by
    simp only [allP, Option.some.injEq] at h
    simp only [Reps] at r
    subst h r
    cases v
    exact .nil
  | d :: l, xs, us, ps, h, r, v => by
    simp only [allP] at h
    simp only [Reps] at r
    obtain ⟨x, ys, rfl, r1, r2⟩ := r
    cases v with
    | cons v1 v2 =>
      cases q : f d with
      | none => rw [q] at h; cases h
      | some p =>
        rw [q] at h
        obtain ⟨qs, h1, rfl⟩ := Option.map_eq_some_iff.mp h
        exact .cons (hf d _ _ p q r1 v1) (allP_rds hf l h1 r2 v2)
theorem dict_keys {Pg : Program} {w : World} {h : Heap} : ∀ {ks : List Key} {xs : List V} {kvs : List (Key × Value)} {es : List DictEntry}, ks.length = xs.length → KV (ks.zip xs) kvs → Pairs (mixKind Pg w) es kvs → RdSs h (es.map (·.key)) (ks.map keyP) ∧ Vals xs (es.map (·.val))
  | [], xs, kvs, es, hl, r, p => by
    have : xs = [] := by cases xs with | nil => rfl | cons _ _ => simp at hl
    subst this
    unfold KV at r
    cases r
    cases p
    exact ⟨.nil, .nil⟩
  | k :: ks, [], kvs, es, hl, r, p => by simp at hl
  | k :: ks, x :: xs, kvs, es, hl, r, p => by
    unfold KV at r
    simp only [List.zip_cons_cons] at r
    cases r with
    | @cons _ b _ bs r1 r2 =>
      cases p with
      | @cons e _ es' _ p1 p2 p3 =>
        obtain ⟨i1, i2⟩ := dict_keys (Pg := Pg) (w := w) (h := h) (by simpa using hl) r2 p3
        refine ⟨.cons ?_ i1, .cons (by show L2.RelV x e.val; rw [p2]; exact r1.2) i2⟩
        show RdS h e.key (keyP k)
        have p1' : keyIs b.1 e.key = true := p1
        have e0 : k = b.1 := r1.1
        rcases keyIs_shape p1' with ⟨i, t, q1, q2⟩ | ⟨y, t, q1, q2⟩
        · rw [e0, q1, q2]; exact .int i t
        · rw [e0, q1, q2]; exact .str y t
theorem pyS_rd (I : Inv X pins σ H s) (r : Rel (gX X) P F μ S H) : ∀ (n : Nat) (d : D) (v : V) (u : Value) (p : PyData), pyS S n d = some p → Rep (gX X) F μ d v → RelV v u → RdS s.heap u p := by
  have leaf : ∀ (d : D) (v : V) (u : Value) (p : PyData), (d = .non ∧ p = .none ∨ (∃ b, d = .bl b ∧ p = .bool b) ∨ (∃ i, d = .int i ∧ p = .int i) ∨ ∃ x, d = .str x ∧ p = .str x) → Rep (gX X) F μ d v → RelV v u → RdS s.heap u p := by
    intro d v u p h rp rv
    rcases h with ⟨rfl, rfl⟩ | ⟨b, rfl, rfl⟩ | ⟨i, rfl, rfl⟩ | ⟨x, rfl, rfl⟩
    · rw [rp.non] at rv; cases rv; exact .none
    · rw [rp.bl] at rv; cases rv; exact .bool b
    · rw [rp.int] at rv; obtain ⟨t, rfl⟩ := rv; exact .int i t
    · rw [rp.str] at rv; obtain ⟨t, rfl⟩ := rv; exact .str x t
  intro n
  induction n with
  | zero =>
    intro d v u p h rp rv
    cases d <;> simp only [pyS, Option.some.injEq] at h <;> first | (cases h; done) | skip
    · exact leaf _ v u p (.inl ⟨rfl, h.symm⟩) rp rv
    · exact leaf _ v u p (.inr (.inl ⟨_, rfl, h.symm⟩)) rp rv
    · exact leaf _ v u p (.inr (.inr (.inl ⟨_, rfl, h.symm⟩))) rp rv
    · exact leaf _ v u p (.inr (.inr (.inr ⟨_, rfl, h.symm⟩))) rp rv
  | succ n ih =>
    intro d v u p h rp rv
    have lst : ∀ {a : Addr} {l : List D} {xs : List V} {ps : List PyData}, allP (pyS S n) l = some ps → SqL X.K H a xs → Reps (gX X) F μ l xs → RdS s.heap (.ref a) (.list ps) := fun {a l xs ps} h1 hs hr => by
      obtain ⟨its, rx, ⟨o, m, ho, hc, _, hd⟩, _⟩ := I.list hs
      exact .list ho hc hd (by simpa using allP_rds ih l h1 hr rx)
    cases d with
    | tup l =>
      simp only [pyS] at h
      obtain ⟨ps, h1, rfl⟩ := Option.map_eq_some_iff.mp h
      obtain ⟨a, xs, rfl, hs, hr⟩ := rp.tup r
      cases rv
      obtain ⟨its, rx, ⟨o, ho, hc, m, hd⟩, _⟩ := I.tuple hs
      exact .tuple ho hc hd (by simpa using allP_rds ih l h1 hr rx)
    | lst l =>
      simp only [pyS] at h
      obtain ⟨ps, h1, rfl⟩ := Option.map_eq_some_iff.mp h
      obtain ⟨a, xs, rfl, hs, hr⟩ := rp.lst r
      cases rv
      exact lst h1 hs hr
    | ref k =>
      simp only [pyS] at h
      split at h
      · rename_i l q
        obtain ⟨ps, h1, rfl⟩ := Option.map_eq_some_iff.mp h
        obtain ⟨a, xs, rfl, _, h2, hr⟩ := rp.refL r q
        cases rv
        exact lst h1 (.of h2) hr
      · rename_i ks ds q
        obtain ⟨ps, h1, rfl⟩ := Option.map_eq_some_iff.mp h
        simp only [Rep] at rp
        obtain ⟨a, hm, rfl⟩ := rp
        cases rv
        rcases r.live k _ a q hm with ⟨z, _⟩ | ⟨o, hF, hu, xs, rfl, hr, hl⟩
        · cases z
        · obtain ⟨_, hsys, kvs, rel, o, es, ep, ho, hx, hd, _, hp, _⟩ := dk_of I.hok hu
          have lx : ks.length = xs.length := by rw [hl, hr.length]
          obtain ⟨k1, k2⟩ := dict_keys (h := s.heap) lx rel hp
          have lp : ps.length = ks.length := by rw [allP_len h1, hl]
          have z1 : (((ks.map keyP).zip ps).map (·.1)) = ks.map keyP := by
            rw [← List.unzip_fst, List.unzip_zip (by simp [lp])]
          have z2 : (((ks.map keyP).zip ps).map (·.2)) = ps := by
            rw [← List.unzip_snd, List.unzip_zip (by simp [lp])]
          exact .dict ho hx.1 hd hsys (by rw [z1]; exact k1) (by rw [z2]; exact allP_rds ih ds h1 hr k2)
      · cases h
    | non => simp only [pyS, Option.some.injEq] at h; exact leaf _ v u p (.inl ⟨rfl, h.symm⟩) rp rv
    | bl b => simp only [pyS, Option.some.injEq] at h; exact leaf _ v u p (.inr (.inl ⟨_, rfl, h.symm⟩)) rp rv
    | int i => simp only [pyS, Option.some.injEq] at h; exact leaf _ v u p (.inr (.inr (.inl ⟨_, rfl, h.symm⟩))) rp rv
    | str x => simp only [pyS, Option.some.injEq] at h; exact leaf _ v u p (.inr (.inr (.inr ⟨_, rfl, h.symm⟩))) rp rv
    | _ => simp only [pyS] at h; cases h
end
/-- repr(x), x with places within -/
def reprS (x : D) : M D := fun S => match pyS S 55 x with
  | some p => if fewC p = true ∧ p.shown.length ≤ sizeLine then .ok (.str p.shown) S else .stuck
  | none => .stuck
theorem cd_reprS {X : Cx} (nd : X.base.NoDigits) (hg : X.A.guards = some []) (hu : X.A.units + 64 < cLine) : CallD X (.builtin "repr") (one reprS) := by
  intro pins s σ H vs us Q I rv ⟨ds, P, F, μ, S, E, rl, rx, k⟩
  obtain ⟨d, v, rfl, p, k⟩ := one_fin k rx
  unfold reprS at k
  cases q : pyS S 55 d with
  | none => rw [q] at k; exact k.elim
  | some y =>
    rw [q] at k
    simp only at k
    split at k
    · rename_i hc
      obtain ⟨u, rfl, ru⟩ := vals1 rv
      have rd := pyS_rd I rl 55 d v u y q p ru
      have hd := pyS_depth S 55 d y q
      exact cig_repr rd (nd_here I nd) hc.1 hc.2 hg (by omega) fun h' u tk hk => ⟨.str _, H, I.kept (t' := tk) hk, ⟨_, rfl⟩, k.here rl rep_str⟩
    · exact k.elim
end DL

/-! The data layer, 22: str of tuples, repeated tuples, dict displays, // of large numbers. -/
namespace DL
open PySem PySem.Spec PyProof.Rows L2
/-! ### str -/
def strS : D → M D
  | .tup l, S => match pyS S 55 (.tup l) with
    | some p => if fewC p = true ∧ p.shown.length ≤ sizeLine then .ok (.str p.shown) S else .stuck
    | none => .stuck
  | d, S => strD d S
theorem str_c {prog : Program} {w : World} {A : Around} {E : Value → Shared → Prop} {s : Shared} {Q : Value → Shared → Prop} {a : Addr} {d : PyData} (r : RdS s.heap (.ref a) d) (nd : s.heap.NoDigits) (hf : fewC d = true) (hz : d.shown.length ≤ sizeLine) (hg : A.guards = some []) (hu : A.units + (d.depth + 3) < cLine)
    (q : ∀ h' u tk, (∀ b o, s.heap.get? b = some o → h'.get? b = some o) → Q (.str d.shown u) { s with heap := h', toks := tk }) : wpAny (model prog w) A (call (.type "str") [.ref a]) Q E s :=
  callType_new F.called_str (by decide) (F.typeCall_str_1 _) (F.newCall_str_1 _) (fun obj => F.args_object_init_2 obj _) F.entry_str_new
    (meets_str_new (S := fun A' R s' => A'.guards = some [] ∧ A'.units + (d.depth + 2) < cLine ∧ (∀ b o, s.heap.get? b = some o → s'.heap.get? b = some o) ∧
        ∀ h' u tk, (∀ b o, s'.heap.get? b = some o → h'.get? b = some o) → R (.ok (.ret (.str d.shown u))) { s' with heap := h', toks := tk })
      fun prog' w' A' R s' h => by
        obtain ⟨T, idr, Sh⟩ := shows_c (prog := prog') (w := w') nd r hf hz
        exact wpAny_strOf_slot rfl (by show A'.units + 1 + _ < cLine; have := h.2.1; omega) (Sh.typeIs s' h.2.2.1) Sh.slotStr Sh.slotRepr (Sh.call A'.in1.in1 _ s' _ h.1 (by show A'.units + 1 + 1 + d.depth < cLine; have := h.2.1; omega) h.2.2.1 fun h' u tk hk => ⟨_, _, rfl, h.2.2.2 h' u tk hk⟩))
    ⟨hg, by show A.units + 1 + (d.depth + 2) < cLine; omega, fun _ _ e => e, fun h' u tk hk => ⟨typeIs_str _ _ _, q h' u tk hk⟩⟩
theorem cd_strS {X : Cx} (nd : X.base.NoDigits) (hg : X.A.guards = some []) (hu : X.A.units + 64 < cLine) : CallD X (.type "str") (one strS) := by
  intro pins s σ H vs us Q I rv ⟨ds, P, F, μ, S, E, rl, rx, k⟩
  obtain ⟨d, v, rfl, p, k⟩ := one_fin k rx
  unfold strS at k
  split at k
  · rename_i l
    cases q : pyS S 55 (.tup l) with
    | none => rw [q] at k; exact k.elim
    | some y =>
      rw [q] at k
      simp only at k
      split at k
      · rename_i hc
        obtain ⟨u, rfl, ru⟩ := vals1 rv
        have rd := pyS_rd I rl 55 (.tup l) v u y q p ru
        have hd := pyS_depth S 55 (.tup l) y q
        obtain ⟨a, xs, rfl, _⟩ := p.tup rl
        cases ru
        exact str_c rd (nd_here I nd) hc.1 hc.2 hg (by omega) fun h' u tk hk => ⟨.str _, H, I.kept (t' := tk) hk, ⟨_, rfl⟩, k.here rl rep_str⟩
      · exact k.elim
  · exact cd_str pins s σ H _ us Q I rv ⟨[d], P, F, μ, _, E, rl, reps_cons p reps_nil, k⟩
/-! ### t * n -/
def mulS : D → D → M D
  | .tup l, .int k, S => if l ≠ [] ∧ 2 ≤ k ∧ k ≤ 5000 ∧ l.length ≤ 1000 then .ok (.tup (List.replicate k.toNat l).flatten) S else .stuck
  | x, y, S => mulD x y S
theorem reps_flat {g : G} {F : Hp} {μ : List Addr} {l : List D} {xs : List V} (h : Reps g F μ l xs) : ∀ n : Nat, Reps g F μ (List.replicate n l).flatten (List.replicate n xs).flatten
  | 0 => by simpa using reps_nil
  | n + 1 => by
    rw [List.replicate_succ, List.replicate_succ, List.flatten_cons, List.flatten_cons]
    exact h.append (reps_flat h n)
theorem vals_flat {xs : List V} {its : List Value} (h : Vals xs its) : ∀ n : Nat, Vals (List.replicate n xs).flatten (List.replicate n its).flatten
  | 0 => .nil
  | n + 1 => by
    rw [List.replicate_succ, List.replicate_succ, List.flatten_cons, List.flatten_cons]
    exact h.append (vals_flat h n)
theorem op_repN {X : Cx} : OpR X (binaryOp .Mult) (fun x y H Q => ∃ l k xs, x = .ref l ∧ y = .int k ∧ SqT X.K H l xs ∧ xs ≠ [] ∧ 2 ≤ k ∧ k ≤ 5000 ∧ xs.length ≤ 1000 ∧ ∀ (p : Addr) (ob : Obj), H p = none → ob.dict = none → Q (.ref p) (upd H p (.frz ob (.tup (List.replicate k.toNat xs).flatten)))) := by
  intro pins s σ H x y v u Q I rx ry h
  obtain ⟨l, k, xs, rfl, rfl, hT, hne, h1, h2, hz, q⟩ := h
  cases rx
  obtain ⟨t, rfl⟩ := ry
  obtain ⟨its, r, ⟨⟨cls, dd, data, sl⟩, ho, hc, n, hd⟩, hs⟩ := I.tuple hT
  simp only at hc hd
  subst hc hd
  have hle : its.length = xs.length := r.length.symm
  have hn : its ≠ [] := fun e => hne (by
    rw [e] at hle
    exact List.eq_nil_of_length_eq_zero hle.symm)
  have hi : its.toArray.isEmpty = false := by
    cases its with
    | nil => exact absurd rfl hn
    | cons a b => rfl
  have hsz0 : its.toArray.size = xs.length := by rw [List.size_toArray, hle]
  have hm : ((its.toArray.size : Nat) : Int) * k ≤ 5000000 := by
    rw [hsz0]
    have a1 : ((xs.length : Nat) : Int) * k ≤ 1000 * k := Int.mul_le_mul_of_nonneg_right (by omega) (by omega)
    omega
  have flen : (List.replicate k.toNat its).flatten.length ≤ sizeLine := by
    rw [PyProof.Rows.lm_len_rep_flat, hle, sizeLine_eq]
    have a1 : k.toNat * xs.length ≤ 5000 * 1000 := Nat.mul_le_mul (by omega) hz
    omega
  have c0 : (decide (k < -(2 ^ 63)) || decide (k ≥ 2 ^ 63)) = false := by
    rw [decide_eq_false (by omega), decide_eq_false (by omega)] <;> rfl
  have c1 : (its.toArray.isEmpty || k == 1) = false := by
    rw [hi, Bool.false_or]
    exact beq_eq_false_iff_ne.mpr (by omega)
  have c2 : (decide (k ≤ 0) || its.toArray.isEmpty) = false := by
    rw [hi, Bool.or_false]
    exact decide_eq_false (by omega)
  have c4 : Builtin.Tuple.tupleTooMany (((its.toArray.size : Nat) : Int) * k) = false := by
    unfold Builtin.Tuple.tupleTooMany
    rw [sizeLine_eq]
    exact decide_eq_false (by omega)
  refine wpAny_binaryOp_repeat_ref (T := "tuple") (U := "int") (by decide) ⟨_, ho, rfl⟩ (fun s' => typeIs_int s' k t) noFill_tuple_mul F.fills_int_mul F.slot_int_rmul repeat_tuple F.slot_int_index.lookup
    (call_meets F.slot_int_rmul (typeIs_int s k t) F.entry_int_rmul (F.args_int_rmul_2 _ _) (int_rmul_tuple k t l its.toArray n dd sl)
      ⟨ho, rfl, ⟨_, ho, rfl⟩, call_meets F.slot_tuple_mul ⟨_, ho, rfl⟩ F.entry_tuple_mul (F.args_tuple_mul_2 _ _) (tuple_mulW l its.toArray n dd sl k t c0 c1 c2 (by omega) c4 (by rw [size_rep, List.size_toArray]; exact flen)) ⟨ho, ?_⟩⟩)
  rw [size_rep]
  exact ⟨.ref s.heap.objs.size, _, tup_laid (t' := s.toks) I (vals_flat r k.toNat) (by rw [(vals_flat r k.toNat).length]; exact flen), rfl, q _ _ (I.hok.fresh (Nat.le_refl _)) rfl⟩
theorem od_mulS {X : Cx} : OpD X (binaryOp .Mult) mulS := by
  intro pins s σ H v w u u' Q I rv rw h
  obtain ⟨x, y, P, F, μ, S, E, rl, rx, ry, k⟩ := h
  unfold mulS at k
  split at k
  · split at k
    · rename_i hc
      obtain ⟨a, xs, e1, h1, p1⟩ := rx.tup rl
      have l1 := p1.length
      refine op_repN pins s σ H _ _ _ _ Q I rv rw ⟨a, _, xs, e1, ry.int, h1, fun z => hc.1 ?_, hc.2.1, hc.2.2.1, by omega, fun p ob hp ho => k.newT rl (reps_flat p1 _) hp ho⟩
      rw [z] at l1
      exact List.eq_nil_of_length_eq_zero l1
    · exact k.elim
  · exact od_mul pins s σ H _ _ _ _ Q I rv rw ⟨_, _, P, F, μ, _, E, rl, rx, ry, k⟩
/-! ### i // j -/
def fdivS : D → D → M D
  | .int i, .int j, S => if j ≠ 0 ∧ (j.natAbs.log2 < 9000 ∨ i.natAbs.log2 < 13400) then .ok (.int (i.fdiv j)) S else .stuck
  | _, _, _ => .stuck
theorem noPylong_both {x y : Int} (h : x.natAbs.log2 < 13400) : Builtin.divisionGoesByPylong x y = false := by
  have key : (if x == 0 then 0 else x.natAbs.log2 / 30 + 1) ≤ 447 := by
    by_cases hx : (x == 0) = true
    · rw [if_pos hx]; exact Nat.zero_le _
    · rw [if_neg hx]; omega
  show (decide ((if y == 0 then 0 else y.natAbs.log2 / 30 + 1) > 300) && decide ((if x == 0 then 0 else x.natAbs.log2 / 30 + 1) > (if y == 0 then 0 else y.natAbs.log2 / 30 + 1) + 150)) = false
  generalize (if y == 0 then 0 else y.natAbs.log2 / 30 + 1) = b at *
  generalize (if x == 0 then 0 else x.natAbs.log2 / 30 + 1) = a at *
  by_cases h1 : b > 300
  · rw [decide_eq_false (show ¬ a > b + 150 by omega), Bool.and_false]
  · rw [decide_eq_false h1, Bool.false_and]
theorem op_fdivS {X : Cx} : OpR X (binaryOp .FloorDiv) (rI (fun i j => j ≠ 0 ∧ (j.natAbs.log2 < 9000 ∨ i.natAbs.log2 < 13400)) fun i j => .int (i.fdiv j)) := opI fun i j _ _ _ _ _ hc q => floordiv_int hc.1 q (.inl (by
  rcases hc.2 with h | h
  · exact PyProof.noPylong_of_log2 h
  · exact noPylong_both h))
theorem od_fdivS {X : Cx} : OpD X (binaryOp .FloorDiv) fdivS := by
  intro pins s σ H v w u u' Q I rv rw h
  obtain ⟨x, y, P, F, μ, S, E, rl, rx, ry, k⟩ := h
  unfold fdivS at k
  split at k
  · split at k
    · rename_i hc
      exact op_fdivS pins s σ H _ _ _ _ Q I rv rw ⟨_, _, rx.int, ry.int, hc, k.here rl rep_int⟩
    · exact k.elim
  · exact k.elim
/-! ### {..} -/
/-- {} -/
def mDct0 : EM := fun ρ S => .ok (.ref S.length) (S ++ [.dct [] []])
theorem d_dct0 {X : Cx} {W : WX} {pos : Pos} : DE X W (.Dict [] [] pos) mDct0 := by
  refine PE.weak pe_dnewK fun σ H Q ⟨P, ρ, F, μ, S, en, rl, k⟩ => ?_
  intro p hp
  have g0 : Gr F μ F (μ ++ [p]) := ⟨fun _ _ h => h, fun n q h => by
    have : n < μ.length := (List.getElem?_eq_some_iff.mp h).1
    rw [List.getElem?_append_left this]; exact h⟩
  obtain ⟨r1, g1, e1⟩ := rl.push (u := .dK []) (o := .dct [] []) hp ⟨[], rfl, reps_nil, rfl⟩
  have k' : Fin (repD (gX X)) (gX X) P F μ (.ok (.ref S.length) (S ++ [.dct [] []])) Q (fun c d H' => W c d σ H') := k
  exact (k'.gr g1).here r1 (by simp only [Rep]; exact ⟨p, e1, rfl⟩)
/-- the values of a display, in their order -/
def mVals : List EM → AM
  | [] => mNil
  | f :: fs => mCons f (mVals fs)
def mDct (ks : List Key) (fs : List EM) : EM := fun ρ S => (mVals fs ρ S).bind fun ds S => if ks.length = ds.length then .ok (.ref S.length) (S ++ [.dct ks ds]) else .stuck
theorem pairs_run {X : Cx} {W : WX} {P : Hp} {ρ : Env} {σ : L2.St} : ∀ (l : List (Key × EM)) {F : Hp} {μ : List Addr} {S : Store} {H : Hp} {Q : List (V × V) → Hp → Prop}, EnvR (gX X) F μ ρ σ → Rel (gX X) P F μ S H →
    Fin (repA (gX X)) (gX X) P F μ (mVals (l.map (·.2)) ρ S) (fun vs H' => Q ((l.map fun x => kV x.1).zip vs) H') (fun c d H' => W c d σ H') → tPairs (l.map fun x => (tC (kV x.1), tD (gX X) W x.2)) σ H Q
  | [], F, μ, S, H, Q, en, rl, k => by
    have k' : Fin (repA (gX X)) (gX X) P F μ (.ok [] S) (fun vs H' => Q [] H') (fun c d H' => W c d σ H') := k
    exact k'.here rl reps_nil
  | (kx, f) :: l, F, μ, S, H, Q, en, rl, k => by
    have k' : Fin (repA (gX X)) (gX X) P F μ ((f ρ S).bind fun a S => (mVals (l.map (·.2)) ρ S).bind fun as S => .ok (a :: as) S) (fun vs H' => Q ((kV kx :: l.map fun x => kV x.1).zip vs) H') (fun c d H' => W c d σ H') := k
    show tD (gX X) W f σ H fun y H2 => tPairs (l.map fun x => (tC (kV x.1), tD (gX X) W x.2)) σ H2 fun ps H3 => Q ((kV kx, y) :: ps) H3
    refine tD.run en rl (Fin.imp (Fin.bind (rep := repD (gX X)) k') (fun v H1 ⟨a, F1, μ1, S1, g1, r1, p1, k1⟩ => ?_) fun _ _ _ z => z)
    refine pairs_run l (en.mono g1) r1 (Fin.imp (Fin.bind (rep := repA (gX X)) k1) (fun vs H2 ⟨b, F2, μ2, S2, g2, r2, p2, k2⟩ => ?_) fun _ _ _ z => z)
    exact k2.here r2 (reps_cons (p1.mono g2) p2)
theorem merge_zip : ∀ (ks2 : List Key) (ys : List V) (ks : List Key) (xs : List V), ks.length = xs.length → ks2.length = ys.length → (ks ++ ks2).Nodup → mergeK (ks.zip xs) (ks2.zip ys) = (ks ++ ks2).zip (xs ++ ys)
  | [], ys, ks, xs, h1, h2, h3 => by
    have : ys = [] := List.eq_nil_of_length_eq_zero h2.symm
    subst this
    simp [mergeK]
  | k :: ks2, [], ks, xs, h1, h2, h3 => by simp at h2
  | k :: ks2, y :: ys, ks, xs, h1, h2, h3 => by
    have hk : k ∉ ks := fun m => by
      have := (List.nodup_append.mp h3).2.2 k m k List.mem_cons_self
      exact this rfl
    have e := DL.putK_new (v := y) h1 hk
    have ih := merge_zip ks2 ys (ks ++ [k]) (xs ++ [y]) (by simp [h1]) (by simpa using h2) (by simpa using h3)
    show mergeK (putK (ks.zip xs) k y) (ks2.zip ys) = _
    rw [e, ih]
    simp
theorem d_dct {X : Cx} {W : WX} {pos : Pos} {keys : List (Option Expr)} {values : List Expr} (l : List (Key × EM)) (h : PPs X pos keys values (l.map fun x => (tC (kV x.1), tD (gX X) W x.2))) (hnd : (l.map (·.1)).Nodup) (h15 : l.length ≤ 15) (hk : keys.length = l.length) (hall : keys.all (·.isSome) = true) (hl : keys.length = values.length) (h0 : keys ≠ []) :
    DE X W (.Dict keys values pos) (mDct (l.map (·.1)) (l.map (·.2))) := by
  refine PE.weak (pe_disp h hall hl h0 (by rw [hk]; exact h15)) fun σ H Q ⟨P, ρ, F, μ, S, en, rl, k⟩ => ?_
  intro p hp
  have nP : P p = none := by
    cases e : P p with
    | none => rfl
    | some u => rw [(rl.priv p u e).1] at hp; cases hp
  have up : ∀ a o, P a = some o → upd P p (.dK []) a = some o := fun a o e => by rw [upd_ne (ne_of_none e nP)]; exact e
  refine pairs_run l en (rl.hide hp) ?_
  unfold mDct at k
  cases q : mVals (l.map (·.2)) ρ S with
  | stuck => rw [q] at k; exact k.elim
  | exn e S1 =>
    rw [q] at k
    exact fun F' μ' H' c d g1 r1 p1 => k F' μ' H' c d g1 (r1.less up) p1
  | ok ds S1 =>
    rw [q] at k
    intro F' μ' H' vs g1 r1 p1
    have k1 := Fin.gr g1 k
    rw [R.bind_ok] at k1
    split at k1
    rotate_left
    · exact k1.elim
    rename_i hlen
    have lv : (l.map (·.1)).length = vs.length := by rw [hlen, p1.length]
    have hH : H' p = some (.dK []) := (r1.priv p _ upd_same).1
    refine ⟨hH, (l.map (·.1)).zip vs, ?_, by simp [List.length_zip]; omega, ?_⟩
    · have e1 : (l.map fun x => kV x.1) = (l.map (·.1)).map kV := by rw [List.map_map]; rfl
      rw [e1]
      have : ∀ (a : List Key) (b : List V), (a.map kV).zip b = (a.zip b).map fun kv => (kV kv.1, kv.2) := fun a b => by
        rw [List.zip_map_left]
        rfl
      exact this _ _
    · have em : mergeK [] ((l.map (·.1)).zip vs) = (l.map (·.1)).zip vs := by
        have := merge_zip (l.map (·.1)) vs [] [] rfl lv (by simpa using hnd)
        simpa using this
      rw [em]
      have r2 := r1.hidden (o' := .dK ((l.map (·.1)).zip vs)) upd_same
      have g0 : Gr F' μ' F' (μ' ++ [p]) := ⟨fun _ _ h => h, fun n q h => by
        have : n < μ'.length := (List.getElem?_eq_some_iff.mp h).1
        rw [List.getElem?_append_left this]; exact h⟩
      obtain ⟨r4, g4, e4⟩ := r2.place (P' := P) (u := .dK ((l.map (·.1)).zip vs)) (o := .dct (l.map (·.1)) ds) upd_same (fun a o e => by rw [upd_ne (ne_of_none e nP)]; exact up a o e) nP ⟨vs, rfl, p1.mono g0, hlen⟩
      exact (Fin.gr g4 k1).here r4 (by simp only [Rep]; exact ⟨p, e4, rfl⟩)
end DL

/-! The data layer, 23: texts: join, split, f-strings. -/
namespace DL
open PySem PySem.Spec PyProof.Rows L2
/-- texts of data -/
def strsD : List D → Option (List Str)
  | [] => some []
  | .str x :: ds => (strsD ds).map (x :: ·)
  | _ :: _ => none
theorem strs_reps {g : G} {F : Hp} {μ : List Addr} : ∀ {ds : List D} {ys : List Str} {vs : List V}, strsD ds = some ys → Reps g F μ ds vs → vs = ys.map V.str
  | [], ys, vs, e, h => by
    simp only [strsD, Option.some.injEq] at e
    subst e
    simpa [Reps] using h
  | d :: ds, ys, vs, e, h => by
    cases d <;> simp only [strsD] at e <;> first | (cases e; done) | skip
    rename_i x
    obtain ⟨zs, e1, rfl⟩ := Option.map_eq_some_iff.mp e
    simp only [Reps] at h
    obtain ⟨v, ws, rfl, h1, h2⟩ := h
    rw [h1.str, strs_reps e1 h2]
    rfl
def joinD : D → D → M D
  | .str a, y, S => match seqOf y S with
    | some l => match strsD l with
      | some ys => if (ys.map (·.length)).sum + ys.length * a.length ≤ 16777216 then .ok (.str (Txt.join a ys)) S else .stuck
      | none => .stuck
    | none => .stuck
  | _, _, _ => .stuck
def isS (d : D) : Bool := match d with
  | .str _ => true
  | _ => false
/-- o.m(e), o a text -/
def mStr1 (m : D → D → M D) (fo fe : EM) : EM := fun ρ S => (fo ρ S).bind fun x S => if isS x then (fe ρ S).bind fun y S => m x y S else .stuck
section
variable {X : Cx} {W : WX} {o e : Expr} {fo fe : EM} {apos pos : Pos}
theorem str1_run {r : V → List V → Hp → VK → Prop} {m : D → D → M D} (hr : ∀ (P F : Hp) (μ : List Addr) (S : Store) (H : Hp) (x y : D) (v w : V) (Q : VK) (E : XK), Rel (gX X) P F μ S H → Rep (gX X) F μ x v → Rep (gX X) F μ y w → Fin (repD (gX X)) (gX X) P F μ (m x y S) Q E → r v [w] H Q) :
    ∀ σ H Q, tD (gX X) W (mStr1 m fo fe) σ H Q → tM1 r (tD (gX X) W fo) (tD (gX X) W fe) σ H Q := fun σ H Q ⟨P, ρ, F, μ, S, en, rl, k⟩ => by
  refine tD.run en rl (Fin.imp (Fin.bind (rep := repD (gX X)) k) (fun v H1 ⟨x, F1, μ1, S1, g1, r1, p1, k1⟩ => ?_) fun _ _ _ z => z)
  cases x <;> simp only [isS, Bool.false_eq_true, if_false, if_true] at k1 <;> first | exact k1.elim | skip
  rename_i a
  refine ⟨⟨a, p1.str⟩, ?_⟩
  refine tD.run (en.mono g1) r1 (Fin.imp (Fin.bind (rep := repD (gX X)) k1) (fun w H2 ⟨y, F2, μ2, S2, g2, r2, p2, k2⟩ => ?_) fun _ _ _ z => z)
  exact hr P F2 μ2 S2 H2 (.str a) y v w Q _ r2 (p1.mono g2) p2 k2
theorem d_join (ho : DE X W o fo) (he : DE X W e fe) (hs : starEach [e] X.env = [(false, eval e X.env)] := by rfl) (hbase : attributeBase o "join" X.env (eval o X.env) = eval o X.env := by rfl) (hline : (apos.endLine == pos.line) = true := by rfl) :
    DE X W (.Call (.Attribute o "join" apos) [e] [] pos) (mStr1 joinD fo fe) := by
  refine PE.weak (pe_m1 F.slot_str_join F.type_str_join mt_join ho he hs hbase hline) (str1_run fun P F μ S H x y v w Q E rl px py k => ?_)
  unfold joinD at k
  split at k
  · split at k
    · rename_i l q
      split at k
      · rename_i ys q2
        split at k
        · rename_i hz
          obtain ⟨a, xs, rfl, hs, hr⟩ := seqOf_rep rl q py
          have e := strs_reps q2 hr
          subst e
          exact ⟨_, a, ys, px.str, rfl, hs, hz, k.here rl rep_str⟩
        · exact k.elim
      · exact k.elim
    · exact k.elim
  · exact k.elim
end
/-! ### f-strings -/
/-- {x} -/
def fmtD : D → M D
  | .str y, S => if y.length ≤ sizeLine then .ok (.str y) S else .stuck
  | .int i, S => if i.natAbs.log2 < 1920 then .ok (.str (toString i)) S else .stuck
  | _, _ => .stuck
def mFmt (fe : EM) : EM := fun ρ S => (fe ρ S).bind fmtD
def mJsA (ρ : Env) : List EM → Str → M D
  | [], acc, S => .ok (.str acc) S
  | f :: fs, acc, S => (f ρ S).bind fun d S => match d with
    | .str y => if (acc ++ y).length ≤ sizeLine then mJsA ρ fs (acc ++ y) S else .stuck
    | _ => .stuck
def mJs (fs : List EM) : EM := fun ρ S => mJsA ρ fs Str.empty S
section
variable {X : Cx} {W : WX} {e : Expr} {fe : EM} {pos : Pos}
theorem d_fmt (he : DE X W e fe) : DE X W (.FormattedValue e (-1) none pos) (mFmt fe) := by
  refine PE.weak (pe_fmt he) fun σ H Q ⟨P, ρ, F, μ, S, en, rl, k⟩ => ?_
  refine tD.run en rl (Fin.imp (Fin.bind (rep := repD (gX X)) k) (fun v H1 ⟨x, F1, μ1, S1, g1, r1, p1, k1⟩ => ?_) fun _ _ _ z => z)
  unfold fmtD at k1
  split at k1
  · split at k1
    · rename_i y hz
      exact .inl ⟨_, p1.str, hz, k1.here r1 rep_str⟩
    · exact k1.elim
  · split at k1
    · rename_i i hz
      exact .inr ⟨_, p1.int, hz, k1.here r1 rep_str⟩
    · exact k1.elim
  · exact k1.elim
theorem js_run {P : Hp} {ρ : Env} {σ : L2.St} : ∀ (fs : List EM) (acc : Str) {F : Hp} {μ : List Addr} {S : Store} {H : Hp} {Q : VK}, EnvR (gX X) F μ ρ σ → Rel (gX X) P F μ S H →
    Fin (repD (gX X)) (gX X) P F μ (mJsA ρ fs acc S) Q (fun c d H' => W c d σ H') → tJs (fs.map fun f => tD (gX X) W f) acc σ H fun out H1 => Q (.str out) H1
  | [], acc, F, μ, S, H, Q, en, rl, k => by
    have k' : Fin (repD (gX X)) (gX X) P F μ (.ok (.str acc) S) Q (fun c d H' => W c d σ H') := k
    exact k'.here rl rep_str
  | f :: fs, acc, F, μ, S, H, Q, en, rl, k => by
    unfold mJsA at k
    show tD (gX X) W f σ H fun x H1 => ∃ y : Str, x = .str y ∧ (acc ++ y).length ≤ sizeLine ∧ tJs (fs.map fun f => tD (gX X) W f) (acc ++ y) σ H1 fun out H1 => Q (.str out) H1
    refine tD.run en rl (Fin.imp (Fin.bind (rep := repD (gX X)) k) (fun v H1 ⟨d, F1, μ1, S1, g1, r1, p1, k1⟩ => ?_) fun _ _ _ z => z)
    split at k1
    · split at k1
      · rename_i y hz
        exact ⟨y, p1.str, hz, js_run fs (acc ++ y) (en.mono g1) r1 k1⟩
      · exact k1.elim
    · exact k1.elim
theorem dj_cons {es : List Expr} {fs : List EM} (h : DE X W e fe) (r : PJ X es (fs.map fun f => tD (gX X) W f)) : PJ X (e :: es) ((fe :: fs).map fun f => tD (gX X) W f) := .cons h r
theorem dj_nil : PJ X [] (([] : List EM).map fun f => tD (gX X) W f) := .nil
/-- f'..' of two parts or more -/
theorem d_js {v1 v2 : Expr} {rest : List Expr} {fs : List EM} (h : PJ X (v1 :: v2 :: rest) (fs.map fun f => tD (gX X) W f)) : DE X W (.JoinedStr (v1 :: v2 :: rest) pos) (mJs fs) := by
  refine PE.weak (pe_joined h) fun σ H Q ⟨P, ρ, F, μ, S, en, rl, k⟩ => ?_
  exact js_run fs Str.empty en rl k
end
end DL

/-! The data layer, 24: raise X(args) of classes with an own __init__. -/
namespace DL
open PySem PySem.Spec PyProof.Rows L2
def mRaiseI (c : Str) (fs : List Str) (fa : AM) : SM := fun ρ S => (fa ρ S).to ρ fun ds S => match excI c fs ds S with
  | .ok d S => .go (.ex d) ρ S
  | _ => .stuck
section
variable {X : Cx} {W : WX} {c : Str} {e : Expr} {es : List Expr} {fa : AM} {p p3 pos : Pos} {fs : List Str}
theorem ds_raiseI (hc : X.calm = true) (tk : Takes X W) (F : ExcIF X.prog X.w X.K X.mg X.base c fs) (hr : Room 3 X.A) (ha : DA X W (e :: es) fa) (hg : Gl X c := by rfl) (hdb : (c == ("__debug__" : Str)) = false := by decide)
    (he : starEach (e :: es) X.env = (false, eval e X.env) :: starEach es X.env := by rfl) (hpl : (backTo p3 (starEach es X.env)).any (·.1) = false := by rfl) : DS X W (.Raise (some (.Call (.Name c p) (e :: es) [] p3)) none pos) (mRaiseI c fs fa) := by
  obtain ⟨C, fI, fd, ps, hm, T, iC, tI, F1, hb, hno⟩ := F.ex
  refine PS.weak (ps_raise hc tk (pmk_oex (CX := L2.CX0) (ds := []) (dvs := []) T iC tI F1 hr hb .nil (fun _ _ _ _ _ _ _ h => h.elim) hg hm ha hdb he hpl)) fun Dn σ H ⟨P, ρ, Fz, μ, S, en, rl, k⟩ => ?_
  refine tDA.run en rl (Fin.imp (FinS.to (rep := repA (gX X)) en k) (fun vs H1 ⟨ds, F1, μ1, S1, g1, r1, p1, k1⟩ => ?_) fun _ _ _ z => z)
  unfold excI at k1
  cases q : intsD ds with
  | none => rw [q] at k1; exact k1.elim
  | some is =>
    rw [q] at k1
    simp only at k1
    split at k1
    rotate_left
    · rename_i hz
      exact k1.elim
    · rename_i d S2 hz
      split at hz
      rotate_left
      · cases hz
      · rename_i hcnd
        cases hz
        have ev := intsD_reps q p1
        subst ev
        refine ⟨by rw [List.length_map]; exact hcnd.2.2, fun a ha => ⟨a, C, is, by rw [List.append_nil], hcnd.1, fun i hi => by simpa using List.all_eq_true.mp hcnd.2.1 i hi, T, hno, upd_same, fun dx H2 hdx hne h1 h2 h3 => ⟨rfl, dx, _, h1, h2, ?_, ?_⟩⟩⟩
        · rw [← hdx, upd_ne hne]
        · have hd1 : H1 dx = none := by rw [← hdx, upd_ne hne]
          obtain ⟨r2, g2⟩ := r1.froz (o := .xd (fs.reverse.zip (is.map V.int).reverse)) hd1
          have eh : upd (del H2 a) dx (.xd (fs.reverse.zip (is.map V.int).reverse)) = upd H1 dx (.xd (fs.reverse.zip (is.map V.int).reverse)) := by
            funext b
            by_cases hb1 : b = dx
            · subst hb1; rw [upd_same, upd_same]
            · rw [upd_ne hb1, upd_ne hb1]
              by_cases hb2 : b = a
              · subst hb2; rw [del_same, ha]
              · rw [del_ne hb2, h3 b hb2 hb1, upd_ne hb2]
          rw [eh]
          refine (FinS.gr g2 k1).here r2 σ _ _ ((en.mono g1).mono g2) ⟨c, fs.reverse, (is.map D.int).reverse, C, (is.map V.int).reverse, rfl, hm, rfl, .inr ⟨dx, rfl, upd_same⟩, ?_, by simp [hcnd.1]⟩
          rw [← List.map_reverse, ← List.map_reverse]
          exact reps_ints _
end
end DL

/-! The data layer, 25: instances: methods. -/
namespace DL
open PySem PySem.Spec PyProof.Rows L2
/-- the class and the fields' names of an instance -/
def insOf (d : D) (S : Store) : Option (Str × List Str) := match d with
  | .obj c ns _ => some (c, ns)
  | .ref k => match S[k]? with
    | some (.ins c ns _) => some (c, ns)
    | _ => none
  | _ => none
theorem insOf_rep {g : G} {P F : Hp} {μ : List Addr} {S : Store} {H : Hp} (r : Rel g P F μ S H) {d : D} {c : Str} {ns : List Str} {v : V} (e : insOf d S = some (c, ns)) (h : Rep g F μ d v) : ∃ a C dx xs, v = .ref a ∧ g.mg c = some (.ref C) ∧ H a = some (.ins C dx (ns.zip xs)) := by
  unfold insOf at e
  split at e
  · cases e
    simp only [Rep] at h
    obtain ⟨a, C, dx, xs, rfl, h0, h1, _⟩ := h
    exact ⟨a, C, dx, xs, rfl, h0, r.sub _ _ h1⟩
  · split at e
    · cases e
      rename_i q
      simp only [Rep] at h
      obtain ⟨p, h1, rfl⟩ := h
      rcases r.live _ _ p q h1 with ⟨z, _⟩ | ⟨u, f, hu, C, dx, xs, h0, rfl, _⟩
      · cases z
      · exact ⟨p, C, dx, xs, rfl, h0, hu⟩
    · cases e
  · cases e
theorem zip_lookup_none {m : Str} : ∀ {ns : List Str} {xs : List V}, ns.contains m = false → (ns.zip xs).lookup m = none
  | [], xs, _ => by simp
  | n :: ns, [], _ => by simp
  | n :: ns, x :: xs, h => by
    simp only [List.contains_cons, Bool.or_eq_false_iff] at h
    simp only [List.zip_cons_cons, List.lookup_cons, h.1]
    exact zip_lookup_none h.2
def mMeth (c m : Str) (n : Nat) (md : List D → M D) (fo : EM) (fa : AM) : EM := fun ρ S => (fo ρ S).bind fun x S => match insOf x S with
  | some (c', ns) => if c' = c ∧ ns.contains m = false then (fa ρ S).bind fun ds S => if ds.length = n then md (x :: ds) S else .stuck else .stuck
  | none => .stuck
/-- the class c has the method m of n arguments (beside self) that does what md does -/
structure MethD (P : Program) (w : World) (K : PySem.W.Frag) (mg : Str → Option Value) (base : Heap) (k : Nat) (c m : Str) (n : Nat) (md : List D → M D) : Prop where
  ex : ∃ (C f : Addr) (fd : FuncData) (ps : List Str), mg c = some (.ref C) ∧ Cls K C ∧ Meth K C m f ∧ Binds K fd ps [] ∧ FnD P w K mg base k f fd ps md ∧ ps.length = n + 1
theorem MethD.mono {P : Program} {w : World} {K : PySem.W.Frag} {mg : Str → Option Value} {base : Heap} {j k n : Nat} {c m : Str} {md : List D → M D} (d : MethD P w K mg base j c m n md) (h : j ≤ k) : MethD P w K mg base k c m n md := by
  obtain ⟨C, f, fd, ps, h1, h2, h3, h4, h5, h6⟩ := d.ex
  exact ⟨C, f, fd, ps, h1, h2, h3, h4, h5.mono h, h6⟩
section
variable {X : Cx} {W : WX} {k n : Nat} {c m : Str} {md : List D → M D} {o e : Expr} {es : List Expr} {fo : EM} {fa : AM} {apos pos : Pos}
theorem d_meth {pl : Sem Bool} (d : MethD X.prog X.w X.K X.mg X.base k c m n md) (hr : Room k X.A) (hg : X.A.guards = some []) (tk : Takes X W) (ho : DE X W o fo) (ha : DA X W (e :: es) fa)
    (hst : starEach (e :: es) X.env = (false, eval e X.env) :: starEach es X.env := by rfl) (hpl : (backTo pos (starEach es X.env)).any (·.1) = false := by rfl)
    (ht : eval (.Call (.Attribute o m apos) (e :: es) [] pos) X.env = (do
      let ov ← eval o X.env
      standAt apos.atName
      let (f, first) ← holding [ov] (getMethod ov m pl)
      callWith pos f first (backTo pos (starEach (e :: es) X.env)) (backToKw pos (keywordEach [] X.env))) := by rfl) :
    DE X W (.Call (.Attribute o m apos) (e :: es) [] pos) (mMeth c m n md fo fa) := by
  obtain ⟨C, f, fd, ps, hm, hC, hM, hb, F, hn⟩ := d.ex
  refine ⟨fun pins s σ H Q I ⟨P, ρ, Fz, μ, S, en, rl, h⟩ => ?_⟩
  refine PySem.W.methodCall_KW (pl := pl) (thn (ho.run pins s σ H _ I (tD.run en rl (Fin.imp (Fin.bind (rep := repD (gX X)) h) (fun v H1 k1 => k1) fun _ _ _ z => z))) fun u s1 ⟨x, H1, I1, rx, d0, F1, μ1, S1, g1, r1, p1, k1⟩ => ?_) ht
  cases q : insOf d0 S1 with
  | none => rw [q] at k1; exact k1.elim
  | some cn =>
    obtain ⟨c', ns⟩ := cn
    rw [q] at k1
    simp only at k1
    split at k1
    rotate_left
    · exact k1.elim
    rename_i hcn
    obtain ⟨rfl, hns⟩ := hcn
    obtain ⟨a, C', dx, xs, rfl, hm', ea⟩ := insOf_rep r1 q p1
    have hm2 : X.mg c' = some (.ref C') := hm'
    rw [hm] at hm2
    cases hm2
    obtain rfl : u = Value.ref a := rx
    refine getmeth_ok I1 ea hC hM (zip_lookup_none hns) ?_
    refine PySem.W.callWith_K (first := [.ref a]) (h₀ := X.base) I.ok.mod.kin hM.kp (thn (ha.run pos pins s1 σ H1 _ I1 (tDA.run (en.mono g1) r1 (Fin.imp (Fin.bind (rep := repA (gX X)) k1) (fun vs H2 k2 => k2) fun _ _ _ z => z))) fun us s2 ⟨vs, H2, I2, r, ds, F2, μ2, S2, g2, r2, p2, k2⟩ => ⟨I2.kIn, ?_⟩) hst hpl
    split at k2
    rotate_left
    · exact k2.elim
    rename_i hl
    exact run_fnD (us := .ref a :: us) (vs := .ref a :: vs) F hr hg hb tk I2 (.cons rfl r) ⟨by rw [List.length_cons, ← p2.length, hl, hn], d0 :: ds, P, F2, μ2, S2, r2, reps_cons (p1.mono g2) p2, k2⟩
theorem d_meth0 {pl : Sem Bool} (d : MethD X.prog X.w X.K X.mg X.base k c m 0 md) (hr : Room k X.A) (hg : X.A.guards = some []) (tk : Takes X W) (ho : DE X W o fo)
    (ht : eval (.Call (.Attribute o m apos) [] [] pos) X.env = (do
      let ov ← eval o X.env
      standAt apos.atName
      let (f, first) ← holding [ov] (getMethod ov m pl)
      callWith pos f first (backTo pos (starEach [] X.env)) (backToKw pos (keywordEach [] X.env))) := by rfl) :
    DE X W (.Call (.Attribute o m apos) [] [] pos) (mMeth c m 0 md fo mNil) := by
  obtain ⟨C, f, fd, ps, hm, hC, hM, hb, F, hn⟩ := d.ex
  refine ⟨fun pins s σ H Q I ⟨P, ρ, Fz, μ, S, en, rl, h⟩ => ?_⟩
  refine PySem.W.methodCall_KW (pl := pl) (thn (ho.run pins s σ H _ I (tD.run en rl (Fin.imp (Fin.bind (rep := repD (gX X)) h) (fun v H1 k1 => k1) fun _ _ _ z => z))) fun u s1 ⟨x, H1, I1, rx, d0, F1, μ1, S1, g1, r1, p1, k1⟩ => ?_) ht
  cases q : insOf d0 S1 with
  | none => rw [q] at k1; exact k1.elim
  | some cn =>
    obtain ⟨c', ns⟩ := cn
    rw [q] at k1
    simp only at k1
    split at k1
    rotate_left
    · exact k1.elim
    rename_i hcn
    obtain ⟨rfl, hns⟩ := hcn
    obtain ⟨a, C', dx, xs, rfl, hm', ea⟩ := insOf_rep r1 q p1
    have hm2 : X.mg c' = some (.ref C') := hm'
    rw [hm] at hm2
    cases hm2
    obtain rfl : u = Value.ref a := rx
    have k2 : Fin (repD (gX X)) (gX X) P F1 μ1 (md [d0] S1) Q (fun c d H' => W c d σ H') := k1
    refine getmeth_ok I1 ea hC hM (zip_lookup_none hns) ?_
    exact PySem.W.callWith_K0 (first := [.ref a]) I1.kIn hM.kp (run_fnD (us := [.ref a]) (vs := [.ref a]) F hr hg hb tk I1 (.cons rfl .nil) ⟨by simp [hn], [d0], P, F1, μ1, S1, r1, reps_cons p1 reps_nil, k2⟩)
end
end DL

/-! The data layer, 26: instances are made. -/
namespace DL
open PySem PySem.Spec PyProof.Rows L2
/-- the class c may be made by its name, its __init__ of n arguments (beside self) does what md does -/
structure MakD (P : Program) (w : World) (K : PySem.W.Frag) (mg : Str → Option Value) (base : Heap) (k : Nat) (c : Str) (n : Nat) (md : List D → M D) : Prop where
  ex : ∃ (C f : Addr) (fd : FuncData) (ps : List Str), mg c = some (.ref C) ∧ Mk K C f ∧ Binds K fd ps [] ∧ FnD P w K mg base k f fd ps md ∧ ps.length = n + 1
/-- C(e, ..) -/
def mMake (c : Str) (n : Nat) (md : List D → M D) (fa : AM) : EM := fun ρ S => (fa ρ S).bind fun ds S => if ds.length = n then (md (.ref S.length :: ds) (S ++ [.ins c [] []])).bind fun d S' => match d with
  | .non => .ok (.ref S.length) S'
  | _ => .stuck else .stuck
section
variable {X : Cx} {W : WX} {k n : Nat} {c : Str} {md : List D → M D} {e : Expr} {es : List Expr} {fa : AM} {p pos : Pos}
theorem guards_make {A : Around} {C : Addr} {us : List Value} (h : A.guards = some []) : (A.under (.builtin "type.__call__" ⟨.ref C :: us, []⟩)).guards = some [] := by
  have e : (Code.builtin "type.__call__" ⟨.ref C :: us, []⟩).guards = [] := by
    unfold Code.guards
    have : (Code.builtin "type.__call__" ⟨.ref C :: us, []⟩).isGuard = false := by
      show guardIds.contains "type.__call__" = false
      decide +kernel
    rw [this]; rfl
  show pushGuards (Code.builtin "type.__call__" ⟨.ref C :: us, []⟩).guards A.guards = some []
  rw [e, h]; rfl
theorem d_make (d : MakD X.prog X.w X.K X.mg X.base k c n md) (hr : Room (k + 1) X.A) (hg : X.A.guards = some []) (tk : Takes X W) (ha : DA X W (e :: es) fa) (hgl : Gl X c := by rfl) (hdb : (c == ("__debug__" : Str)) = false := by decide)
    (he : starEach (e :: es) X.env = (false, eval e X.env) :: starEach es X.env := by rfl) (hpl : (backTo pos (starEach es X.env)).any (·.1) = false := by rfl) : DE X W (.Call (.Name c p) (e :: es) [] pos) (mMake c n md fa) := by
  obtain ⟨C, f, fd, ps, hm, M, hb, F, hn⟩ := d.ex
  refine ⟨fun pins s σ H Q I ⟨P, ρ, Fz, μ, S, en, rl, h⟩ => ?_⟩
  refine wpAny_Call_Name_kw (ld_glob I hgl hm ?_ hdb)
  refine PySem.W.callWith_K (h₀ := X.base) I.ok.mod.kin M.kp (thn (ha.run pos pins s σ H _ I (tDA.run en rl (Fin.imp (Fin.bind (rep := repA (gX X)) h) (fun vs H1 k1 => k1) fun _ _ _ z => z))) fun us s1 ⟨vs, H1, I1, r, ds, F1, μ1, S1, g1, r1, p1, k1⟩ => ⟨I1.kIn, ?_⟩) he hpl
  split at k1
  rotate_left
  · exact k1.elim
  rename_i hl
  show wpAny _ _ (call (.ref C) us) _ _ _
  have f1 : H1 s1.heap.objs.size = none := I1.hok.fresh (Nat.le_refl _)
  have f2 : H1 (s1.heap.objs.size + 1) = none := I1.hok.fresh (Nat.le_succ _)
  have I2 := Inv.made (C := C) I1
  have r2 : Vals (V.ref (s1.heap.objs.size + 1) :: vs) (Value.ref (s1.heap.objs.size + 1) :: us) := .cons rfl r
  have rm := r1.more (o := .own (s1.heap.objs.size + 1)) f1
  have f3 : upd H1 s1.heap.objs.size (.own (s1.heap.objs.size + 1)) (s1.heap.objs.size + 1) = none := by rw [upd_ne (Nat.succ_ne_self _)]; exact f2
  have g0 : Gr F1 μ1 F1 (μ1 ++ [s1.heap.objs.size + 1]) := ⟨fun _ _ h => h, fun n q h => by
    have : n < μ1.length := (List.getElem?_eq_some_iff.mp h).1
    rw [List.getElem?_append_left this]; exact h⟩
  obtain ⟨r3, g3, e3⟩ := rm.push (u := .ins C s1.heap.objs.size []) (o := .ins c [] []) f3 ⟨C, s1.heap.objs.size, [], hm, rfl, reps_nil, rfl⟩
  have hl2 : (Value.ref (s1.heap.objs.size + 1) :: us).length = ps.length := by
    rw [List.length_cons, ← r.length, ← p1.length, hl, hn]
  have b := hb { s1 with heap := (s1.heap.push PySem.W.emptyDict).push (PySem.W.instObj C s1.heap.objs.size) } (Value.ref (s1.heap.objs.size + 1) :: us) I2.kIn (by rw [List.append_nil]; exact hl2)
  rw [List.append_nil] at b
  have hsp : spD (gX X) ps.length md (V.ref (s1.heap.objs.size + 1) :: vs) (upd (upd H1 s1.heap.objs.size (.own (s1.heap.objs.size + 1))) (s1.heap.objs.size + 1) (.ins C s1.heap.objs.size [])) (fun v H2 => v = .non ∧ Q (.ref (s1.heap.objs.size + 1)) H2) (fun c d H' => W c d σ H') := by
    refine ⟨by rw [List.length_cons, ← p1.length, hl, hn], .ref S1.length :: ds, P, F1, μ1 ++ [s1.heap.objs.size + 1], S1 ++ [.ins c [] []], r3, reps_cons (by simp only [Rep]; exact ⟨_, e3, rfl⟩) (p1.mono g3), ?_⟩
    have k2 := Fin.gr g3 k1
    refine Fin.imp (Fin.bind (rep := repD (gX X)) k2) (fun v H2 ⟨d0, F2, μ2, S2, g2, r4, p4, k3⟩ => ?_) fun _ _ _ z => z
    cases d0 <;> first | exact k3.elim | skip
    refine ⟨p4.non, ?_⟩
    exact k3.here r4 (by simp only [repD, Rep]; exact ⟨_, g2.m _ _ e3, rfl⟩)
  refine wpAny_call (make_map (f := f) I1.kIn M.makes M.init (beq_iff_eq.mp M.fn) (codeAny_mono (F.run _ X.stack _ _ ⟨Value.ref (s1.heap.objs.size + 1) :: us, []⟩ (Value.ref (s1.heap.objs.size + 1) :: us) _ _ (fun c d H' => W c d σ H') (hr.make C us []) (guards_make hg)
    (I2.env0.make C us []) b r2 hsp) fun r s' hq' => ?_))
  cases r with
  | error er => exact passAt tk σ pins _ _ er s' I2 hq'
  | ok fl =>
    cases fl with
    | ret u =>
      obtain ⟨v, H', I3, rv, ev, q3⟩ := I2.after hq'
      subst ev
      exact ⟨rv, ⟨V.ref (s1.heap.objs.size + 1), H', I3, rfl, q3⟩⟩
    | next => exact False.elim hq'
    | brk => exact False.elim hq'
    | cont => exact False.elim hq'
end
end DL

/-! The data layer, 27: instances: fields; classes as the top has left them. -/
namespace DL
open PySem PySem.Spec PyProof.Rows L2
/-- the classes cs let their instances have the field f -/
structure FldD (K : PySem.W.Frag) (mg : Str → Option Value) (f : Str) (cs : List Str) : Prop where
  ex : ∀ c ∈ cs, ∃ C : Addr, mg c = some (.ref C) ∧ Cls K C ∧ NoAttr K C f
def getF (f : Str) : List Str → List D → Option D
  | n :: ns, d :: ds => if f = n then some d else getF f ns ds
  | _, _ => none
def putL (f : Str) (x : D) : List Str → List D → List Str × List D
  | n :: ns, d :: ds => if n = f then (n :: ns, x :: ds) else (n :: (putL f x ns ds).1, d :: (putL f x ns ds).2)
  | _, _ => ([f], [x])
/-- the class and the fields of an instance -/
def insAt (d : D) (S : Store) : Option (Str × List Str × List D) := match d with
  | .obj c ns ds => some (c, ns, ds)
  | .ref k => match S[k]? with
    | some (.ins c ns ds) => some (c, ns, ds)
    | _ => none
  | _ => none
theorem insAt_rep {g : G} {P F : Hp} {μ : List Addr} {S : Store} {H : Hp} (r : Rel g P F μ S H) {d : D} {c : Str} {ns : List Str} {ds : List D} {v : V} (e : insAt d S = some (c, ns, ds)) (h : Rep g F μ d v) : ∃ a C dx xs, v = .ref a ∧ g.mg c = some (.ref C) ∧ H a = some (.ins C dx (ns.zip xs)) ∧ Reps g F μ ds xs ∧ ns.length = ds.length := by
  unfold insAt at e
  split at e
  · cases e
    simp only [Rep] at h
    obtain ⟨a, C, dx, xs, rfl, h0, h1, h2, h3⟩ := h
    exact ⟨a, C, dx, xs, rfl, h0, r.sub _ _ h1, h2, h3⟩
  · split at e
    · cases e
      rename_i q
      simp only [Rep] at h
      obtain ⟨p, h1, rfl⟩ := h
      rcases r.live _ _ p q h1 with ⟨z, _⟩ | ⟨u, f, hu, C, dx, xs, h0, rfl, h2, h3⟩
      · cases z
      · exact ⟨p, C, dx, xs, rfl, h0, hu, h2, h3⟩
    · cases e
  · cases e
theorem getF_rep {g : G} {F : Hp} {μ : List Addr} {f : Str} : ∀ {ns : List Str} {ds : List D} {xs : List V} {d : D}, Reps g F μ ds xs → getF f ns ds = some d → ∃ v, (ns.zip xs).lookup f = some v ∧ Rep g F μ d v
  | [], ds, xs, d, _, e => by simp [getF] at e
  | n :: ns, [], xs, d, _, e => by simp [getF] at e
  | n :: ns, y :: ds, xs, d, h, e => by
    simp only [Reps] at h
    obtain ⟨v, vs, rfl, h1, h2⟩ := h
    simp only [getF] at e
    by_cases q : f = n
    · rw [if_pos q] at e
      cases e
      have hb : (f == n) = true := beq_iff_eq.mpr q
      exact ⟨v, by simp only [List.zip_cons_cons, List.lookup_cons, hb], h1⟩
    · rw [if_neg q] at e
      have hb : (f == n) = false := beq_eq_false_iff_ne.mpr q
      obtain ⟨w, e1, e2⟩ := getF_rep h2 e
      exact ⟨w, by simp only [List.zip_cons_cons, List.lookup_cons, hb]; exact e1, e2⟩
theorem putL_len (f : Str) (x : D) : ∀ (ns : List Str) (ds : List D), ns.length = ds.length → (putL f x ns ds).1.length = (putL f x ns ds).2.length
  | [], [], _ => rfl
  | [], _ :: _, h => by simp at h
  | _ :: _, [], h => by simp at h
  | n :: ns, d :: ds, h => by
    simp only [putL]
    split
    · simpa using h
    · simp only [List.length_cons, putL_len f x ns ds (by simpa using h)]
theorem putL_rep {g : G} {F : Hp} {μ : List Addr} {f : Str} {x : D} {v : V} (hx : Rep g F μ x v) : ∀ {ns : List Str} {ds : List D} {xs : List V}, Reps g F μ ds xs → ns.length = ds.length → ∃ ys, putF f v (ns.zip xs) = (putL f x ns ds).1.zip ys ∧ Reps g F μ (putL f x ns ds).2 ys
  | [], [], xs, h, _ => by
    simp only [Reps] at h
    subst h
    exact ⟨[v], rfl, reps_cons hx reps_nil⟩
  | [], _ :: _, _, _, h => by simp at h
  | _ :: _, [], _, _, h => by simp at h
  | n :: ns, d :: ds, xs, h, hl => by
    simp only [Reps] at h
    obtain ⟨w, vs, rfl, h1, h2⟩ := h
    simp only [putL, List.zip_cons_cons, putF]
    by_cases q : n = f
    · rw [if_pos q, if_pos q]
      exact ⟨v :: vs, rfl, reps_cons hx h2⟩
    · rw [if_neg q, if_neg q]
      obtain ⟨ys, e1, e2⟩ := putL_rep hx h2 (by simpa using hl)
      exact ⟨w :: ys, by rw [e1]; rfl, reps_cons h1 e2⟩
def fldD (cs : List Str) (f : Str) (d : D) : M D := fun S => match insAt d S with
  | some (c, ns, ds) => if c ∈ cs then match getF f ns ds with
    | some x => .ok x S
    | none => .stuck else .stuck
  | none => .stuck
def mFld (cs : List Str) (f : Str) (fe : EM) : EM := fun ρ S => (fe ρ S).bind (fldD cs f)
/-- an instance at a place gets a field -/
def setF (cs : List Str) (f : Str) (o d : D) (S : Store) : Option Store := match o with
  | .ref n => match S[n]? with
    | some (.ins c ns ds) => if c ∈ cs ∧ ns.length < 900 then some (S.set n (.ins c (putL f d ns ds).1 (putL f d ns ds).2)) else none
    | _ => none
  | _ => none
def mSetF (cs : List Str) (f : Str) (fo fv : EM) : SM := fun ρ S => ((fv ρ S).bind fun y S => (fo ρ S).bind fun o S => match setF cs f o y S with
  | some S => R.ok D.non S
  | none => .stuck).to ρ fun _ S => .go .nx ρ S
def gFldM (cs : List Str) (f : Str) (fo : EM) : GM := fun d ρ S => match (fo ρ S).nx with
  | .ok o S1 => (setF cs f o d S1).map fun S2 => (ρ, S2)
  | _ => none
def mAugF (cs : List Str) (f : Str) (m : D → D → M D) (fo fv : EM) : SM := fun ρ S => ((fo ρ S).bind fun o S => match insAt o S with
  | some (c, ns, ds) => if c ∈ cs then (match getF f ns ds with
    | some x => (fv ρ S).bind fun y S => (m x y S).bind fun z S => match setF [c] f o z S with
      | some S => R.ok D.non S
      | none => .stuck
    | none => .stuck) else .stuck
  | none => .stuck).to ρ fun _ S => .go .nx ρ S
theorem setF_rep {g : G} {K : PySem.W.Frag} {P F : Hp} {μ : List Addr} {S S' : Store} {H : Hp} {cs : List Str} {f : Str} {o y : D} {v w : V} (T : FldD K g.mg f cs) (r : Rel g P F μ S H) (po : Rep g F μ o v) (py : Rep g F μ y w) (e : setF cs f o y S = some S') :
    ∃ a C dx fs, v = .ref a ∧ H a = some (.ins C dx fs) ∧ Cls K C ∧ NoAttr K C f ∧ fs.length < 1000 ∧ Rel g P F μ S' (upd H a (.ins C dx (putF f w fs))) ∧ ∃ c ∈ cs, g.mg c = some (.ref C) := by
  unfold setF at e
  split at e
  · rename_i n
    split at e
    · rename_i c ns ds q
      split at e
      · rename_i hc
        cases e
        simp only [Rep] at po
        obtain ⟨p, h1, rfl⟩ := po
        rcases r.live n _ p q h1 with ⟨z, _⟩ | ⟨u, hF, hu, C, dx, xs, h0, rfl, h2, h3⟩
        · cases z
        · obtain ⟨C', hm, k1, k2⟩ := T.ex c hc.1
          rw [hm] at h0
          cases h0
          obtain ⟨ys, e1, e2⟩ := putL_rep (f := f) py h2 h3
          refine ⟨p, _, dx, ns.zip xs, rfl, hu, k1, k2, ?_, ?_, c, hc.1, hm⟩
          · rw [List.length_zip]; omega
          · exact r.write q (by intro z; cases z) h1 ⟨_, dx, ys, hm, by rw [e1], e2, putL_len f y ns ds h3⟩
      · cases e
    · cases e
  · cases e
section
variable {X : Cx} {W : WX} {cs : List Str} {f : Str} {o e : Expr} {fo fe fv : EM} {value : Expr} {pos pos' tpos : Pos}
theorem d_fld (T : FldD X.K X.mg f cs) (h : DE X W e fe) (hb : attributeBase e f X.env (eval e X.env) = eval e X.env := by rfl) : DE X W (.Attribute e f pos) (mFld cs f fe) := by
  refine PE.weak (pe_fld h hb) fun σ H Q ⟨P, ρ, F, μ, S, en, rl, k⟩ => ?_
  refine tD.run en rl (Fin.imp (Fin.bind (rep := repD (gX X)) k) (fun v H1 ⟨d, F1, μ1, S1, g1, r1, p1, k1⟩ => ?_) fun _ _ _ z => z)
  unfold fldD at k1
  split at k1
  · rename_i c ns ds q
    split at k1
    · rename_i hc
      split at k1
      · rename_i x q2
        obtain ⟨a, C, dx, xs, rfl, h0, h1, h2, h3⟩ := insAt_rep r1 q p1
        obtain ⟨C', hm, c1, c2⟩ := T.ex c hc
        have hm2 : X.mg c = some (.ref C) := h0
        rw [hm] at hm2
        cases hm2
        obtain ⟨v', e1, e2⟩ := getF_rep h2 q2
        exact ⟨a, _, dx, _, v', rfl, h1, c1, c2, e1, k1.here r1 e2⟩
      · exact k1.elim
    · exact k1.elim
  · exact k1.elim
theorem ds_fld (T : FldD X.K X.mg f cs) (ho : DE X W o fo) (hv : DE X W value fv) (hs : swapsWith value (some (.Attribute o f pos')) pos.line X.env = pure false := by rfl) : DS X W (.Assign [.Attribute o f pos'] value pos) (mSetF cs f fo fv) := by
  refine PS.weak (ps_fld ho hv hs) fun Dn σ H ⟨P, ρ, F, μ, S, en, rl, k⟩ => ?_
  unfold mSetF at k
  have kk := FinS.to (rep := repD (gX X)) en k
  refine tD.run en rl (Fin.imp (Fin.bind (rep := repD (gX X)) kk) (fun w H1 ⟨y, F1, μ1, S1, g1, r1, p1, k1⟩ => ?_) fun _ _ _ z => z)
  refine tD.run (en.mono g1) r1 (Fin.imp (Fin.bind (rep := repD (gX X)) k1) (fun v H2 ⟨x, F2, μ2, S2, g2, r2, p2, k2⟩ => ?_) fun _ _ _ z => z)
  cases q : setF cs f x y S2 with
  | none => rw [q] at k2; exact k2.elim
  | some S3 =>
    rw [q] at k2
    obtain ⟨a, C, dx, fs, rfl, h1, h2, h3, h4, r3, _⟩ := setF_rep (K := X.K) T r2 p2 (p1.mono g2) q
    refine ⟨a, C, dx, fs, rfl, h1, h2, h3, h4, ?_⟩
    obtain ⟨b, F4, μ4, S4, g4, r4, p4, k4⟩ := k2.here r3 (b := V.non) (by simp only [repD, Rep])
    exact k4.here r4 σ (en.mono g4)
theorem ds_augfld {op : Operator} {m : D → D → M D} (T : FldD X.K X.mg f cs) (ho : DE X W o fo) (hv : DE X W value fv) (hop : InOp X op (fun v w H Q => ∃ x y P F μ S E, Rel (gX X) P F μ S H ∧ Rep (gX X) F μ x v ∧ Rep (gX X) F μ y w ∧ Fin (repD (gX X)) (gX X) P F μ (m x y S) Q E)) :
    DS X W (.AugAssign (.Attribute o f tpos) op value pos) (mAugF cs f m fo fv) := by
  refine PS.weak (ps_fldaug ho hv hop) fun Dn σ H ⟨P, ρ, F, μ, S, en, rl, k⟩ => ?_
  unfold mAugF at k
  have kk := FinS.to (rep := repD (gX X)) en k
  refine tD.run en rl (Fin.imp (Fin.bind (rep := repD (gX X)) kk) (fun v H1 ⟨x, F1, μ1, S1, g1, r1, p1, k1⟩ => ?_) fun _ _ _ z => z)
  split at k1
  rotate_left
  · exact k1.elim
  rename_i c ns ds q
  split at k1
  rotate_left
  · exact k1.elim
  rename_i hc
  split at k1
  rotate_left
  · exact k1.elim
  rename_i x1 q2
  obtain ⟨a, C, dx, xs, rfl, h0, h1, h2, h3⟩ := insAt_rep r1 q p1
  obtain ⟨C', hm, c1, c2⟩ := T.ex c hc
  have hm2 : X.mg c = some (.ref C) := h0
  rw [hm] at hm2
  cases hm2
  obtain ⟨v', e1, e2⟩ := getF_rep h2 q2
  refine ⟨a, _, dx, _, v', rfl, h1, c1, c2, e1, ?_⟩
  refine tD.run (en.mono g1) r1 (Fin.imp (Fin.bind (rep := repD (gX X)) k1) (fun w H2 ⟨y, F2, μ2, S2, g2, r2, p2, k2⟩ => ?_) fun _ _ _ z => z)
  refine ⟨x1, y, P, F2, μ2, S2, _, r2, e2.mono g2, p2, Fin.imp (Fin.bind (rep := repD (gX X)) k2) (fun z H3 ⟨zd, F3, μ3, S3, g3, r3, p3, k3⟩ => ?_) fun _ _ _ z => z⟩
  cases q3 : setF [c] f x zd S3 with
  | none => rw [q3] at k3; exact k3.elim
  | some S4 =>
    rw [q3] at k3
    have T1 : FldD X.K (gX X).mg f [c] := ⟨fun c' h' => by
      rw [List.mem_singleton] at h'
      subst h'
      exact ⟨_, hm, c1, c2⟩⟩
    obtain ⟨a', C', dx', fs', ea, h1', h2', h3', h4', r4, c', hc', hm'⟩ := setF_rep (K := X.K) T1 r3 ((p1.mono g2).mono g3) p3 q3
    cases ea
    rw [List.mem_singleton] at hc'
    subst hc'
    have hm2 : X.mg c' = some (.ref C') := hm'
    rw [hm] at hm2
    cases hm2
    refine ⟨dx', fs', h1', h4', ?_⟩
    obtain ⟨b, F4, μ4, S4, g4, r4, p4, k4⟩ := k3.here r4 (b := V.non) (by simp only [repD, Rep])
    exact k4.here r4 σ (en.mono g4)
/-- o.f as a target -/
theorem dg_fld (T : FldD X.K X.mg f cs) (ho : DE X W o fo) (ha : ∀ v, assign (.Attribute o f pos) X.env v = (do
      let ov ← holding [v] (eval o X.env)
      standAt pos.atName
      holding [v, ov] (setAttr ov f v)
      release [v, ov] []) := by intro _; rfl) : DG X (.Attribute o f pos) (gFldM cs f fo) := by
  refine ⟨fun pins s σ H v u Q I rv ⟨d, P, ρ, F, μ, S, ρ', S', en, rl, p, e, k⟩ => ?_⟩
  unfold gFldM at e
  cases q : fo ρ S with
  | stuck => rw [q] at e; cases e
  | exn x S1 => rw [q] at e; cases e
  | ok x S1 =>
    rw [q] at e
    simp only [R.nx_ok, Option.map_eq_some_iff] at e
    obtain ⟨S2, q2, e2⟩ := e
    cases e2
    rw [ha]
    refine wpAny_bind (wpAny_holding (thn (ho.run pins s σ H (fun v' H1 => ∃ F1 μ1, Gr F μ F1 μ1 ∧ Rel (gX X) P F1 μ1 S1 H1 ∧ Rep (gX X) F1 μ1 x v') I (tD.run en rl (by rw [q]; exact fun F1 μ1 H1 b g1 r1 p1 => ⟨F1, μ1, g1, r1, p1⟩))) fun ov s1 ⟨y, H1, I1, r1, F1, μ1, g1, rl1, p1⟩ => ?_))
    obtain ⟨a, C, dx, fs, rfl, h1, h2, h3, h4, r2, _⟩ := setF_rep (K := X.K) T rl1 p1 (p.mono g1) q2
    obtain rfl : ov = Value.ref a := r1
    refine wpAny_bind (wpAny_standAt (wpAny_bind (wpAny_holding (setattr_ok I1 h1 h2 h3 h4 rv fun s3 I3 => ?_))))
    exact wpAny_release ⟨σ, _, I3, k F1 μ1 _ σ g1 r2 (en.mono g1)⟩
end
/-! ### classes as the top has left them -/
def FldPK (K : PySem.W.Frag) (f c : Str) : Prop := ∃ C, NsK K c C ∧ Cls K C ∧ NoAttr K C f
theorem fldPK {K : PySem.W.Frag} {f c : Str} {C : Addr} (n : PySem.W.nsIn K mainGlobals c = some (some (.ref C))) (pg : PySem.W.plainGet K C Str.empty = true) (hd : PySem.W.hasDictIn K C = true) (po : PySem.W.plainOver K C = true)
    (sa : PySem.W.findIn K (.ref C) "__setattr__" = some (some (.builtin "object.__setattr__"))) (nf : PySem.W.findIn K (.ref C) f = some none) : FldPK K f c := ⟨C, n, ⟨pg, hd, po, sa⟩, nf⟩
theorem fldD_of {K : PySem.W.Frag} {h : Heap} {mg : Str → Option Value} {f : Str} {cs : List Str} (X : K.In h) (G : h.Ns mainGlobals mg) (e : Each (FldPK K f) cs) : FldD K mg f cs := ⟨fun c hc => by
  obtain ⟨C, n, k, q⟩ := e.mem c hc
  exact ⟨C, PySem.W.mg_of X G n, k, q⟩⟩
/-- a method -/
def MthK (K : PySem.W.Frag) (c m qual : Str) (st : Stmt) : Prop := ∃ (C f : Addr) (oc : Value) (od : Option Addr) (kV doc pm : Value) (an : Option Addr) (cdv ct : Value) (osl : Array (Option Value)),
  NsK K c C ∧ Cls K C ∧ Meth K C m f ∧ K.lookup f = some ⟨oc, od, .func (PySem.W.fnOf m qual (defArgs st) (defBody st) (defScope st) .none kV doc pm an cdv ct), osl⟩ ∧ PySem.W.codeIn K cdv qual = true
theorem mthK {K : PySem.W.Frag} {c m qual : Str} {st : Stmt} {C f : Addr} {oc : Value} {od an : Option Addr} {kV doc pm cdv ct : Value} {osl : Array (Option Value)} (n : PySem.W.nsIn K mainGlobals c = some (some (.ref C))) (pg : PySem.W.plainGet K C Str.empty = true) (hd : PySem.W.hasDictIn K C = true) (po : PySem.W.plainOver K C = true)
    (sa : PySem.W.findIn K (.ref C) "__setattr__" = some (some (.builtin "object.__setattr__"))) (fm : PySem.W.findIn K (.ref C) m = some (some (.ref f))) (isf : PySem.W.isFn K (.ref f) = true)
    (l : K.lookup f = some ⟨oc, od, .func (PySem.W.fnOf m qual (defArgs st) (defBody st) (defScope st) .none kV doc pm an cdv ct), osl⟩) (cd : PySem.W.codeIn K cdv qual = true) (kp : PySem.W.keepIn K (.ref f) = true) : MthK K c m qual st :=
  ⟨C, f, oc, od, kV, doc, pm, an, cdv, ct, osl, n, ⟨pg, hd, po, sa⟩, ⟨fm, isf, kp⟩, l, cd⟩
theorem MthK.get {K : PySem.W.Frag} {h : Heap} {mg : Str → Option Value} {c m qual : Str} {st : Stmt} (d : MthK K c m qual st) (X : K.In h) (G : h.Ns mainGlobals mg) : ∃ (C f : Addr) (fd : FuncData), mg c = some (.ref C) ∧ Cls K C ∧ Meth K C m f ∧ Fun K m qual st f fd := by
  obtain ⟨C, f, oc, od, kV, doc, pm, an, cdv, ct, osl, n, cl, mt, l, cd⟩ := d
  exact ⟨C, f, _, PySem.W.mg_of X G n, cl, mt, fun_mk l cd mt.kp⟩
theorem meth_mk {P : Program} {w : World} {K : PySem.W.Frag} {mg : Str → Option Value} {base : Heap} {k n : Nat} {c m qual : Str} {st : Stmt} {C f : Addr} {fd : FuncData} {ps : List Str} {md : List D → M D} (hC : mg c = some (.ref C)) (cl : Cls K C) (mt : Meth K C m f) (F : Fun K m qual st f fd)
    (hb : ∀ (kV doc pm : Value) (an : Option Addr) (cdv ct : Value) (us : List Value), us.length = ps.length → bindArgs (PySem.W.fnOf m qual (defArgs st) (defBody st) (defScope st) .none kV doc pm an cdv ct) ⟨us, []⟩ = pure (ps.zip us))
    (hf : FnD P w K mg base k f fd ps md) (hn : ps.length = n + 1 := by rfl) : MethD P w K mg base k c m n md := ⟨C, f, fd, ps, hC, cl, mt, F.binds hb, hf, hn⟩
/-- the making of an instance -/
def MakK (K : PySem.W.Frag) (c qual : Str) (st : Stmt) : Prop := ∃ (C f : Addr) (oc : Value) (od : Option Addr) (kV doc pm : Value) (an : Option Addr) (cdv ct : Value) (osl : Array (Option Value)),
  NsK K c C ∧ Mk K C f ∧ K.lookup f = some ⟨oc, od, .func (PySem.W.fnOf "__init__" qual (defArgs st) (defBody st) (defScope st) .none kV doc pm an cdv ct), osl⟩ ∧ PySem.W.codeIn K cdv qual = true ∧ PySem.W.keepIn K (.ref f) = true
theorem makK {K : PySem.W.Frag} {c qual : Str} {st : Stmt} {C f : Addr} {oc : Value} {od an : Option Addr} {kV doc pm cdv ct : Value} {osl : Array (Option Value)} (n : PySem.W.nsIn K mainGlobals c = some (some (.ref C))) (mk : PySem.W.makesIn K C = true) (fm : PySem.W.findIn K (.ref C) "__init__" = some (some (.ref f))) (isf : PySem.W.isFn K (.ref f) = true) (kc : PySem.W.keepIn K (.ref C) = true)
    (l : K.lookup f = some ⟨oc, od, .func (PySem.W.fnOf "__init__" qual (defArgs st) (defBody st) (defScope st) .none kV doc pm an cdv ct), osl⟩) (cd : PySem.W.codeIn K cdv qual = true) (kp : PySem.W.keepIn K (.ref f) = true) : MakK K c qual st :=
  ⟨C, f, oc, od, kV, doc, pm, an, cdv, ct, osl, n, ⟨mk, fm, isf, kc⟩, l, cd, kp⟩
theorem MakK.get {K : PySem.W.Frag} {h : Heap} {mg : Str → Option Value} {c qual : Str} {st : Stmt} (d : MakK K c qual st) (X : K.In h) (G : h.Ns mainGlobals mg) : ∃ (C f : Addr) (fd : FuncData), mg c = some (.ref C) ∧ Mk K C f ∧ Fun K "__init__" qual st f fd := by
  obtain ⟨C, f, oc, od, kV, doc, pm, an, cdv, ct, osl, n, mk, l, cd, kp⟩ := d
  exact ⟨C, f, _, PySem.W.mg_of X G n, mk, fun_mk l cd kp⟩
theorem make_mk {P : Program} {w : World} {K : PySem.W.Frag} {mg : Str → Option Value} {base : Heap} {k n : Nat} {c qual : Str} {st : Stmt} {C f : Addr} {fd : FuncData} {ps : List Str} {md : List D → M D} (hC : mg c = some (.ref C)) (mk : Mk K C f) (F : Fun K "__init__" qual st f fd)
    (hb : ∀ (kV doc pm : Value) (an : Option Addr) (cdv ct : Value) (us : List Value), us.length = ps.length → bindArgs (PySem.W.fnOf "__init__" qual (defArgs st) (defBody st) (defScope st) .none kV doc pm an cdv ct) ⟨us, []⟩ = pure (ps.zip us))
    (hf : FnD P w K mg base k f fd ps md) (hn : ps.length = n + 1 := by rfl) : MakD P w K mg base k c n md := ⟨C, f, fd, ps, hC, mk, F.binds hb, hf, hn⟩
end DL

/-! The data layer, 28: texts: split, partition, repeated, as lists; keys of dicts; instances made without arguments. -/
namespace DL
open PySem PySem.Spec PyProof.Rows L2
theorem reps_strs {g : G} {F : Hp} {μ : List Addr} : ∀ (ys : List Str), Reps g F μ (ys.map D.str) (ys.map V.str)
  | [] => reps_nil
  | y :: ys => reps_cons (by simp only [Rep]) (reps_strs ys)
/-! ### split, partition -/
def splitD : D → D → M D
  | .str a, .str b, S => if b.length ≠ 0 ∧ a.length + 2 ≤ sizeLine then .ok (.lst ((Txt.split a b).map D.str)) S else .stuck
  | _, _, _ => .stuck
def partD : D → D → M D
  | .str a, .str b, S => if b.length ≠ 0 ∧ a.length ≤ sizeLine then .ok (.wt [.str (Txt.partition a b).1, .str (Txt.partition a b).2.1, .str (Txt.partition a b).2.2]) S else .stuck
  | _, _, _ => .stuck
section
variable {X : Cx} {W : WX} {o e : Expr} {fo fe : EM} {apos pos : Pos}
theorem d_split (ho : DE X W o fo) (he : DE X W e fe) (hs : starEach [e] X.env = [(false, eval e X.env)] := by rfl) (hbase : attributeBase o "split" X.env (eval o X.env) = eval o X.env := by rfl) (hline : (apos.endLine == pos.line) = true := by rfl) :
    DE X W (.Call (.Attribute o "split" apos) [e] [] pos) (mStr1 splitD fo fe) := by
  refine PE.weak (pe_m1 F.slot_str_split F.type_str_split mt_split ho he hs hbase hline) (str1_run fun P F μ S H x y v w Q E rl px py k => ?_)
  unfold splitD at k
  split at k
  · split at k
    · rename_i a b hz
      refine ⟨a, b, px.str, by rw [py.str], by simpa using hz.1, hz.2, ?_⟩
      intro p hp
      exact k.newL rl (reps_strs _) hp
    · exact k.elim
  · exact k.elim
theorem d_partition (ho : DE X W o fo) (he : DE X W e fe) (hs : starEach [e] X.env = [(false, eval e X.env)] := by rfl) (hbase : attributeBase o "partition" X.env (eval o X.env) = eval o X.env := by rfl) (hline : (apos.endLine == pos.line) = true := by rfl) :
    DE X W (.Call (.Attribute o "partition" apos) [e] [] pos) (mStr1 partD fo fe) := by
  refine PE.weak (pe_m1 F.slot_str_partition F.type_str_partition mt_partition ho he hs hbase hline) (str1_run fun P F μ S H x y v w Q E rl px py k => ?_)
  unfold partD at k
  split at k
  · split at k
    · rename_i a b hz
      refine ⟨a, b, px.str, by rw [py.str], by simpa using hz.1, hz.2, fun p hp => ?_⟩
      obtain ⟨r1, g1⟩ := rl.froz (o := .tup [.str (Txt.partition a b).1, .str (Txt.partition a b).2.1, .str (Txt.partition a b).2.2]) hp
      refine (k.gr g1).here r1 ?_
      simp only [repD, Rep]
      exact ⟨p, _, rfl, .inl (.inl upd_same), reps_strs [(Txt.partition a b).1, (Txt.partition a b).2.1, (Txt.partition a b).2.2]⟩
    · exact k.elim
  · exact k.elim
end
/-! ### text * int -/
def mulT : D → D → M D
  | .str x, .int n, S => if -(2 ^ 62) ≤ n ∧ n ≤ 100000 ∧ x.length ≤ 100 then .ok (.str (Txt.mul x n)) S else .stuck
  | x, y, S => mulS x y S
theorem mulOk_of {x : Str} {n : Int} (h1 : -(2 ^ 62) ≤ n) (h2 : n ≤ 100000) (h3 : x.length ≤ 100) : MulOk x n := by
  refine ⟨?_, fun h4 _ h5 => ?_, fun h4 _ => ?_⟩
  · rw [decide_eq_false (by omega), decide_eq_false (by omega)]; rfl
  · have h6 : (0 : Int) < n := by omega
    have h7 : (2 ^ 63 - 1 : Int) / n ≥ (2 ^ 63 - 1) / 100000 := by
      rw [ge_iff_le, Int.le_ediv_iff_mul_le h6]
      calc (2 ^ 63 - 1 : Int) / 100000 * n ≤ (2 ^ 63 - 1 : Int) / 100000 * 100000 := Int.mul_le_mul_of_nonneg_left h2 (by decide)
        _ ≤ 2 ^ 63 - 1 := by decide
    have h8 : ((2 : Int) ^ 63 - 1) / 100000 ≥ 100 := by decide
    omega
  · unfold Builtin.Str.tooLong
    have h6 : n.toNat ≤ 100000 := by omega
    have h7 : x.length * n.toNat ≤ 100 * 100000 := Nat.mul_le_mul h3 h6
    rw [decide_eq_false_iff_not, show sizeLine = 16777216 from rfl]
    omega
theorem od_mulT {X : Cx} (ho : OpD X (binaryOp .Mult) mulS) : OpD X (binaryOp .Mult) mulT := by
  intro pins s σ H v w u u' Q I rv rw h
  obtain ⟨x, y, P, F, μ, S, E, rl, rx, ry, k⟩ := h
  unfold mulT at k
  split at k
  · split at k
    · rename_i x n hz
      have e1 := rx.str
      have e2 := ry.int
      subst e1 e2
      obtain ⟨t, rfl⟩ := rv
      obtain ⟨t2, rfl⟩ := rw
      exact SB.mul (mulOk_of hz.1 hz.2.1 hz.2.2) fun t' k' => ⟨.str _, H, I.tok _, ⟨t', rfl⟩, k.here rl rep_str⟩
    · exact k.elim
  · exact ho pins s σ H _ _ _ _ Q I rv rw ⟨_, _, P, F, μ, S, E, rl, rx, ry, k⟩
/-! ### list(text) -/
def listT (x : D) : M D := fun S => match x with
  | .str z => if z.cps.size ≤ 10000 then .ok (.lst (z.cps.toList.map fun c => D.str ⟨#[c]⟩)) S else .stuck
  | x => listD x S
theorem vals_signs : ∀ {cs : List Nat} {us : List Value}, us.length = cs.length → (∀ (j : Nat) (v : Value), us[j]? = some v → ∃ c u, cs[j]? = some c ∧ v = Value.str ⟨#[c]⟩ u) → Vals (cs.map fun c => V.str ⟨#[c]⟩) us
  | [], [], _, _ => .nil
  | [], _ :: _, h, _ => by simp at h
  | _ :: _, [], h, _ => by simp at h
  | c :: cs, v :: us, h, k => by
    obtain ⟨c', u, e1, e2⟩ := k 0 v rfl
    simp at e1
    subst e1
    exact .cons ⟨u, e2⟩ (vals_signs (by simpa using h) fun j v e => by
      obtain ⟨c', u, e1, e2⟩ := k (j + 1) v (by simpa using e)
      exact ⟨c', u, by simpa using e1, e2⟩)
theorem cd_listT {X : Cx} (hc : X.calm = true) (h0 : CallD X (.type "list") (one listD)) : CallD X (.type "list") (one listT) := by
  intro pins s σ H vs us Q I rv ⟨ds, P, F, μ, S, E, rl, rx, k⟩
  obtain ⟨d, v, rfl, p, k⟩ := one_fin k rx
  unfold listT at k
  split at k
  · rename_i z
    split at k
    · rename_i hz
      have e := p.str
      subst e
      obtain ⟨u, rfl, t, rfl⟩ := vals1 rv
      refine call_list_str (I.ok.hd hc) z t (fun h' tk acc' c' hk hS hi => ?_) (by rw [show sizeLine = 16777216 from rfl]; omega)
      have hv : Vals (z.cps.toList.map fun c => V.str ⟨#[c]⟩) acc'.toList := by
        obtain ⟨h1, h2⟩ := hi
        refine vals_signs (by simpa using h1) fun j v e => ?_
        obtain ⟨c, u, e1, e2⟩ := h2 j v (by simpa using e)
        exact ⟨c, u, by simpa using e1, e2⟩
      have e2 : acc'.toList.toArray = acc' := by simp
      refine ⟨.ref s.heap.objs.size, _, I.laid (t' := tk) hk (Nat.le_refl _) (show ObjOk X.prog X.w _ h' _ (.lst (z.cps.toList.map fun c => V.str ⟨#[c]⟩)) from ⟨by simp; rw [show sizeLine = 16777216 from rfl]; omega, acc'.toList, c', hv, by rw [e2]; exact hS⟩), rfl, ?_⟩
      have := reps_strs (g := gX X) (F := F) (μ := μ) (z.cps.toList.map fun c => ⟨#[c]⟩)
      rw [List.map_map, List.map_map] at this
      exact k.newL rl this (I.hok.fresh (Nat.le_refl _))
    · exact k.elim
  · exact h0 pins s σ H _ us Q I rv ⟨[d], P, F, μ, _, E, rl, reps_cons p reps_nil, k⟩
/-! ### k in d -/
def hasKD (y x : D) : M D := fun S => match x with
  | .ref n => match S[n]? with
    | some (.dct ks ds) => match keyOf y with
      | some k => .ok (.bl (getK ks ds k).isSome) S
      | none => .stuck
    | _ => .stuck
  | _ => .stuck
def nhasKD (y x : D) : M D := fun S => (hasKD y x S).bind fun d S => match d with
  | .bl b => .ok (.bl (!b)) S
  | _ => .stuck
theorem valV_get {k : Key} : ∀ {ks : List Key} {ds : List D} {xs : List V}, ds.length = xs.length → (valV (ks.zip xs) k).isSome = (getK ks ds k).isSome
  | [], _, _, _ => by simp [valV, getK]
  | n :: ks, [], [], h => by simp [valV, getK]
  | n :: ks, [], x :: xs, h => by simp at h
  | n :: ks, d :: ds, [], h => by simp at h
  | n :: ks, d :: ds, x :: xs, h => by
    by_cases q : n = k
    · rw [List.zip_cons_cons, valV_pos (p := (n, x)) q]
      simp only [getK, if_pos q, Option.isSome_some]
    · rw [List.zip_cons_cons, valV_neg (p := (n, x)) q, valV_get (by simpa using h)]
      simp only [getK, if_neg q]
theorem hasKD_fin {X : Cx} {P F : Hp} {μ : List Addr} {S : Store} {H : Hp} {y x : D} {w v : V} {γ δ : Type} {rep' : Hp → List Addr → γ → δ → Prop} {f : D → M γ} {Q : δ → Hp → Prop} {E : XK} (r : Rel (gX X) P F μ S H) (py : Rep (gX X) F μ y w) (px : Rep (gX X) F μ x v) (k : Fin rep' (gX X) P F μ ((hasKD y x S).bind f) Q E) :
    ∃ a o, v = .ref a ∧ DGet H a w o ∧ Fin rep' (gX X) P F μ (f (.bl o.isSome) S) Q E := by
  unfold hasKD at k
  cases x <;> first | exact k.elim | skip
  rename_i nn
  simp only at k
  split at k
  · rename_i ks ds q
    split at k
    · rename_i key qk
      simp only [Rep] at px
      obtain ⟨p, h1, rfl⟩ := px
      rcases r.live _ _ p q h1 with ⟨z, _⟩ | ⟨u, _, hu', hob⟩
      · cases z
      · obtain ⟨xs, hx, hr, hl⟩ := hob
        subst hx
        refine ⟨p, valV (ks.zip xs) key, rfl, by rw [keyOf_rep qk py]; exact DGet.k hu', ?_⟩
        rw [valV_get hr.length]
        exact k
    · exact k.elim
  · exact k.elim
section
variable {X : Cx} {W : WX} {a b : Expr} {fa fb : EM} {pos : Pos}
theorem d_hasK (hu : X.A.units + 65 < cLine) (ha : DE X W a fa) (hb : DE X W b fb) (hm : behindInMarks .In b = false := by first | exact nomark _ | rfl) : DE X W (.Compare a [.In] [b] pos) (mOp hasKD fa fb) := by
  refine PE.weak (pe_cmp (pc_din (by omega) ha hb) hm) fun σ H Q ⟨P, ρ, F, μ, S, en, rl, k⟩ => ?_
  refine tD.run en rl (Fin.imp (Fin.bind (rep := repD (gX X)) k) (fun v H1 ⟨x, F1, μ1, S1, g1, r1, p1, k1⟩ => ?_) fun _ _ _ z => z)
  refine tD.run (en.mono g1) r1 (Fin.imp (Fin.bind (rep := repD (gX X)) k1) (fun w H2 ⟨y, F2, μ2, S2, g2, r2, p2, k2⟩ => ?_) fun _ _ _ z => z)
  have k3 : Fin (repD (gX X)) (gX X) P F2 μ2 ((hasKD x y S2).bind fun d S => .ok d S) Q (fun c d H' => W c d σ H') := by
    cases q : hasKD x y S2 <;> rw [q] at k2 <;> exact k2
  obtain ⟨ad, o, rfl, hd, k4⟩ := hasKD_fin r2 (p1.mono g2) p2 k3
  exact ⟨ad, o, rfl, hd, k4.here r2 rep_bl⟩
theorem d_nhasK (hu : X.A.units + 65 < cLine) (ha : DE X W a fa) (hb : DE X W b fb) (hm : behindInMarks .NotIn b = false := by first | exact nomark _ | rfl) : DE X W (.Compare a [.NotIn] [b] pos) (mOp nhasKD fa fb) := by
  refine PE.weak (pe_cmp (pc_dnotin (by omega) ha hb) hm) fun σ H Q ⟨P, ρ, F, μ, S, en, rl, k⟩ => ?_
  refine tD.run en rl (Fin.imp (Fin.bind (rep := repD (gX X)) k) (fun v H1 ⟨x, F1, μ1, S1, g1, r1, p1, k1⟩ => ?_) fun _ _ _ z => z)
  refine tD.run (en.mono g1) r1 (Fin.imp (Fin.bind (rep := repD (gX X)) k1) (fun w H2 ⟨y, F2, μ2, S2, g2, r2, p2, k2⟩ => ?_) fun _ _ _ z => z)
  obtain ⟨ad, o, rfl, hd, k4⟩ := hasKD_fin r2 (p1.mono g2) p2 k2
  exact ⟨ad, o, rfl, hd, k4.here r2 rep_bl⟩
theorem db_hasK (hu : X.A.units + 65 < cLine) (ha : DE X W a fa) (hb : DE X W b fb) (hm : behindInMarks .In b = false := by first | exact nomark _ | rfl) : DB X W (.Compare a [.In] [b] pos) (mB (mOp hasKD fa fb)) := by
  refine PT.weak (pt_cmp (pc_din (by omega) ha hb) hm) fun σ H Q ⟨P, ρ, F, μ, S, en, rl, k⟩ => ?_
  have k' := Fin.bind (rep := repD (gX X)) k
  refine tD.run en rl (Fin.imp (Fin.bind (rep := repD (gX X)) k') (fun v H1 ⟨x, F1, μ1, S1, g1, r1, p1, k1⟩ => ?_) fun _ _ _ z => z)
  refine tD.run (en.mono g1) r1 (Fin.imp (Fin.bind (rep := repD (gX X)) k1) (fun w H2 ⟨y, F2, μ2, S2, g2, r2, p2, k2⟩ => ?_) fun _ _ _ z => z)
  have e0 : hasKD x y S2 = (hasKD x y S2).bind fun d S => .ok d S := by
    cases hasKD x y S2 <;> rfl
  rw [e0] at k2
  obtain ⟨ad, o, rfl, hd, k4⟩ := hasKD_fin r2 (p1.mono g2) p2 k2
  refine ⟨ad, o, rfl, hd, ?_⟩
  obtain ⟨z, F3, μ3, S3, g3, r3, p3, k5⟩ := k4.here r2 rep_bl
  obtain ⟨c, e, q⟩ := toB_fin k5 r3 p3
  exact ⟨c, e, q⟩
theorem db_nhasK (hu : X.A.units + 65 < cLine) (ha : DE X W a fa) (hb : DE X W b fb) (hm : behindInMarks .NotIn b = false := by first | exact nomark _ | rfl) : DB X W (.Compare a [.NotIn] [b] pos) (mB (mOp nhasKD fa fb)) := by
  refine PT.weak (pt_cmp (pc_dnotin (by omega) ha hb) hm) fun σ H Q ⟨P, ρ, F, μ, S, en, rl, k⟩ => ?_
  have k' := Fin.bind (rep := repD (gX X)) k
  refine tD.run en rl (Fin.imp (Fin.bind (rep := repD (gX X)) k') (fun v H1 ⟨x, F1, μ1, S1, g1, r1, p1, k1⟩ => ?_) fun _ _ _ z => z)
  refine tD.run (en.mono g1) r1 (Fin.imp (Fin.bind (rep := repD (gX X)) k1) (fun w H2 ⟨y, F2, μ2, S2, g2, r2, p2, k2⟩ => ?_) fun _ _ _ z => z)
  obtain ⟨ad, o, rfl, hd, k4⟩ := hasKD_fin r2 (p1.mono g2) p2 k2
  refine ⟨ad, o, rfl, hd, ?_⟩
  obtain ⟨z, F3, μ3, S3, g3, r3, p3, k5⟩ := k4.here r2 rep_bl
  obtain ⟨c, e, q⟩ := toB_fin k5 r3 p3
  exact ⟨c, e, q⟩
end
/-! ### a op b op c -/
def mChain (m m2 : D → D → M D) (fa fb fc : EM) : EM := fun ρ S => (fa ρ S).bind fun x S => (fb ρ S).bind fun y S => (m x y S).bind fun z S => (toB z S).bind fun b S => if b then (fc ρ S).bind fun w S => m2 y w S else .ok (.bl false) S
section
variable {X : Cx} {W : WX} {a b c : Expr} {fa fb fc : EM} {m m2 : D → D → M D} {pos : Pos}
theorem chain_run {r r' : R2} (hr : r = fun v w H Q => ∃ x y P F μ S E, Rel (gX X) P F μ S H ∧ Rep (gX X) F μ x v ∧ Rep (gX X) F μ y w ∧ Fin (repD (gX X)) (gX X) P F μ (m x y S) Q E) (hr' : r' = fun v w H Q => ∃ x y P F μ S E, Rel (gX X) P F μ S H ∧ Rep (gX X) F μ x v ∧ Rep (gX X) F μ y w ∧ Fin (repD (gX X)) (gX X) P F μ (m2 x y S) Q E) :
    ∀ σ H Q, tD (gX X) W (mChain m m2 fa fb fc) σ H Q → tChain r r' (tD (gX X) W fa) (tD (gX X) W fb) (tD (gX X) W fc) σ H Q := fun σ H Q ⟨P, ρ, F, μ, S, en, rl, k⟩ => by
  refine tD.run en rl (Fin.imp (Fin.bind (rep := repD (gX X)) k) (fun v H1 ⟨x, F1, μ1, S1, g1, r1, p1, k1⟩ => ?_) fun _ _ _ z => z)
  refine tD.run (en.mono g1) r1 (Fin.imp (Fin.bind (rep := repD (gX X)) k1) (fun w H2 ⟨y, F2, μ2, S2, g2, r2, p2, k2⟩ => ?_) fun _ _ _ z => z)
  rw [hr]
  refine ⟨x, y, P, F2, μ2, S2, _, r2, p1.mono g2, p2, Fin.imp (Fin.bind (rep := repD (gX X)) k2) (fun u H3 ⟨z, F3, μ3, S3, g3, r3, p3, k3⟩ => ?_) fun _ _ _ z => z⟩
  obtain ⟨cb, e, k4⟩ := toB_bind k3 p3
  refine ⟨cb, e, ?_⟩
  cases cb with
  | false => exact iteF (k4.here r3 (by simp only [repD, Rep]))
  | true =>
    refine iteT (tD.run (((en.mono g1).mono g2).mono g3) r3 (Fin.imp (Fin.bind (rep := repD (gX X)) k4) (fun w' H4 ⟨d, F4, μ4, S4, g4, r4, p4, k5⟩ => ?_) fun _ _ _ z => z))
    rw [hr']
    exact ⟨y, d, P, F4, μ4, S4, _, r4, (p2.mono g3).mono g4, p4, k5⟩
theorem d_chain {op op' : CmpOp} (ho : OpD X (compareOp op) m) (ho' : OpD X (compareOp op') m2) (ha : DE X W a fa) (hb : DE X W b fb) (hc : DE X W c fc) (hm : lastMarks [op, op'] [b, c] = false := by with_unfolding_all rfl) : DE X W (.Compare a [op, op'] [b, c] pos) (mChain m m2 fa fb fc) :=
  PE.weak (pe_chain ho ho' ha hb hc hm) (chain_run rfl rfl)
theorem db_chain {op op' : CmpOp} (ho : OpD X (compareOp op) m) (ho' : OpD X (compareOp op') m2) (ha : DE X W a fa) (hb : DE X W b fb) (hc : DE X W c fc) (hm : lastMarks [op, op'] [b, c] = false := by with_unfolding_all rfl) : DB X W (.Compare a [op, op'] [b, c] pos) (mB (mChain m m2 fa fb fc)) :=
  PT.weak (pt_chain ho ho' ha hb hc hm) fun σ H Q ⟨P, ρ, F, μ, S, en, rl, k⟩ => chain_run rfl rfl σ H _ (tD.run en rl (Fin.imp (Fin.bind (rep := repD (gX X)) k) (fun v H1 ⟨x, F1, μ1, S1, g1, r1, p1, k1⟩ => toB_fin k1 r1 p1) fun _ _ _ z => z))
end
/-! ### op= of ints -/
def iaddD : D → D → M D
  | .int i, .int j, S => .ok (.int (i + j)) S
  | _, _, _ => .stuck
def isubD : D → D → M D
  | .int i, .int j, S => .ok (.int (i - j)) S
  | _, _, _ => .stuck
theorem id_add {X : Cx} : InD X .Add iaddD := by
  intro pins s σ H x y u v Q I rx ry ⟨x0, y0, P, F, μ, S, E, rl, p1, p2, k⟩
  unfold iaddD at k
  split at k
  · rename_i i j
    exact in_add pins s σ H x y u v Q I rx ry ⟨i, j, p1.int, p2.int, k.here rl rep_int⟩
  · exact k.elim
theorem id_sub {X : Cx} : InD X .Sub isubD := by
  intro pins s σ H x y u v Q I rx ry ⟨x0, y0, P, F, μ, S, E, rl, p1, p2, k⟩
  unfold isubD at k
  split at k
  · rename_i i j
    exact in_sub pins s σ H x y u v Q I rx ry ⟨i, j, p1.int, p2.int, k.here rl rep_int⟩
  · exact k.elim
/-! ### list(x), a list that will change -/
def listN (x : D) : M D := fun S => match seqOf x S with
  | some l => .ok (.ref S.length) (S ++ [.lst l])
  | none => .stuck
theorem cd_listN {X : Cx} : CallD X (.type "list") (one listN) := by
  intro pins s σ H vs us Q I rv ⟨ds, P, F, μ, S, E, rl, rx, k⟩
  obtain ⟨d, v, rfl, p, k⟩ := one_fin k rx
  unfold listN at k
  split at k
  · rename_i l e
    obtain ⟨a, xs, rfl, hs, hr⟩ := seqOf_rep rl e p
    exact call_list_of pins s σ H _ us Q I rv ⟨a, xs, rfl, hs, fun q hq => k.newR rl hr hq⟩
  · exact k.elim
end DL

/-! Plain laws, 1: one step of a mirror; sizes; fractions. -/
namespace DL
open PySem PySem.Spec PyProof.Rows L2

section
variable (ρ : Env) (S : Store)
@[simp] theorem x_var (i : Nat) : mVar i ρ S = match ρ[i]? with
  | some (some d) => .ok d S
  | _ => .stuck := rfl
@[simp] theorem x_c (d : D) : mC d ρ S = .ok d S := rfl
@[simp] theorem x_nil : mNil ρ S = .ok [] S := rfl
@[simp] theorem x_cons (f : EM) (r : AM) : mCons f r ρ S = (f ρ S).bind fun x S => (r ρ S).bind fun xs S => .ok (x :: xs) S := rfl
@[simp] theorem x_op (m : D → D → M D) (a b : EM) : mOp m a b ρ S = (a ρ S).bind fun x S => (b ρ S).bind fun y S => m x y S := rfl
@[simp] theorem x_toB (b : Bool) : toB (.bl b) S = .ok b S := rfl
@[simp] theorem x_b (f : EM) : mB f ρ S = (f ρ S).bind toB := rfl
@[simp] theorem x_un (m : D → M D) (a : EM) : mUn m a ρ S = (a ρ S).bind m := rfl
@[simp] theorem x_and (f h : BM) : mAnd f h ρ S = (f ρ S).bind fun b S => if b then h ρ S else .ok false S := rfl
@[simp] theorem x_or (f h : BM) : mOr f h ρ S = (f ρ S).bind fun b S => if b then .ok true S else h ρ S := rfl
@[simp] theorem x_not (f : BM) : mNot f ρ S = (f ρ S).bind fun b S => .ok (!b) S := rfl
@[simp] theorem x_andV (f h : EM) : mAndV f h ρ S = (f ρ S).bind fun d S => (toB d S).bind fun b S => if b then h ρ S else .ok (.bl false) S := rfl
@[simp] theorem x_orV (f h : EM) : mOrV f h ρ S = (f ρ S).bind fun d S => (toB d S).bind fun b S => if b then .ok (.bl true) S else h ρ S := rfl
@[simp] theorem x_notV (f : EM) : mNotV f ρ S = (f ρ S).bind fun d S => (toB d S).bind fun b S => .ok (.bl (!b)) S := rfl
@[simp] theorem x_if (c : BM) (f h : EM) : mIf c f h ρ S = (c ρ S).bind fun b S => if b then f ρ S else h ρ S := rfl
@[simp] theorem x_next : mNext ρ S = .go .nx ρ S := rfl
@[simp] theorem x_brk : mBreak ρ S = .go .bk ρ S := rfl
@[simp] theorem x_cont : mCont ρ S = .go .ct ρ S := rfl
@[simp] theorem x_seq (f h : SM) : mSeq f h ρ S = (f ρ S).then h := rfl
@[simp] theorem x_drop (f : EM) : mDrop f ρ S = (f ρ S).to ρ fun _ S => .go .nx ρ S := rfl
@[simp] theorem x_ret (f : EM) : mRet f ρ S = (f ρ S).to ρ fun d S => .go (.rt d) ρ S := rfl
@[simp] theorem x_retN : mRetN ρ S = .go (.rt .non) ρ S := rfl
@[simp] theorem x_ifS (c : BM) (f h : SM) : mIfS c f h ρ S = (c ρ S).to ρ fun b S => if b then f ρ S else h ρ S := rfl
@[simp] theorem x_gN (i : Nat) (d : D) : gN i d ρ S = some (ρ.set i (some d), S) := rfl
@[simp] theorem x_gNil : gNilM [] ρ S = some (ρ, S) := rfl
@[simp] theorem x_gCons (f : GM) (r : List D → Env → Store → Option (Env × Store)) (d : D) (ds : List D) : gConsM f r (d :: ds) ρ S = (f d ρ S).bind fun x => r ds x.1 x.2 := rfl
@[simp] theorem x_gTup (n : Nat) (r : List D → Env → Store → Option (Env × Store)) (l : List D) : gTupM n r (.tup l) ρ S = if l.length = n then r l ρ S else none := rfl
@[simp] theorem x_gTupW (n : Nat) (r : List D → Env → Store → Option (Env × Store)) (l : List D) : gTupM n r (.wt l) ρ S = if l.length = n then r l ρ S else none := rfl
@[simp] theorem x_gTupL (n : Nat) (r : List D → Env → Store → Option (Env × Store)) (l : List D) : gTupM n r (.lst l) ρ S = if l.length = n then r l ρ S else none := rfl
@[simp] theorem x_asg (f : EM) (g : GM) : mAsg f g ρ S = (f ρ S).to ρ fun d S => match g d ρ S with
  | some (ρ', S') => .go .nx ρ' S'
  | none => .stuck := rfl
@[simp] theorem x_par (i j : Nat) (a b : EM) : mPar i j a b ρ S = ((a ρ S).bind fun x S => (b ρ S).bind fun y S => .ok (x, y) S).to ρ fun z S => .go .nx ((ρ.set i (some z.1)).set j (some z.2)) S := rfl
@[simp] theorem x_aug (i : Nat) (m : D → D → M D) (f : EM) : mAug i m f ρ S = ((mVar i ρ S).bind fun x S => (f ρ S).bind fun y S => m x y S).to ρ fun z S => .go .nx (ρ.set i (some z)) S := rfl
@[simp] theorem x_call (n : Nat) (m : List D → M D) (a : AM) : mCall n m a ρ S = (a ρ S).bind fun ds S => if ds.length = n then m ds S else .stuck := rfl
@[simp] theorem x_tup (a : AM) : mTup a ρ S = (a ρ S).bind fun l S => if l.length ≤ sizeLine then .ok (.tup l) S else .stuck := rfl
@[simp] theorem x_lst (a : AM) : mLst a ρ S = (a ρ S).bind fun l S => if l.length ≤ sizeLine then .ok (.lst l) S else .stuck := rfl
@[simp] theorem x_new (a : AM) : mNew a ρ S = (a ρ S).bind fun l S => if l.length ≤ sizeLine then .ok (.ref S.length) (S ++ [.lst l]) else .stuck := rfl
@[simp] theorem x_frz (f : EM) : mFrz f ρ S = (f ρ S).bind frzD := rfl
@[simp] theorem x_cb (m : List D → M D) (a : AM) : mCB m a ρ S = (a ρ S).bind m := rfl
@[simp] theorem x_noP : mNoP ρ S = .ok none S := rfl
@[simp] theorem x_part (f : EM) (i : Int) (S' : Store) (h : f ρ S = .ok (.int i) S') (hi : -(2 ^ 62) ≤ i ∧ i < 2 ^ 62) : mPart f ρ S = .ok (some i) S' := by
  unfold mPart; rw [h]; simp only [R.bind_ok]
@[simp] theorem x_sl (f : EM) (l h : PM) : mSl f l h ρ S = (f ρ S).bind fun x S => (l ρ S).bind fun l S => (h ρ S).bind fun h S => slD x l h S := rfl
@[simp] theorem x_yes : mYes ρ S = .ok true S := rfl
@[simp] theorem x_it (f : EM) : mIt f ρ S = (f ρ S).bind itemsD := rfl
@[simp] theorem x_itT (l : List D) : itemsD (.tup l) S = .ok l S := rfl
@[simp] theorem x_itL (l : List D) : itemsD (.lst l) S = .ok l S := rfl
@[simp] theorem x_raise (c : Str) : mRaise c ρ S = .go (.ex (.exc c [] [])) ρ S := rfl
@[simp] theorem x_for (fi : IM) (gm : GM) (fb : SM) : mFor fi gm fb ρ S = (fi ρ S).to ρ fun ds S => mForL gm fb ds ρ S := rfl
@[simp] theorem x_range1 (j : Int) : mRange1 (mC (.int j)) ρ S = if -(2 ^ 62) ≤ j ∧ j < 2 ^ 62 then .ok (rangeL 0 j.toNat) S else .stuck := rfl
@[simp] theorem x_forNil (gm : GM) (fb : SM) : mForL gm fb [] ρ S = .go .nx ρ S := rfl
@[simp] theorem x_lc (fin : List D → M D) (vs : List Nat) (fi : IM) (gm : GM) (tt : BM) (te : EM) : mLcF fin vs fi gm tt te ρ S = (fi ρ S).bind fun ds S => if ds.length ≤ sizeLine then (mLcL gm tt te (wipeD ρ vs) ds S).bind fin else .stuck := rfl
@[simp] theorem x_fun (n : Nat) (b : SM) (ds : List D) : mFun n b ds S = match b (start0 n ds) S with
  | .go .nx _ S => .ok .non S
  | .go (.rt d) _ S => .ok d S
  | .go (.ex e) _ S => .exn e S
  | _ => .stuck := rfl
@[simp] theorem x_add (i j : Int) : addD (.int i) (.int j) S = .ok (.int (i + j)) S := rfl
@[simp] theorem x_addB (i : Int) (j : Bool) : addD (.int i) (.bl j) S = .ok (.int (i + b2 j)) S := rfl
@[simp] theorem x_sub (i j : Int) : subD (.int i) (.int j) S = .ok (.int (i - j)) S := rfl
@[simp] theorem x_subB (i j : Bool) : subD (.bl i) (.bl j) S = .ok (.int (b2 i - b2 j)) S := rfl
@[simp] theorem x_mul (i j : Int) : mulD (.int i) (.int j) S = if i.natAbs.log2 + j.natAbs.log2 < 1000000 then .ok (.int (i * j)) S else .stuck := rfl
@[simp] theorem x_fdiv (i j : Int) : fdivD (.int i) (.int j) S = if j ≠ 0 ∧ j.natAbs.log2 < 9000 then .ok (.int (i.fdiv j)) S else .stuck := rfl
@[simp] theorem x_mod (i j : Int) : modD (.int i) (.int j) S = if j ≠ 0 then .ok (.int (i.fmod j)) S else .stuck := rfl
@[simp] theorem x_pow (i j : Int) : powD (.int i) (.int j) S = if 0 ≤ j ∧ j ≤ 1000000 ∧ i.natAbs < 2 ^ 64 then .ok (.int (i ^ j.toNat)) S else .stuck := rfl
@[simp] theorem x_neg (i : Int) : negD (.int i) S = .ok (.int (-i)) S := rfl
@[simp] theorem x_cmp (p : Int → Int → Bool) (i j : Int) : cmpD p (.int i) (.int j) S = .ok (.bl (p i j)) S := rfl
@[simp] theorem x_abs (i : Int) : absD (.int i) S = .ok (.int (if i < 0 then -i else i)) S := rfl
@[simp] theorem x_lenL (l : List D) : lenD (.lst l) S = .ok (.int l.length) S := rfl
@[simp] theorem x_lenT (l : List D) : lenD (.tup l) S = .ok (.int l.length) S := rfl
@[simp] theorem x_tupL (l : List D) : tupleD (.lst l) S = .ok (.tup l) S := rfl
@[simp] theorem x_tupT (l : List D) : tupleD (.tup l) S = .ok (.tup l) S := rfl
@[simp] theorem x_listL (l : List D) : listD (.lst l) S = .ok (.lst l) S := rfl
@[simp] theorem x_listT (l : List D) : listD (.tup l) S = .ok (.lst l) S := rfl
@[simp] theorem x_eqI (i j : Int) : eqD (.int i) (.int j) S = .ok (.bl (i == j)) S := rfl
@[simp] theorem x_neI (i j : Int) : neD (.int i) (.int j) S = .ok (.bl (!(i == j))) S := rfl
@[simp] theorem x_isN (d : D) : isND d .non S = .ok (.bl (isNon d)) S := rfl
@[simp] theorem x_notN (d : D) : notND d .non S = .ok (.bl (!isNon d)) S := rfl
@[simp] theorem x_ixT (l : List D) (i : Int) : ixD (.tup l) (.int i) S = match atI l i with
  | some d => .ok d S
  | none => .stuck := rfl
@[simp] theorem x_ixL (l : List D) (i : Int) : ixD (.lst l) (.int i) S = match atI l i with
  | some d => .ok d S
  | none => .stuck := rfl
end
theorem atI_nat {α : Type} (l : List α) (i : Nat) : atI l (i : Int) = l[i]? := by
  unfold atI ixN
  by_cases h : i < l.length
  · rw [if_pos (by omega), if_pos (by omega)]; rfl
  · rw [if_pos (by omega), if_neg (by omega), List.getElem?_eq_none (by omega)]; rfl
@[simp] theorem atI_0 {α : Type} (x : α) (l : List α) : atI (x :: l) 0 = some x := atI_nat _ 0
@[simp] theorem atI_1 {α : Type} (x y : α) (l : List α) : atI (x :: y :: l) 1 = some y := atI_nat _ 1
@[simp] theorem atI_2 {α : Type} (x y z : α) (l : List α) : atI (x :: y :: z :: l) 2 = some z := atI_nat _ 2
@[simp] theorem atI_3 {α : Type} (x y z t : α) (l : List α) : atI (x :: y :: z :: t :: l) 3 = some t := atI_nat _ 3
@[simp] theorem b2_t : b2 true = 1 := rfl
@[simp] theorem b2_f : b2 false = 0 := rfl
@[simp] theorem start_def (n : Nat) (ds : List D) : start0 n ds = ds.map some ++ List.replicate (n - ds.length) none := rfl

/-! ### sizes -/
def Sz (n : Nat) (z : Int) : Prop := z.natAbs < 2 ^ n
theorem Sz.mono {m n : Nat} {z : Int} (h : Sz n z) (k : n ≤ m) : Sz m z := Nat.lt_of_lt_of_le h (Nat.pow_le_pow_right (by decide) k)
theorem Sz.mul {m n : Nat} {x y : Int} (h : Sz m x) (k : Sz n y) : Sz (m + n) (x * y) := by
  unfold Sz at *
  rw [Int.natAbs_mul, Nat.pow_add]
  exact Nat.mul_lt_mul'' h k
theorem Sz.add {n : Nat} {x y : Int} (h : Sz n x) (k : Sz n y) : Sz (n + 1) (x + y) := by
  unfold Sz at *
  rw [Nat.pow_succ]; omega
theorem Sz.sub {n : Nat} {x y : Int} (h : Sz n x) (k : Sz n y) : Sz (n + 1) (x - y) := by
  unfold Sz at *
  rw [Nat.pow_succ]; omega
theorem Sz.neg {n : Nat} {x : Int} (h : Sz n x) : Sz n (-x) := by
  unfold Sz at *
  omega
theorem Sz.log2 {n : Nat} {x : Int} (h : Sz n x) : x.natAbs.log2 ≤ n := by
  by_cases z : x.natAbs = 0
  · rw [z]; simp
  · exact Nat.le_of_lt ((Nat.log2_lt z).mpr h)
theorem Sz.log2' {n : Nat} {x : Int} (h : Sz n x) (hn : 0 < n) : x.natAbs.log2 < n := by
  by_cases z : x.natAbs = 0
  · rw [z]; simpa using hn
  · exact (Nat.log2_lt z).mpr h
theorem mul_ok {m n : Nat} {x y : Int} (S : Store) (h : Sz m x) (k : Sz n y) (hn : m + n < 1000000) : mulD (.int x) (.int y) S = .ok (.int (x * y)) S := by
  rw [x_mul, if_pos]
  have := h.log2; have := k.log2; omega
theorem fdiv_ok {n : Nat} {x y : Int} (S : Store) (h : Sz n y) (hn : n < 9000) (h0 : y ≠ 0) : fdivD (.int x) (.int y) S = .ok (.int (x.fdiv y)) S := by
  rw [x_fdiv, if_pos]
  have := h.log2
  exact ⟨h0, by omega⟩
theorem mod_ok {x y : Int} (S : Store) (h0 : y ≠ 0) : modD (.int x) (.int y) S = .ok (.int (x.fmod y)) S := by
  rw [x_mod, if_pos h0]

/-! ### Euclid -/
theorem fmod_lt {x y : Int} (h : y ≠ 0) : (x.fmod y).natAbs < y.natAbs := by
  rcases Int.lt_or_gt_of_ne h with h | h
  · have e : x.fmod y = -((-x).fmod (-y)) := by
      rw [Int.fmod_def, Int.fmod_def, Int.neg_fdiv_neg, Int.neg_mul]; omega
    have h1 := Int.fmod_lt_of_pos (-x) (b := -y) (by omega)
    have h2 := Int.fmod_nonneg_of_pos (-x) (b := -y) (by omega)
    omega
  · have h1 := Int.fmod_lt_of_pos x h
    have h2 := Int.fmod_nonneg_of_pos x h
    omega
theorem fmod_gcd (x y : Int) : Int.gcd y (x.fmod y) = Int.gcd x y := by
  rw [Int.fmod_def, Int.gcd_sub_mul_left_right, Int.gcd_comm]
def euB (i j : Nat) : SM := mPar i j (mVar j) (mOp modD (mVar i) (mVar j))
def euC (j : Nat) : BM := mB (mOp neD (mVar j) (mC (.int 0)))
theorem eu_loop {i j : Nat} (hij : i ≠ j) : ∀ (n : Nat) (ρ : Env) (x y : Int) (S : Store), ρ[i]? = some (some (.int x)) → ρ[j]? = some (some (.int y)) → y.natAbs ≤ n →
    ∃ g : Int, mWhile (mB (mOp neD (mVar j) (mC (.int 0)))) (mPar i j (mVar j) (mOp modD (mVar i) (mVar j))) ρ S = .go .nx ((ρ.set i (some (.int g))).set j (some (.int 0))) S ∧ g.natAbs = Int.gcd x y ∧ (0 ≤ x → 0 ≤ y → 0 ≤ g) := by
  intro n
  induction n with
  | zero =>
    intro ρ x y S hi hj hy
    have hy0 : y = 0 := by omega
    subst hy0
    refine ⟨x, ?_, by simp, fun h _ => h⟩
    rw [mWhile_eq]
    simp [hj]
    have : (ρ.set i (some (D.int x))).set j (some (D.int 0)) = ρ := by
      apply List.ext_getElem?
      intro k
      by_cases h1 : j = k
      · subst h1
        have := (List.getElem?_eq_some_iff.mp hj).1
        rw [List.getElem?_set_self (by simpa using this), hj]
      · rw [List.getElem?_set_ne h1]
        by_cases h2 : i = k
        · subst h2
          have := (List.getElem?_eq_some_iff.mp hi).1
          rw [List.getElem?_set_self this, hi]
        · rw [List.getElem?_set_ne h2]
    rw [this]
  | succ n ih =>
    intro ρ x y S hi hj hy
    by_cases hy0 : y = 0
    · subst hy0
      exact ih ρ x 0 S hi hj (by simp)
    · have hil := (List.getElem?_eq_some_iff.mp hi).1
      have hjl := (List.getElem?_eq_some_iff.mp hj).1
      have hl := fmod_lt (x := x) hy0
      obtain ⟨g, h1, h2, h3⟩ := ih ((ρ.set i (some (.int y))).set j (some (.int (x.fmod y)))) y (x.fmod y) S
        (by rw [List.getElem?_set_ne (Ne.symm hij), List.getElem?_set_self hil]) (by rw [List.getElem?_set_self (by simpa using hjl)]) (by omega)
      refine ⟨g, ?_, by rw [h2, fmod_gcd], fun hx hyy => h3 hyy (Int.fmod_nonneg_of_pos x (by omega))⟩
      rw [mWhile_eq]
      simp [hj, hi, hy0]
      rw [h1]
      congr 1
      rw [List.set_comm _ _ hij, List.set_set, List.set_comm _ _ (Ne.symm hij), List.set_set]
end DL

/-! Plain laws, 2: fractions as rationals. -/
namespace DL
open PySem PySem.Spec PyProof.Rows L2

/-- the pair that stands for a rational -/
def fr (q : Rat) : D := .tup [.int q.num, .int q.den]
def RS (n : Nat) (q : Rat) : Prop := Sz n q.num ∧ q.den < 2 ^ n
theorem RS.mono {m n : Nat} {q : Rat} (h : RS m q) (k : m ≤ n) : RS n q := ⟨h.1.mono k, Nat.lt_of_lt_of_le h.2 (Nat.pow_le_pow_right (by decide) k)⟩
theorem RS.den {m : Nat} {q : Rat} (h : RS m q) : Sz m (q.den : Int) := by
  unfold Sz; simpa using h.2
theorem den_ne (q : Rat) : (q.den : Int) ≠ 0 := by have := q.den_nz; omega
theorem den_pos (q : Rat) : (0 : Int) < q.den := by have := q.den_nz; omega
theorem divInt_parts {t b g : Int} (hb : b ≠ 0) (hg : g.natAbs = Int.gcd t b) (h1 : 0 < b → 0 ≤ g) (h2 : b < 0 → g ≤ 0) :
    g ≠ 0 ∧ t.fdiv g = (Rat.divInt t b).num ∧ b.fdiv g = ((Rat.divInt t b).den : Int) := by
  have hgc : Int.gcd t b ≠ 0 := by
    intro z
    exact hb (Int.gcd_eq_zero_iff.mp z).2
  have g0 : g ≠ 0 := by omega
  have dt : ((Int.gcd t b : Nat) : Int) ∣ t := Int.gcd_dvd_left t b
  have db : ((Int.gcd t b : Nat) : Int) ∣ b := Int.gcd_dvd_right t b
  refine ⟨g0, ?_, ?_⟩
  · rw [Rat.num_divInt, Int.gcd_comm b t]
    rcases Int.lt_or_gt_of_ne hb with h | h
    · have e : g = -((Int.gcd t b : Nat) : Int) := by have := h2 h; omega
      rw [Int.sign_eq_neg_one_of_neg h, e, Int.fdiv_eq_ediv_of_dvd (by rw [Int.neg_dvd]; exact dt), Int.ediv_neg, ← Int.neg_ediv_of_dvd dt, Int.neg_one_mul]
    · have e : g = ((Int.gcd t b : Nat) : Int) := by have := h1 h; omega
      rw [Int.sign_eq_one_of_pos h, e, Int.fdiv_eq_ediv_of_dvd dt, Int.one_mul]
  · rw [Rat.den_divInt, if_neg hb, Int.gcd_comm b t]
    rcases Int.lt_or_gt_of_ne hb with h | h
    · have e : g = -((Int.gcd t b : Nat) : Int) := by have := h2 h; omega
      have eb : b = -((b.natAbs : Nat) : Int) := by omega
      rw [e, Int.fdiv_eq_ediv_of_dvd (by rw [Int.neg_dvd]; exact db), Int.ediv_neg, ← Int.neg_ediv_of_dvd db]
      rw [Int.natCast_ediv]
      congr 1; omega
    · have e : g = ((Int.gcd t b : Nat) : Int) := by have := h1 h; omega
      rw [e, Int.fdiv_eq_ediv_of_dvd db, Int.natCast_ediv]
      congr 1; omega
theorem RS.divInt {n : Nat} {t b : Int} (ht : Sz n t) (hb : Sz n b) (hn : 0 < n) : RS n (Rat.divInt t b) := by
  constructor
  · unfold Sz at *
    rw [Rat.num_divInt]
    refine Nat.lt_of_le_of_lt ?_ ht
    rw [Int.natAbs_ediv_of_dvd]
    · refine Nat.le_trans (Nat.div_le_self _ _) ?_
      rw [Int.natAbs_mul]
      have : b.sign.natAbs ≤ 1 := by
        rw [Int.natAbs_sign]; split <;> omega
      calc b.sign.natAbs * t.natAbs ≤ 1 * t.natAbs := Nat.mul_le_mul_right _ this
        _ = t.natAbs := Nat.one_mul _
    · exact Int.dvd_mul_of_dvd_right (Int.gcd_dvd_right b t)
  · rw [Rat.den_divInt]
    split
    · exact Nat.one_lt_two_pow (by omega)
    · exact Nat.lt_of_le_of_lt (Nat.div_le_self _ _) hb
theorem add_eq (q r : Rat) : Rat.divInt (q.num * r.den + r.num * q.den) (q.den * r.den) = q + r := by
  rw [← Rat.divInt_add_divInt _ _ (den_ne q) (den_ne r), Rat.num_divInt_den, Rat.num_divInt_den]
theorem sub_eq (q r : Rat) : Rat.divInt (q.num * r.den - r.num * q.den) (q.den * r.den) = q - r := by
  rw [← Rat.divInt_sub_divInt _ _ (den_ne q) (den_ne r), Rat.num_divInt_den, Rat.num_divInt_den]
theorem mul_eq (q r : Rat) : Rat.divInt (q.num * r.num) (q.den * r.den) = q * r := by
  rw [← Rat.divInt_mul_divInt, Rat.num_divInt_den, Rat.num_divInt_den]
theorem div_eq (q r : Rat) : Rat.divInt (q.num * r.den) (q.den * r.num) = q / r := by
  rw [← Rat.divInt_mul_divInt, Rat.num_divInt_den, Rat.div_def, Rat.inv_def]
theorem neg_fr (q : Rat) : D.tup [.int (-q.num), .int q.den] = fr (-q) := by
  unfold fr; rw [Rat.neg_num, Rat.neg_den]
@[simp] theorem ix_fr0 (q : Rat) (S : Store) : ixD (fr q) (.int 0) S = .ok (.int q.num) S := rfl
@[simp] theorem ix_fr1 (q : Rat) (S : Store) : ixD (fr q) (.int 1) S = .ok (.int q.den) S := rfl
theorem RS.neg {n : Nat} {q : Rat} (h : RS n q) : RS n (-q) := by
  unfold RS; rw [Rat.neg_num, Rat.neg_den]; exact ⟨h.1.neg, h.2⟩
theorem RS.add {m n : Nat} {q r : Rat} (h : RS m q) (k : RS n r) : RS (m + n + 1) (q + r) := by
  rw [← add_eq]
  refine RS.divInt ((h.1.mul k.den).add ((k.1.mul h.den).mono (by omega))) ((h.den.mul k.den).mono (by omega)) (by omega)
theorem RS.sub {m n : Nat} {q r : Rat} (h : RS m q) (k : RS n r) : RS (m + n + 1) (q - r) := by
  rw [← sub_eq]
  refine RS.divInt ((h.1.mul k.den).sub ((k.1.mul h.den).mono (by omega))) ((h.den.mul k.den).mono (by omega)) (by omega)
theorem RS.pos {n : Nat} {q : Rat} (h : RS n q) : 0 < n := by
  have h1 := h.2
  have h2 := q.den_nz
  rcases Nat.eq_zero_or_pos n with z | z
  · subst z; simp at h1; omega
  · exact z
theorem RS.mul {m n : Nat} {q r : Rat} (h : RS m q) (k : RS n r) : RS (m + n) (q * r) := by
  rw [← mul_eq]
  exact RS.divInt (h.1.mul k.1) (h.den.mul k.den) (by have := h.pos; omega)
theorem RS.div {m n : Nat} {q r : Rat} (h : RS m q) (k : RS n r) : RS (m + n) (q / r) := by
  rw [← div_eq]
  exact RS.divInt (h.1.mul k.den) (h.den.mul k.1) (by have := h.pos; omega)
theorem RS.zero : RS 1 0 := by
  refine ⟨?_, ?_⟩ <;> simp [Sz] <;> decide
theorem RS.int {n : Nat} {z : Int} (h : Sz n z) (hn : 0 < n) : RS n (z : Rat) := by
  refine ⟨?_, ?_⟩
  · simpa using h
  · simp; omega
end DL

/-! Plain laws, 3: what is shown, what is equal. -/
namespace DL
open PySem PySem.Spec PyProof.Rows L2

mutual
/-- all ints of a datum are less than n bits long -/
def szD (n : Nat) : D → Prop
  | .int i => Sz n i
  | .tup l => szDs n l
  | .lst l => szDs n l
  | _ => True
def szDs (n : Nat) : List D → Prop
  | [] => True
  | d :: ds => szD n d ∧ szDs n ds
end
theorem pow_digits : 2 ^ 14000 ≤ 10 ^ 4300 := by decide +kernel
mutual
theorem shw_few : ∀ (d : D) (n : Nat), szD 14000 d → plain n d = true → fewB (toPy d) = true ∧ (toPy d).leavesShort 4301 = true
  | .non, _, _, _ => ⟨rfl, rfl⟩
  | .bl _, _, _, _ => ⟨rfl, rfl⟩
  | .int i, _, h, _ => by
    simp only [szD] at h
    have h1 : i.natAbs < 10 ^ 4300 := Nat.lt_of_lt_of_le h pow_digits
    refine ⟨by simp only [toPy, fewB]; exact decide_eq_true h1, ?_⟩
    simp only [toPy, PyData.leavesShort]
    refine decide_eq_true ?_
    have e := int_text_length_le10 (a := i) (k := 4300) (by decide) h1
    show (Str.ofString (toString i)).length ≤ 4301
    rw [PySem.ofString_length]; exact e
  | .str x, _, _, h => by
    refine ⟨rfl, ?_⟩
    have hx : PyData.strOk x = true := by simpa [plain] using h
    have := PyData.leavesShort_of_canLay0 4301 (.str x) (by simpa [PyData.canLay0] using hx) rfl
    simpa [toPy] using this
  | .tup l, 0, _, hp => by simp [plain] at hp
  | .tup l, n + 1, h, hp => by
    simp only [szD] at h
    simp only [plain] at hp
    simpa [toPy, fewB, PyData.leavesShort] using shws_few l n h hp
  | .lst l, 0, _, hp => by simp [plain] at hp
  | .lst l, n + 1, h, hp => by
    simp only [szD] at h
    simp only [plain] at hp
    simpa [toPy, fewB, PyData.leavesShort] using shws_few l n h hp
  | .wt .., _, _, hp => by simp [plain] at hp
  | .obj .., _, _, hp => by simp [plain] at hp
  | .exc .., _, _, hp => by simp [plain] at hp
  | .ref .., _, _, hp => by simp [plain] at hp
theorem shws_few : ∀ (ds : List D) (n : Nat), szDs 14000 ds → plains n ds = true → fewsB (toPys ds) = true ∧ PyData.leavesShortAll 4301 (toPys ds) = true
  | [], _, _, _ => ⟨rfl, rfl⟩
  | d :: ds, n, h, hp => by
    simp only [szDs] at h
    simp only [plains, Bool.and_eq_true] at hp
    have h1 := shw_few d n h.1 hp.1
    have h2 := shws_few ds n h.2 hp.2
    simp [toPys, fewsB, PyData.leavesShortAll, h1, h2]
end
/-- a datum that repr shows -/
structure Shw (d : D) : Prop where
  p : plain 63 d = true
  s : fewB (toPy d) = true
  l : (toPy d).shown.length ≤ sizeLine
theorem shw_of {d : D} (hp : plain 63 d = true) (hs : szD 14000 d) (hb : (toPy d).bulk ≤ 3800) : Shw d := by
  obtain ⟨h1, h2⟩ := shw_few d 63 hs hp
  refine ⟨hp, h1, ?_⟩
  have := PyData.shown_le_bulk 4301 (by decide) _ h2
  have e : sizeLine = 16777216 := rfl
  have : (4301 + 2) * (toPy d).bulk ≤ 4303 * 3800 := Nat.mul_le_mul_left _ hb
  omega
theorem der_plain {d : D} {n : Nat} (S : Store) (h : plain n d = true) : derD d S = d := by
  cases d <;> first | rfl | (simp [plain] at h)
theorem repr_ok {d : D} (S : Store) (h : Shw d) : reprD d S = .ok (.str (toPy d).shown) S := by
  unfold reprD
  rw [der_plain S h.p]
  simp [h.p, h.s, h.l]
/-- equal texts -/
theorem eq_str (x y : Str) (S : Store) : eqD (.str x) (.str y) S = .ok (.bl (x == y)) S := rfl
theorem shw_fr {n : Nat} {q : Rat} (h : RS n q) (hn : n ≤ 14000) : Shw (fr q) :=
  shw_of rfl (by simp only [fr, szD, szDs]; exact ⟨h.1.mono hn, h.den.mono hn, trivial⟩) (by simp [fr, toPy, toPys, PyData.bulk, PyData.bulkAll])
theorem shw_pt {m n : Nat} {q r : Rat} (h : RS m q) (k : RS n r) (hm : m ≤ 14000) (hn : n ≤ 14000) : Shw (.tup [fr q, fr r]) :=
  shw_of rfl (by simp only [fr, szD, szDs]; exact ⟨⟨h.1.mono hm, h.den.mono hm, trivial⟩, ⟨k.1.mono hn, k.den.mono hn, trivial⟩, trivial⟩) (by simp [fr, toPy, toPys, PyData.bulk, PyData.bulkAll])
end DL

/-! Plain laws, 4: steps of exceptions, of methods. -/
namespace DL
open PySem PySem.Spec PyProof.Rows L2
section
variable (ρ : Env) (S : Store)
@[simp] theorem x_met (ok : D → Store → Bool) (m : D → List D → M D) (fo : EM) (fa : AM) : mMet ok m fo fa ρ S = (fo ρ S).bind fun o S => if ok o S then (fa ρ S).bind fun ds S => m o ds S else .stuck := rfl
@[simp] theorem x_metA (ok : D → Store → Bool) (m : D → List D → M D) (fo : EM) (fa : AM) : mMetA ok m fo fa ρ S = (fo ρ S).bind fun o S => if ok o S then (fa ρ S).bind fun ds S => if ok o S then m o ds S else .stuck else .stuck := rfl
@[simp] theorem x_is (T : String) (tab : List (Str × Bool)) (fe : EM) : mIs T tab fe ρ S = (fe ρ S).bind (isD T tab) := rfl
@[simp] theorem x_isC (tab : List (Str × Bool)) (fe : EM) : mIsC tab fe ρ S = (fe ρ S).bind (isC tab) := rfl
@[simp] theorem x_isCe (tab : List (Str × Bool)) (c : Str) (ns : List Str) (ds : List D) : isC tab (.exc c ns ds) S = match tab.lookup c with
  | some b => .ok (.bl b) S
  | none => .stuck := rfl
@[simp] theorem x_isDe (T : String) (tab : List (Str × Bool)) (c : Str) (ns : List Str) (ds : List D) : isD T tab (.exc c ns ds) S = match tab.lookup c with
  | some b => .ok (.bl b) S
  | none => .stuck := rfl
@[simp] theorem x_xf (cs : List Str) (f : Str) (fe : EM) : mXfC cs f fe ρ S = (fe ρ S).bind (xfC cs f) := rfl
@[simp] theorem x_try (cs : List Str) (i j : Nat) (b : SM) : mTryK cs i j b ρ S = match b ρ S with
  | .go (.ex (.exc c ns ds)) ρ' S' => if cs.contains c && decide (i < ρ'.length) then .go .nx (((ρ'.set i (some (.exc c ns ds))).set j (some (.exc c ns ds))).set i none) S' else .stuck
  | .go (.ex _) _ _ => .stuck
  | o => o := rfl
end
/-- the store has grown, what was there (but for u) stands -/
structure Ext (u : Nat) (S S' : Store) : Prop where
  len : S.length ≤ S'.length
  at_ : ∀ n, n < S.length → n ≠ u → S'[n]? = S[n]?
theorem Ext.refl (u : Nat) (S : Store) : Ext u S S := ⟨Nat.le_refl _, fun _ _ _ => rfl⟩
theorem Ext.trans {u : Nat} {S S1 S2 : Store} (h : Ext u S S1) (k : Ext u S1 S2) : Ext u S S2 := ⟨Nat.le_trans h.len k.len, fun n hn hu => (k.at_ n (Nat.lt_of_lt_of_le hn h.len) hu).trans (h.at_ n hn hu)⟩
theorem Ext.app (u : Nat) (S X : Store) : Ext u S (S ++ X) := ⟨by simp, fun n hn _ => List.getElem?_append_left hn⟩
end DL

namespace DL
open PySem PySem.Spec PyProof.Rows L2
def k_ZERO : D := (.tup [(.int 0), (.int 1)])
def k_SMALL : D := (.str "abcdefghijklmnopqrstuvwxyz")
def k_DIGITS : D := (.str "0123456789")
def k_KEYWORDS : D := (.tup [(.str "line"), (.str "drift"), (.str "where"), (.str "and")])
def k_SYMBOLS : D := (.tup [(.str "<"), (.str ">"), (.str "="), (.str "-"), (.str "/")])
def k_MAX_DIGITS : D := (.int 4)
def k_MAX_NAME : D := (.int 8)
def k_MAX_TOKENS : D := (.int 60)
def k_MAX_ITEMS : D := (.int 40)
def k_MAX_LINES : D := (.int 6)
def k_MAX_RULES : D := (.int 12)
def k_END : D := (.str "end of line")
def cs_column : List Str := ["Token"]
def cs_index : List Str := ["LineParser"]
def cs_kind : List Str := ["Token"]
def cs_names : List Str := ["LineParser"]
def cs_row : List Str := ["LineParser"]
def cs_spelling : List Str := ["Token"]
def cs_tokens : List Str := ["LineParser"]
noncomputable def m_L_twin : List D → M D := mFun 2 (mRet (mOp eqD (mCB (one reprD) (mCons (mVar 0) mNil)) (mCB (one reprD) (mCons (mVar 1) mNil))))
noncomputable def m_LineParser_peek : List D → M D := mFun 1 (mRet (mOp ixD (mFld cs_tokens "tokens" (mVar 0)) (mFld cs_index "index" (mVar 0))))
noncomputable def m_LineParser_accept : List D → M D := mFun 4 (mSeq (mAsg (mMeth "LineParser" "peek" 0 m_LineParser_peek (mVar 0) mNil) (gN 3))
  (mSeq (mIfS (mOr (mB (mOp neD (mFld cs_kind "kind" (mVar 3)) (mVar 1))) (mB (mOp neD (mFld cs_spelling "spelling" (mVar 3)) (mVar 2)))) (mRet (mC (.bl false))) mNext)
  (mSeq (mAugF cs_index "index" iaddD (mVar 0) (mC (.int 1)))
  (mRet (mC (.bl true))))))
noncomputable def m_LineParser_fail : List D → M D := mFun 2 (mRaiseI "SyntaxProblem" ["line", "column"] (mCons (mFld cs_row "row" (mVar 0)) (mCons (mFld cs_column "column" (mVar 1)) mNil)))
noncomputable def m_LineParser_take : List D → M D := mFun 3 (mSeq (mAsg (mMeth "LineParser" "peek" 0 m_LineParser_peek (mVar 0) mNil) (gN 2))
  (mSeq (mIfS (mB (mOp neD (mFld cs_kind "kind" (mVar 2)) (mVar 1))) (mDrop (mMeth "LineParser" "fail" 1 m_LineParser_fail (mVar 0) (mCons (mVar 2) mNil))) mNext)
  (mSeq (mAugF cs_index "index" iaddD (mVar 0) (mC (.int 1)))
  (mRet (mVar 2)))))
noncomputable def m_greatest_divisor : List D → M D := mFun 2 (mSeq (mWhile (mB (mOp neD (mVar 1) (mC (.int 0)))) (mPar 0 1 (mVar 1) (mOp modD (mVar 0) (mVar 1))))
  (mRet (mCB (one absD) (mCons (mVar 0) mNil))))
noncomputable def m_fraction : List D → M D := mFun 3 (mSeq (mIfS (mB (mOp eqD (mVar 1) (mC (.int 0)))) (mRaise "ZeroDivisor") mNext)
  (mSeq (mAsg (mCall 2 m_greatest_divisor (mCons (mVar 0) (mCons (mVar 1) mNil))) (gN 2))
  (mSeq (mAsg (mIf (mB (mOp ltD (mVar 1) (mC (.int 0)))) (mUn negD (mVar 2)) (mVar 2)) (gN 2))
  (mRet (mTup (mCons (mOp fdivD (mVar 0) (mVar 2)) (mCons (mOp fdivD (mVar 1) (mVar 2)) mNil)))))))
noncomputable def m_minus : List D → M D := mFun 2 (mRet (mCall 2 m_fraction (mCons (mOp subD (mOp mulD (mOp ixD (mVar 0) (mC (.int 0))) (mOp ixD (mVar 1) (mC (.int 1)))) (mOp mulD (mOp ixD (mVar 1) (mC (.int 0))) (mOp ixD (mVar 0) (mC (.int 1))))) (mCons (mOp mulD (mOp ixD (mVar 0) (mC (.int 1))) (mOp ixD (mVar 1) (mC (.int 1)))) mNil))))
noncomputable def m_times : List D → M D := mFun 2 (mRet (mCall 2 m_fraction (mCons (mOp mulD (mOp ixD (mVar 0) (mC (.int 0))) (mOp ixD (mVar 1) (mC (.int 0)))) (mCons (mOp mulD (mOp ixD (mVar 0) (mC (.int 1))) (mOp ixD (mVar 1) (mC (.int 1)))) mNil))))
noncomputable def e_is_same_line_1 : EM := (mOp eqD (mCall 2 m_minus (mCons (mCall 2 m_times (mCons (mOp ixD (mVar 0) (mVar 3)) (mCons (mOp ixD (mVar 1) (mVar 4)) mNil))) (mCons (mCall 2 m_times (mCons (mOp ixD (mVar 0) (mVar 4)) (mCons (mOp ixD (mVar 1) (mVar 3)) mNil))) mNil))) (mC k_ZERO))
noncomputable def m_is_same_line : List D → M D := mFun 5 (mSeq (mAsg (mLst (mCons (mTup (mCons (mC (.int 0)) (mCons (mC (.int 1)) mNil))) (mCons (mTup (mCons (mC (.int 0)) (mCons (mC (.int 2)) mNil))) (mCons (mTup (mCons (mC (.int 1)) (mCons (mC (.int 2)) mNil))) mNil)))) (gN 2))
  (mRet (mCB (one allD) (mCons (mLc [3, 4] (mIt (mVar 2)) (gTupM 2 (gConsM (gN 3) (gConsM (gN 4) gNilM))) mYes e_is_same_line_1) mNil))))
noncomputable def m_LineParser_signed_fraction : List D → M D := mFun 5 (mSeq (mAsg (mMeth "LineParser" "accept" 2 m_LineParser_accept (mVar 0) (mCons (mC (.str "symbol")) (mCons (mC (.str "-")) mNil))) (gN 1))
  (mSeq (mPar 2 3 (mCB (one intD) (mCons (mFld cs_spelling "spelling" (mMeth "LineParser" "take" 1 m_LineParser_take (mVar 0) (mCons (mC (.str "number")) mNil))) mNil)) (mC (.int 1)))
  (mSeq (mIfS (mB (mMeth "LineParser" "accept" 2 m_LineParser_accept (mVar 0) (mCons (mC (.str "symbol")) (mCons (mC (.str "/")) mNil)))) (mSeq (mAsg (mMeth "LineParser" "take" 1 m_LineParser_take (mVar 0) (mCons (mC (.str "number")) mNil)) (gN 4))
  (mSeq (mAsg (mCB (one intD) (mCons (mFld cs_spelling "spelling" (mVar 4)) mNil)) (gN 3))
  (mIfS (mB (mOp eqD (mVar 3) (mC (.int 0)))) (mDrop (mMeth "LineParser" "fail" 1 m_LineParser_fail (mVar 0) (mCons (mVar 4) mNil))) mNext))) mNext)
  (mRet (mCall 2 m_fraction (mCons (mIf (mB (mVar 1)) (mUn negD (mVar 2)) (mVar 2)) (mCons (mVar 3) mNil)))))))
noncomputable def e_LineParser_straight_line_1 : EM := (mCall 2 m_is_same_line (mCons (mTup (mCons (mVar 3) (mCons (mVar 5) (mCons (mVar 6) mNil)))) (mCons (mSl (mVar 7) (mPart (mC (.int 1))) mNoP) mNil)))
noncomputable def m_LineParser_straight_line : List D → M D := mFun 8 (mSeq (mAsg (mMeth "LineParser" "take" 1 m_LineParser_take (mVar 0) (mCons (mC (.str "name")) mNil)) (gN 2))
  (mSeq (mIfS (mOr (mB (mOp inD (mFld cs_spelling "spelling" (mVar 2)) (mFld cs_names "names" (mVar 0)))) (mB (mOp eqD (mCB (one lenD) (mCons (mVar 1) mNil)) (mC k_MAX_LINES)))) (mDrop (mMeth "LineParser" "fail" 1 m_LineParser_fail (mVar 0) (mCons (mVar 2) mNil))) mNext)
  (mSeq (mAsg (mMeth "LineParser" "signed_fraction" 0 m_LineParser_signed_fraction (mVar 0) mNil) (gN 3))
  (mSeq (mAsg (mMeth "LineParser" "peek" 0 m_LineParser_peek (mVar 0) mNil) (gN 4))
  (mSeq (mAsg (mMeth "LineParser" "signed_fraction" 0 m_LineParser_signed_fraction (mVar 0) mNil) (gN 5))
  (mSeq (mIfS (mB (mChain eqD eqD (mVar 3) (mVar 5) (mC k_ZERO))) (mDrop (mMeth "LineParser" "fail" 1 m_LineParser_fail (mVar 0) (mCons (mVar 4) mNil))) mNext)
  (mSeq (mAsg (mMeth "LineParser" "peek" 0 m_LineParser_peek (mVar 0) mNil) (gN 4))
  (mSeq (mAsg (mMeth "LineParser" "signed_fraction" 0 m_LineParser_signed_fraction (mVar 0) mNil) (gN 6))
  (mSeq (mIfS (mB (mCB (one anyD) (mCons (mLcS fzL [7] (mVar 1) (gN 7) mYes e_LineParser_straight_line_1) mNil))) (mDrop (mMeth "LineParser" "fail" 1 m_LineParser_fail (mVar 0) (mCons (mVar 4) mNil))) mNext)
  (mSeq (mDrop (mMeth "LineParser" "take" 1 m_LineParser_take (mVar 0) (mCons (mC k_END) mNil)))
  (mRet (mTup (mCons (mFld cs_spelling "spelling" (mVar 2)) (mCons (mVar 3) (mCons (mVar 5) (mCons (mVar 6) mNil))))))))))))))))
noncomputable def e_LineParser_conditions_1 : EM := (mVar 5)
noncomputable def t_LineParser_conditions_2 : BM := (mB (mC (.bl true)))
noncomputable def b_LineParser_conditions_3 : SM := (mSeq (mAsg (mMeth "LineParser" "take" 1 m_LineParser_take (mVar 0) (mCons (mC (.str "name")) mNil)) (gN 3))
  (mSeq (mIfS (mOr (mB (mOp niD (mFld cs_spelling "spelling" (mVar 3)) (mFld cs_names "names" (mVar 0)))) (mB (mOp inD (mFld cs_spelling "spelling" (mVar 3)) (mLcS fzL [5, 6] (mVar 2) (gTupM 2 (gConsM (gN 5) (gConsM (gN 6) gNilM))) mYes e_LineParser_conditions_1)))) (mDrop (mMeth "LineParser" "fail" 1 m_LineParser_fail (mVar 0) (mCons (mVar 3) mNil))) mNext)
  (mSeq (mAsg (mMeth "LineParser" "take" 1 m_LineParser_take (mVar 0) (mCons (mC (.str "symbol")) mNil)) (gN 4))
  (mSeq (mIfS (mB (mOp nhasKD (mFld cs_spelling "spelling" (mVar 4)) (mVar 1))) (mDrop (mMeth "LineParser" "fail" 1 m_LineParser_fail (mVar 0) (mCons (mVar 4) mNil))) mNext)
  (mSeq (mDrop (mMet isL appendD (mVar 2) (mCons (mTup (mCons (mFld cs_spelling "spelling" (mVar 3)) (mCons (mOp dgetD (mVar 1) (mFld cs_spelling "spelling" (mVar 4))) mNil))) mNil)))
  (mIfS (mNot (mB (mMeth "LineParser" "accept" 2 m_LineParser_accept (mVar 0) (mCons (mC (.str "word")) (mCons (mC (.str "and")) mNil))))) (mSeq (mDrop (mMeth "LineParser" "take" 1 m_LineParser_take (mVar 0) (mCons (mC k_END) mNil)))
  (mRet (mCB (one tupleD) (mCons (mVar 2) mNil)))) mNext))))))
noncomputable def m_LineParser_conditions : List D → M D := mFun 7 (mSeq (mAsg (mNew mNil) (gN 2))
  (mWhile t_LineParser_conditions_2 b_LineParser_conditions_3))
noncomputable def m_LineParser_rule : List D → M D := mFun 2 (mSeq (mAsg (mTup (mCons (mMeth "LineParser" "signed_fraction" 0 m_LineParser_signed_fraction (mVar 0) mNil) (mCons (mMeth "LineParser" "signed_fraction" 0 m_LineParser_signed_fraction (mVar 0) mNil) mNil))) (gN 1))
  (mSeq (mIfS (mNot (mB (mMeth "LineParser" "accept" 2 m_LineParser_accept (mVar 0) (mCons (mC (.str "word")) (mCons (mC (.str "where")) mNil))))) (mSeq (mDrop (mMeth "LineParser" "take" 1 m_LineParser_take (mVar 0) (mCons (mC k_END) mNil)))
  (mRet (mTup (mCons (mVar 1) (mCons (mTup mNil) mNil))))) mNext)
  (mRet (mTup (mCons (mVar 1) (mCons (mMeth "LineParser" "conditions" 1 m_LineParser_conditions (mVar 0) (mCons (mDct [.inr "<", .inr ">"] [(mUn negD (mC (.int 1))), (mC (.int 1))]) mNil)) mNil))))))
noncomputable def m_Token_init : List D → M D := mFun 4 (mSeq (mSetF cs_kind "kind" (mVar 0) (mVar 1))
  (mSeq (mSetF cs_spelling "spelling" (mVar 0) (mVar 2))
  (mSetF cs_column "column" (mVar 0) (mVar 3))))
noncomputable def t_end_of_run_1 : BM := (mAnd (mB (mOp ltD (mVar 3) (mCB (one lenD) (mCons (mVar 0) mNil)))) (mB (mOp inD (mOp ixD (mVar 0) (mVar 3)) (mVar 2))))
noncomputable def b_end_of_run_2 : SM := (mAug 3 iaddD (mC (.int 1)))
noncomputable def m_end_of_run : List D → M D := mFun 4 (mSeq (mAsg (mVar 1) (gN 3))
  (mSeq (mWhile t_end_of_run_1 b_end_of_run_2)
  (mRet (mVar 3))))
noncomputable def m_token_at : List D → M D := mFun 5 (mSeq (mAsg (mOp ixD (mVar 0) (mVar 2)) (gN 3))
  (mSeq (mIfS (mB (mOp inD (mVar 3) (mC k_SMALL))) (mSeq (mAsg (mSl (mVar 0) (mPart (mVar 2)) (mPart (mCall 3 m_end_of_run (mCons (mVar 0) (mCons (mVar 2) (mCons (mOp addD (mC k_SMALL) (mC k_DIGITS)) mNil)))))) (gN 4))
  (mSeq (mIfS (mAnd (mB (mOp niD (mVar 4) (mC k_KEYWORDS))) (mB (mOp gtD (mCB (one lenD) (mCons (mVar 4) mNil)) (mC k_MAX_NAME)))) (mRaiseI "SyntaxProblem" ["line", "column"] (mCons (mVar 1) (mCons (mOp addD (mVar 2) (mC (.int 1))) mNil))) mNext)
  (mRet (mFrz (mMake "Token" 3 m_Token_init (mCons (mIf (mB (mOp inD (mVar 4) (mC k_KEYWORDS))) (mC (.str "word")) (mC (.str "name"))) (mCons (mVar 4) (mCons (mOp addD (mVar 2) (mC (.int 1))) mNil)))))))) mNext)
  (mSeq (mIfS (mB (mOp inD (mVar 3) (mC k_DIGITS))) (mSeq (mAsg (mSl (mVar 0) (mPart (mVar 2)) (mPart (mCall 3 m_end_of_run (mCons (mVar 0) (mCons (mVar 2) (mCons (mC k_DIGITS) mNil)))))) (gN 4))
  (mSeq (mIfS (mOr (mB (mOp gtD (mCB (one lenD) (mCons (mVar 4) mNil)) (mC k_MAX_DIGITS))) (mAnd (mB (mOp gtD (mCB (one lenD) (mCons (mVar 4) mNil)) (mC (.int 1)))) (mB (mOp eqD (mVar 3) (mC (.str "0")))))) (mRaiseI "SyntaxProblem" ["line", "column"] (mCons (mVar 1) (mCons (mOp addD (mVar 2) (mC (.int 1))) mNil))) mNext)
  (mRet (mFrz (mMake "Token" 3 m_Token_init (mCons (mC (.str "number")) (mCons (mVar 4) (mCons (mOp addD (mVar 2) (mC (.int 1))) mNil)))))))) mNext)
  (mSeq (mIfS (mB (mOp inD (mVar 3) (mC k_SYMBOLS))) (mRet (mFrz (mMake "Token" 3 m_Token_init (mCons (mC (.str "symbol")) (mCons (mVar 3) (mCons (mOp addD (mVar 2) (mC (.int 1))) mNil)))))) mNext)
  (mRaiseI "SyntaxProblem" ["line", "column"] (mCons (mVar 1) (mCons (mOp addD (mVar 2) (mC (.int 1))) mNil)))))))
noncomputable def t_tokens_of_1 : BM := (mB (mOp ltD (mVar 3) (mCB (one lenD) (mCons (mVar 0) mNil))))
noncomputable def b_tokens_of_2 : SM := (mIfS (mB (mOp eqD (mOp ixD (mVar 0) (mVar 3)) (mC (.str " ")))) (mAug 3 iaddD (mC (.int 1))) (mSeq (mAsg (mCall 3 m_token_at (mCons (mVar 0) (mCons (mVar 1) (mCons (mVar 3) mNil)))) (gN 4))
  (mSeq (mIfS (mB (mOp eqD (mCB (one lenD) (mCons (mVar 2) mNil)) (mC k_MAX_TOKENS))) (mRaiseI "SyntaxProblem" ["line", "column"] (mCons (mVar 1) (mCons (mFld cs_column "column" (mVar 4)) mNil))) mNext)
  (mSeq (mDrop (mMet isL appendD (mVar 2) (mCons (mVar 4) mNil)))
  (mAug 3 iaddD (mCB (one lenD) (mCons (mFld cs_spelling "spelling" (mVar 4)) mNil)))))))
noncomputable def m_tokens_of : List D → M D := mFun 5 (mSeq (mAsg (mNew mNil) (gN 2))
  (mSeq (mAsg (mC (.int 0)) (gN 3))
  (mSeq (mWhile t_tokens_of_1 b_tokens_of_2)
  (mRet (mOp addD (mVar 2) (mLst (mCons (mFrz (mMake "Token" 3 m_Token_init (mCons (mC k_END) (mCons (mC (.str "")) (mCons (mOp addD (mCB (one lenD) (mCons (mVar 0) mNil)) (mC (.int 1))) mNil))))) mNil)))))))
noncomputable def m_LineParser_init : List D → M D := mFun 4 (mSeq (mSetF cs_row "row" (mVar 0) (mVar 2))
  (mSeq (mSetF cs_names "names" (mVar 0) (mVar 3))
  (mSeq (mSetF cs_tokens "tokens" (mVar 0) (mCall 2 m_tokens_of (mCons (mVar 1) (mCons (mVar 2) mNil))))
  (mSetF cs_index "index" (mVar 0) (mC (.int 0))))))
noncomputable def e_parse_plan_1 : EM := (mVar 9)
noncomputable def b_parse_plan_2 : SM := (mSeq (mIfS (mB (mOp eqD (mVar 4) (mC k_MAX_ITEMS))) (mRaiseI "SyntaxProblem" ["line", "column"] (mCons (mOp addD (mVar 4) (mC (.int 1))) (mCons (mC (.int 1)) mNil))) mNext)
  (mSeq (mAsg (mMake "LineParser" 3 m_LineParser_init (mCons (mVar 5) (mCons (mOp addD (mVar 4) (mC (.int 1))) (mCons (mLcS fzL [9, 10, 11, 12] (mVar 1) (gTupM 4 (gConsM (gN 9) (gConsM (gN 10) (gConsM (gN 11) (gConsM (gN 12) gNilM))))) mYes e_parse_plan_1) mNil)))) (gN 6))
  (mSeq (mAsg (mMeth "LineParser" "peek" 0 m_LineParser_peek (mVar 6) mNil) (gN 7))
  (mSeq (mAsg (mAndV (mOp neD (mVar 2) (mLst mNil)) (mOp eqD (mOp ixD (mOp ixD (mVar 2) (mUn negD (mC (.int 1)))) (mC (.int 1))) (mTup mNil))) (gN 8))
  (mIfS (mB (mOp neD (mFld cs_kind "kind" (mVar 7)) (mC k_END))) (mIfS (mAnd (mB (mOp eqD (mVar 2) (mLst mNil))) (mB (mMeth "LineParser" "accept" 2 m_LineParser_accept (mVar 6) (mCons (mC (.str "word")) (mCons (mC (.str "line")) mNil))))) (mDrop (mMet isL appendD (mVar 1) (mCons (mMeth "LineParser" "straight_line" 1 m_LineParser_straight_line (mVar 6) (mCons (mVar 1) mNil)) mNil))) (mIfS (mAnd (mNot (mB (mVar 8))) (mAnd (mB (mOp ltD (mCB (one lenD) (mCons (mVar 2) mNil)) (mC k_MAX_RULES))) (mB (mMeth "LineParser" "accept" 2 m_LineParser_accept (mVar 6) (mCons (mC (.str "word")) (mCons (mC (.str "drift")) mNil)))))) (mDrop (mMet isL appendD (mVar 2) (mCons (mMeth "LineParser" "rule" 0 m_LineParser_rule (mVar 6) mNil) mNil))) (mDrop (mMeth "LineParser" "fail" 1 m_LineParser_fail (mVar 6) (mCons (mVar 7) mNil))))) mNext)))))
noncomputable def e_parse_plan_3 : EM := (mOp ixD (mStr1 splitD (mVar 5) (mC (.str "#"))) (mC (.int 0)))
noncomputable def m_parse_plan : List D → M D := mFun 13 (mSeq (mPar 1 2 (mNew mNil) (mNew mNil))
  (mSeq (mAsg (mLc [5] (mIt (mStr1 splitD (mVar 0) (mC (.str "\n")))) (gN 5) mYes e_parse_plan_3) (gN 3))
  (mSeq (mFor (mEnumQ (mVar 3)) (gTupM 2 (gConsM (gN 4) (gConsM (gN 5) gNilM))) b_parse_plan_2)
  (mSeq (mIfS (mOr (mB (mOp eqD (mVar 2) (mLst mNil))) (mB (mOp neD (mOp ixD (mOp ixD (mVar 2) (mUn negD (mC (.int 1)))) (mC (.int 1))) (mTup mNil)))) (mRaiseI "SyntaxProblem" ["line", "column"] (mCons (mOp addD (mCB (one lenD) (mCons (mVar 3) mNil)) (mC (.int 1))) (mCons (mC (.int 1)) mNil))) mNext)
  (mRet (mTup (mCons (mCB (one tupleD) (mCons (mVar 1) mNil)) (mCons (mCB (one tupleD) (mCons (mVar 2) mNil)) mNil))))))))
noncomputable def m_L_blown : List D → M D := mFun 5 (mSeq (mAsg (mC (.int 1000000000000001429)) (gN 2))
  (mSeq (mAsg (mOp modD (mOp addD (mOp addD (mOp mulD (mVar 0) (mC (.int 5281877500950955839))) (mOp mulD (mC (.int 1442695040888963407)) (mVar 1))) (mC (.int 53))) (mVar 2)) (gN 3))
  (mSeq (mFor (mRange1 (mC (.int 4))) (gN 4) (mAsg (mOp modD (mOp addD (mOp addD (mOp addD (mOp mulD (mVar 3) (mVar 3)) (mOp mulD (mC (.int 10)) (mVar 3))) (mOp mulD (mC (.int 401)) (mVar 4))) (mVar 1)) (mVar 2)) (gN 3)))
  (mRet (mOp addD (mOp mulD (mVar 3) (mVar 2)) (mOp modD (mOp addD (mOp mulD (mVar 3) (mC (.int 69069))) (mVar 1)) (mVar 2)))))))
noncomputable def m_L_pull : List D → M D := mFun 6 (mSeq (mIfS (mB (mOp ltD (mOp ixD (mVar 0) (mC (.int 2))) (mVar 1))) (mSeq (mPar 2 3 (mOp ixD (mVar 0) (mC (.int 0))) (mOp ixD (mVar 0) (mC (.int 1))))
  (mSeq (mAsg (mIf (mB (mOp neD (mVar 2) (mLst mNil))) (mOp ixD (mVar 2) (mOp modD (mVar 3) (mCB (one lenD) (mCons (mVar 2) mNil)))) (mC (.int 0))) (gN 4))
  (mSeq (mIfS (mOr (mB (mOp ltD (mVar 4) (mOp powD (mC (.int 10)) (mC (.int 18))))) (mB (mOp geD (mVar 3) (mCB (one lenD) (mCons (mVar 2) mNil))))) (mAsg (mCall 2 m_L_blown (mCons (mOp addD (mOp modD (mVar 4) (mOp powD (mC (.int 10)) (mC (.int 15)))) (mOp fdivD (mVar 3) (mOp addD (mCB (one lenD) (mCons (mVar 2) mNil)) (mC (.int 1))))) (mCons (mVar 3) mNil))) (gN 4)) mNext)
  (mSeq (mAsg (mOp addD (mVar 3) (mC (.int 1))) (gSubM (mVar 0) (mC (.int 1))))
  (mAsg (mVar 4) (gSubM (mVar 0) (mC (.int 2)))))))) mNext)
  (mSeq (mAsg (mOp modD (mOp ixD (mVar 0) (mC (.int 2))) (mVar 1)) (gN 5))
  (mSeq (mAsg (mOp fdivD (mOp ixD (mVar 0) (mC (.int 2))) (mVar 1)) (gSubM (mVar 0) (mC (.int 2))))
  (mRet (mVar 5)))))
noncomputable def m_L_item : List D → M D := mFun 2 (mRet (mOp ixD (mVar 1) (mCall 2 m_L_pull (mCons (mVar 0) (mCons (mCB (one lenD) (mCons (mVar 1) mNil)) mNil)))))
noncomputable def b_L_spaced_1 : SM := (mSeq (mAsg (mAndV (mOp inD (mOp ixD (mVar 6) (mC (.int 0))) (mOp addD (mVar 4) (mVar 5))) (mAndV (mOp neD (mSl (mVar 3) mNoP (mPart (mC (.int 1)))) (mC (.str ""))) (mOp inD (mOp ixD (mVar 3) (mC (.int 0))) (mVar 4)))) (gN 7))
  (mSeq (mAsg (mOrV (mVar 7) (mAndV (mOp inD (mOp ixD (mVar 6) (mC (.int 0))) (mVar 5)) (mAndV (mOp neD (mSl (mVar 3) mNoP (mPart (mC (.int 1)))) (mC (.str ""))) (mOp inD (mOp ixD (mVar 3) (mC (.int 0))) (mVar 5))))) (gN 7))
  (mSeq (mAsg (mOp addD (mOp addD (mVar 2) (mOp mulT (mC (.str " ")) (mCB (two maxD) (mCons (mCB (one intD) (mCons (mVar 7) mNil)) (mCons (mCall 2 m_L_item (mCons (mVar 0) (mCons (mLst (mCons (mC (.int 0)) (mCons (mC (.int 0)) (mCons (mC (.int 1)) (mCons (mC (.int 1)) (mCons (mC (.int 1)) (mCons (mC (.int 3)) mNil))))))) mNil))) mNil))))) (mVar 6)) (gN 2))
  (mAsg (mVar 6) (gN 3)))))
noncomputable def m_L_spaced : List D → M D := mFun 8 (mSeq (mAsg (mTup (mCons (mC (.str "")) (mCons (mC (.str "")) mNil))) (gTupM 2 (gConsM (gN 2) (gConsM (gN 3) gNilM))))
  (mSeq (mAsg (mTup (mCons (mC (.str "abcdefghijklmnopqrstuvwxyz")) (mCons (mC (.str "0123456789")) mNil))) (gTupM 2 (gConsM (gN 4) (gConsM (gN 5) gNilM))))
  (mSeq (mFor (mIt (mVar 1)) (gN 6) b_L_spaced_1)
  (mRet (mOp addD (mVar 2) (mOp mulT (mC (.str " ")) (mCall 2 m_L_pull (mCons (mVar 0) (mCons (mC (.int 2)) mNil)))))))))
noncomputable def b_L_laid_1 : SM := (mDrop (mMet isL appendD (mVar 2) (mCons (mCall 2 m_L_item (mCons (mVar 0) (mCons (mLst (mCons (mC (.str "")) (mCons (mC (.str "  ")) (mCons (mC (.str "# line")) (mCons (mC (.str "# It's 50 OF x!\t")) mNil))))) mNil))) mNil)))
noncomputable def b_L_laid_2 : SM := (mSeq (mFor (mRange1 (mCall 2 m_L_item (mCons (mVar 0) (mCons (mLst (mCons (mC (.int 0)) (mCons (mC (.int 0)) (mCons (mC (.int 0)) (mCons (mC (.int 1)) mNil))))) mNil)))) (gN 4) b_L_laid_1)
  (mSeq (mAsg (mCall 2 m_L_item (mCons (mVar 0) (mCons (mLst (mCons (mC (.str "")) (mCons (mC (.str "")) (mCons (mC (.str "# drift 1 1")) (mCons (mC (.str " ##")) (mCons (mC (.str "# Halve it, [A-Z] 12345 01?")) (mCons (mC (.str "#\t~|@")) mNil))))))) mNil))) (gN 5))
  (mDrop (mMet isL appendD (mVar 2) (mCons (mOp addD (mOp addD (mOp mulT (mC (.str " ")) (mCall 2 m_L_item (mCons (mVar 0) (mCons (mLst (mCons (mC (.int 0)) (mCons (mC (.int 0)) (mCons (mC (.int 2)) mNil)))) mNil)))) (mCall 2 m_L_spaced (mCons (mVar 0) (mCons (mVar 3) mNil)))) (mVar 5)) mNil)))))
noncomputable def m_L_laid : List D → M D := mFun 6 (mSeq (mAsg (mNew mNil) (gN 2))
  (mSeq (mFor (mIt (mVar 1)) (gN 3) b_L_laid_2)
  (mRet (mStr1 joinD (mC (.str "\n")) (mVar 2)))))
noncomputable def b_L_condition_tokens_1 : SM := (mAsg (mOp addD (mVar 1) (mLst (mCons (mC (.str "and")) (mCons (mVar 2) (mCons (mOp ixD (mC (.str "<=>")) (mOp addD (mVar 3) (mC (.int 1)))) mNil))))) (gN 1))
noncomputable def m_L_condition_tokens : List D → M D := mFun 4 (mSeq (mAsg (mLst mNil) (gN 1))
  (mSeq (mFor (mIt (mVar 0)) (gTupM 2 (gConsM (gN 2) (gConsM (gN 3) gNilM))) b_L_condition_tokens_1)
  (mRet (mSl (mVar 1) (mPart (mC (.int 1))) mNoP))))
noncomputable def m_L_number_tokens : List D → M D := mFun 6 (mSeq (mPar 2 3 (mCB (one absD) (mCons (mOp ixD (mVar 1) (mC (.int 0))) mNil)) (mOp ixD (mVar 1) (mC (.int 1))))
  (mSeq (mAsg (mOp addD (mC (.int 1)) (mCall 2 m_L_pull (mCons (mVar 0) (mCons (mCB (two maxD) (mCons (mC (.int 1)) (mCons (mOp fdivD (mC (.int 9999)) (mCB (two maxD) (mCons (mVar 2) (mCons (mVar 3) mNil)))) mNil))) mNil)))) (gN 4))
  (mSeq (mAsg (mCall 2 m_L_item (mCons (mVar 0) (mCons (mLst (mCons (mC (.int 1)) (mCons (mC (.int 1)) (mCons (mVar 4) mNil)))) mNil))) (gN 4))
  (mSeq (mAsg (mLst (mCons (mCB (one strD) (mCons (mOp mulD (mVar 2) (mVar 4)) mNil)) mNil)) (gN 5))
  (mSeq (mIfS (mOr (mB (mOp gtD (mOp mulD (mVar 3) (mVar 4)) (mC (.int 1)))) (mB (mOp eqD (mCall 2 m_L_pull (mCons (mVar 0) (mCons (mC (.int 3)) mNil))) (mC (.int 0))))) (mAsg (mOp addD (mVar 5) (mLst (mCons (mC (.str "/")) (mCons (mCB (one strD) (mCons (mOp mulD (mVar 3) (mVar 4)) mNil)) mNil)))) (gN 5)) mNext)
  (mRet (mOp addD (mIf (mOr (mB (mOp ltD (mOp ixD (mVar 1) (mC (.int 0))) (mC (.int 0)))) (mAnd (mB (mOp eqD (mOp ixD (mVar 1) (mC (.int 0))) (mC (.int 0)))) (mB (mOp eqD (mCall 2 m_L_pull (mCons (mVar 0) (mCons (mC (.int 4)) mNil))) (mC (.int 0)))))) (mLst (mCons (mC (.str "-")) mNil)) (mLst mNil)) (mVar 5))))))))
noncomputable def b_L_plan_lines_1 : SM := (mSeq (mAsg (mOp addD (mOp addD (mLst (mCons (mC (.str "drift")) mNil)) (mCall 2 m_L_number_tokens (mCons (mVar 0) (mCons (mOp ixD (mVar 8) (mC (.int 0))) mNil)))) (mCall 2 m_L_number_tokens (mCons (mVar 0) (mCons (mOp ixD (mVar 8) (mC (.int 1))) mNil)))) (gN 10))
  (mDrop (mMet isL appendD (mVar 2) (mCons (mOp addD (mVar 10) (mIf (mB (mOp neD (mVar 9) (mTup mNil))) (mOp addD (mLst (mCons (mC (.str "where")) mNil)) (mCall 1 m_L_condition_tokens (mCons (mVar 9) mNil))) (mLst mNil))) mNil))))
noncomputable def b_L_plan_lines_2 : SM := (mAsg (mOp addD (mOp ixD (mVar 2) (mUn negD (mC (.int 1)))) (mCall 2 m_L_number_tokens (mCons (mVar 0) (mCons (mVar 7) mNil)))) (gSubM (mVar 2) (mUn negD (mC (.int 1)))))
noncomputable def b_L_plan_lines_3 : SM := (mSeq (mDrop (mMet isL appendD (mVar 2) (mCons (mLst (mCons (mC (.str "line")) (mCons (mVar 3) mNil))) mNil)))
  (mFor (mIt (mTup (mCons (mVar 4) (mCons (mVar 5) (mCons (mVar 6) mNil))))) (gN 7) b_L_plan_lines_2))
noncomputable def m_L_plan_lines : List D → M D := mFun 11 (mSeq (mAsg (mNew mNil) (gN 2))
  (mSeq (mFor (mIt (mOp ixD (mVar 1) (mC (.int 0)))) (gTupM 4 (gConsM (gN 3) (gConsM (gN 4) (gConsM (gN 5) (gConsM (gN 6) gNilM))))) b_L_plan_lines_3)
  (mSeq (mFor (mIt (mOp ixD (mVar 1) (mC (.int 1)))) (gTupM 2 (gConsM (gN 8) (gConsM (gN 9) gNilM))) b_L_plan_lines_1)
  (mRet (mFrz (mVar 2))))))
noncomputable def m_L_low : List D → M D := mFun 4 (mSeq (mPar 2 3 (mCB (one absD) (mCons (mVar 0) mNil)) (mCB (one absD) (mCons (mVar 1) mNil)))
  (mSeq (mWhile (mB (mOp neD (mVar 3) (mC (.int 0)))) (mPar 2 3 (mVar 3) (mOp modD (mVar 2) (mVar 3))))
  (mSeq (mAsg (mIf (mB (mOp gtD (mVar 1) (mC (.int 0)))) (mVar 2) (mOp subD (mC (.int 0)) (mVar 2))) (gN 2))
  (mRet (mTup (mCons (mOp fdivD (mVar 0) (mVar 2)) (mCons (mOp fdivD (mVar 1) (mVar 2)) mNil)))))))
noncomputable def m_L_number : List D → M D := mFun 2 (mSeq (mAsg (mCall 2 m_L_item (mCons (mVar 0) (mCons (mLst (mCons (mC (.int 2)) (mCons (mC (.int 4)) (mCons (mC (.int 4)) (mCons (mC (.int 9)) (mCons (mC (.int 9999)) mNil)))))) mNil))) (gN 1))
  (mRet (mCall 2 m_L_low (mCons (mOp subD (mCall 2 m_L_pull (mCons (mVar 0) (mCons (mOp addD (mOp mulD (mC (.int 2)) (mVar 1)) (mC (.int 1))) mNil))) (mVar 1)) (mCons (mOp addD (mC (.int 1)) (mCall 2 m_L_pull (mCons (mVar 0) (mCons (mCall 2 m_L_item (mCons (mVar 0) (mCons (mLst (mCons (mC (.int 1)) (mCons (mC (.int 1)) (mCons (mC (.int 3)) (mCons (mVar 1) mNil))))) mNil))) mNil)))) mNil)))))
noncomputable def t_L_mixed_1 : BM := (mB (mOp neD (mVar 2) (mLst mNil)))
noncomputable def b_L_mixed_2 : SM := (mDrop (mMet isL appendD (mVar 3) (mCons (mMet isL popD (mVar 2) (mCons (mCall 2 m_L_pull (mCons (mVar 0) (mCons (mCB (one lenD) (mCons (mVar 2) mNil)) mNil))) mNil)) mNil)))
noncomputable def m_L_mixed : List D → M D := mFun 4 (mSeq (mPar 2 3 (mCB (one listN) (mCons (mVar 1) mNil)) (mNew mNil))
  (mSeq (mWhile t_L_mixed_1 b_L_mixed_2)
  (mRet (mFrz (mVar 3)))))
noncomputable def b_L_plan_1 : SM := (mIfS (mB (mOp eqD (mCall 2 m_L_pull (mCons (mVar 0) (mCons (mC (.int 2)) mNil))) (mC (.int 0)))) (mDrop (mMet isL appendD (mVar 5) (mCons (mTup (mCons (mOp ixD (mVar 6) (mC (.int 0))) (mCons (mCall 2 m_L_item (mCons (mVar 0) (mCons (mLst (mCons (mC (.int 1)) (mCons (mOp subD (mC (.int 0)) (mC (.int 1))) mNil))) mNil))) mNil))) mNil))) mNext)
noncomputable def b_L_plan_2 : SM := (mSeq (mAsg (mNew mNil) (gN 5))
  (mSeq (mFor (mIt (mVar 1)) (gN 6) b_L_plan_1)
  (mSeq (mAsg (mTup (mCons (mCall 1 m_L_number (mCons (mVar 0) mNil)) (mCons (mCall 1 m_L_number (mCons (mVar 0) mNil)) mNil))) (gN 7))
  (mIfS (mB (mOp neD (mVar 5) (mLst mNil))) (mDrop (mMet isL appendD (mVar 3) (mCons (mTup (mCons (mVar 7) (mCons (mCB (one tupleD) (mCons (mCall 2 m_L_mixed (mCons (mVar 0) (mCons (mVar 5) mNil))) mNil)) mNil))) mNil))) mNext))))
noncomputable def m_L_plan : List D → M D := mFun 8 (mSeq (mAsg (mNew mNil) (gN 3))
  (mSeq (mFor (mRange1 (mVar 2)) (gN 4) b_L_plan_2)
  (mRet (mTup (mCons (mVar 1) (mCons (mOp addD (mCB (one tupleD) (mCons (mVar 3) mNil)) (mTup (mCons (mTup (mCons (mTup (mCons (mCall 1 m_L_number (mCons (mVar 0) mNil)) (mCons (mCall 1 m_L_number (mCons (mVar 0) mNil)) mNil))) (mCons (mTup mNil) mNil))) mNil))) mNil))))))
noncomputable def e_L_names_1 : EM := (mOp addD (mOp addD (mOp addD (mVar 3) (mOp ixD (mVar 2) (mOp modD (mOp addD (mVar 5) (mOp mulD (mC (.int 5)) (mVar 7))) (mC (.int 26))))) (mVar 4)) (mC (.str "q")))
noncomputable def e_L_names_2 : EM := (mCall 2 m_L_item (mCons (mVar 0) (mCons (mCB (one listT) (mCons (mOp addD (mVar 2) (mC (.str "0123456789"))) mNil)) mNil)))
noncomputable def e_L_names_3 : EM := (mCall 2 m_L_item (mCons (mVar 0) (mCons (mCB (one listT) (mCons (mVar 2) mNil)) mNil)))
noncomputable def m_L_names : List D → M D := mFun 8 (mSeq (mAsg (mC (.str "abcdefghijklmnopqrstuvwxyz")) (gN 2))
  (mSeq (mAsg (mStr1 joinD (mC (.str "")) (mLc [7] (mRange1 (mCall 2 m_L_pull (mCons (mVar 0) (mCons (mC (.int 4)) mNil)))) (gN 7) mYes e_L_names_3)) (gN 3))
  (mSeq (mAsg (mStr1 joinD (mC (.str "")) (mLc [7] (mRange1 (mCall 2 m_L_pull (mCons (mVar 0) (mCons (mC (.int 4)) mNil)))) (gN 7) mYes e_L_names_2)) (gN 4))
  (mSeq (mAsg (mCall 2 m_L_pull (mCons (mVar 0) (mCons (mC (.int 26)) mNil))) (gN 5))
  (mSeq (mAsg (mLst (mCons (mLst (mCons (mC (.str "x")) (mCons (mC (.str "y")) (mCons (mC (.str "x1")) (mCons (mC (.str "x12")) (mCons (mC (.str "z")) (mCons (mC (.str "u")) mNil))))))) (mCons (mLst (mCons (mC (.str "lines")) (mCons (mC (.str "drifted")) (mCons (mC (.str "where1")) (mCons (mC (.str "andy")) (mCons (mC (.str "l")) (mCons (mC (.str "d")) mNil))))))) mNil))) (gN 6))
  (mSeq (mIfS (mB (mOp eqD (mCall 2 m_L_pull (mCons (mVar 0) (mCons (mC (.int 3)) mNil))) (mC (.int 0)))) (mRet (mSl (mCall 2 m_L_item (mCons (mVar 0) (mCons (mVar 6) mNil))) mNoP (mPart (mVar 1)))) mNext)
  (mRet (mLc [7] (mRange1 (mVar 1)) (gN 7) mYes e_L_names_1))))))))
noncomputable def m_L_product : List D → M D := mFun 2 (mRet (mCall 2 m_L_low (mCons (mOp mulD (mOp ixD (mVar 0) (mC (.int 0))) (mOp ixD (mVar 1) (mC (.int 0)))) (mCons (mOp mulD (mOp ixD (mVar 0) (mC (.int 1))) (mOp ixD (mVar 1) (mC (.int 1)))) mNil))))
noncomputable def m_L_same_place : List D → M D := mFun 5 (mSeq (mFor (mIt (mLst (mCons (mTup (mCons (mC (.int 0)) (mCons (mC (.int 1)) mNil))) (mCons (mTup (mCons (mC (.int 0)) (mCons (mC (.int 2)) mNil))) (mCons (mTup (mCons (mC (.int 1)) (mCons (mC (.int 2)) mNil))) mNil))))) (gTupM 2 (gConsM (gN 2) (gConsM (gN 3) gNilM))) (mSeq (mAsg (mCall 2 m_L_product (mCons (mOp ixD (mVar 0) (mVar 2)) (mCons (mOp ixD (mVar 1) (mVar 3)) mNil))) (gN 4))
  (mIfS (mB (mOp neD (mVar 4) (mCall 2 m_L_product (mCons (mOp ixD (mVar 0) (mVar 3)) (mCons (mOp ixD (mVar 1) (mVar 2)) mNil))))) (mRet (mC (.bl false))) mNext)))
  (mRet (mC (.bl true))))
noncomputable def e_L_lines_1 : EM := (mC (.int 1))
noncomputable def t_L_lines_2 : BM := (mB (mCall 2 m_L_same_place (mCons (mVar 8) (mCons (mSl (mVar 10) (mPart (mC (.int 1))) mNoP) mNil))))
noncomputable def e_L_lines_3 : EM := (mCall 1 m_L_number (mCons (mVar 0) mNil))
noncomputable def b_L_lines_4 : SM := (mSeq (mAsg (mLc [9] (mRange1 (mC (.int 3))) (gN 9) mYes e_L_lines_3) (gTupM 3 (gConsM (gN 4) (gConsM (gN 5) (gConsM (gN 6) gNilM)))))
  (mSeq (mAsg (mCall 2 m_L_pull (mCons (mVar 0) (mCons (mC (.int 6)) mNil))) (gN 7))
  (mSeq (mAsg (mIf (mB (mOp eqD (mVar 7) (mC (.int 0)))) (mTup (mCons (mTup (mCons (mC (.int 1)) (mCons (mC (.int 1)) mNil))) (mCons (mTup (mCons (mC (.int 0)) (mCons (mC (.int 1)) mNil))) mNil))) (mIf (mB (mOp eqD (mVar 7) (mC (.int 1)))) (mTup (mCons (mTup (mCons (mC (.int 0)) (mCons (mC (.int 1)) mNil))) (mCons (mTup (mCons (mC (.int 1)) (mCons (mC (.int 1)) mNil))) mNil))) (mTup (mCons (mVar 4) (mCons (mVar 5) mNil))))) (gTupM 2 (gConsM (gN 4) (gConsM (gN 5) gNilM))))
  (mSeq (mAsg (mIf (mB (mOp eqD (mCall 2 m_L_pull (mCons (mVar 0) (mCons (mC (.int 2)) mNil))) (mC (.int 0)))) (mTup (mCons (mC (.int 0)) (mCons (mC (.int 1)) mNil))) (mVar 6)) (gN 6))
  (mSeq (mAsg (mTup (mCons (mVar 4) (mCons (mVar 5) (mCons (mVar 6) mNil)))) (gN 8))
  (mIfS (mAnd (mB (mOp neD (mTup (mCons (mVar 4) (mCons (mVar 5) mNil))) (mTup (mCons (mTup (mCons (mC (.int 0)) (mCons (mC (.int 1)) mNil))) (mCons (mTup (mCons (mC (.int 0)) (mCons (mC (.int 1)) mNil))) mNil))))) (mB (mOp eqD (mLcS fzL [10] (mVar 2) (gN 10) t_L_lines_2 e_L_lines_1) (mLst mNil)))) (mDrop (mMet isL appendD (mVar 2) (mCons (mOp addD (mTup (mCons (mVar 3) mNil)) (mVar 8)) mNil))) mNext))))))
noncomputable def m_L_lines : List D → M D := mFun 11 (mSeq (mAsg (mNew mNil) (gN 2))
  (mSeq (mFor (mIt (mCall 2 m_L_names (mCons (mVar 0) (mCons (mVar 1) mNil)))) (gN 3) b_L_lines_4)
  (mRet (mCB (one tupleD) (mCons (mVar 2) mNil)))))
noncomputable def m_L_urn : List D → M D := mFun 4 (mSeq (mAsg (mLcN [3] (mIt (mSl (mVar 0) mNoP (mPart (mC (.int 13))))) (gN 3) mYes (mCB (one absD) (mCons (mVar 3) mNil))) (gN 1))
  (mSeq (mFor (mEnum (mSl (mVar 0) (mPart (mC (.int 13))) (mPart (mC (.int 60))))) (gTupM 2 (gConsM (gN 2) (gConsM (gN 3) gNilM))) (mAsg (mOp addD (mOp ixD (mVar 1) (mOp modD (mVar 2) (mC (.int 13)))) (mCB (one absD) (mCons (mVar 3) mNil))) (gSubM (mVar 1) (mOp modD (mVar 2) (mC (.int 13))))))
  (mRet (mNew (mCons (mFrz (mVar 1)) (mCons (mC (.int 0)) (mCons (mC (.int 0)) mNil)))))))
noncomputable def b_law_1 : SM := (mSeq (mAsg (mCall 2 m_L_lines (mCons (mVar 1) (mCons (mCall 2 m_L_pull (mCons (mVar 1) (mCons (mC (.int 7)) mNil))) mNil))) (gN 3))
  (mSeq (mAsg (mCall 3 m_L_plan (mCons (mVar 1) (mCons (mVar 3) (mCons (mCall 2 m_L_pull (mCons (mVar 1) (mCons (mC (.int 12)) mNil))) mNil)))) (gN 4))
  (mSeq (mAsg (mCall 2 m_L_laid (mCons (mVar 1) (mCons (mCall 2 m_L_plan_lines (mCons (mVar 1) (mCons (mVar 4) mNil))) mNil))) (gN 5))
  (mSeq (mIfS (mNot (mB (mCall 2 m_L_twin (mCons (mCall 1 m_parse_plan (mCons (mVar 5) mNil)) (mCons (mVar 4) mNil))))) (mRet (mC (.bl false))) mNext)
  (mSeq (mAsg (mOp subD (mC (.int 9900)) (mCB (one lenD) (mCons (mVar 5) mNil))) (gN 6))
  (mSeq (mAsg (mCall 2 m_L_item (mCons (mVar 1) (mCons (mLst (mCons (mOp mulT (mC (.str " ")) (mVar 6)) (mCons (mOp addD (mC (.str "#")) (mOp mulT (mC (.str "x")) (mVar 6))) (mCons (mC (.str "# $ & ( ) * + . / ; < > ^ _ { }")) (mCons (mOp mulT (mC (.str "# and x 1")) (mC (.int 70))) mNil))))) mNil))) (gN 7))
  (mIfS (mNot (mB (mCall 2 m_L_twin (mCons (mCall 1 m_parse_plan (mCons (mOp addD (mVar 5) (mVar 7)) mNil)) (mCons (mVar 4) mNil))))) (mRet (mC (.bl false))) mNext)))))))
noncomputable def m_law : List D → M D := mFun 8 (mSeq (mAsg (mCall 1 m_L_urn (mCons (mVar 0) mNil)) (gN 1))
  (mSeq (mFor (mRange1 (mC (.int 6))) (gN 2) b_law_1)
  (mRet (mC (.bl true)))))
end DL

/-! Plain laws: texts as lists of signs; steps of texts, fields, instances. -/
namespace DL
open PySem PySem.Spec PyProof.Rows L2 TL
/-- the text of some signs -/
def sk (l : List Nat) : Str := ⟨l.toArray⟩
@[simp] theorem tl_sk (l : List Nat) : tl (sk l) = l := rfl
theorem sk_tl (x : Str) : sk (tl x) = x := mk_tl x
theorem sk_inj {a b : List Nat} (h : sk a = sk b) : a = b := by
  have := congrArg tl h
  simpa using this
@[simp] theorem len_sk (l : List Nat) : (sk l).length = l.length := by rw [len_tl, tl_sk]
theorem sk_append (a b : List Nat) : sk a ++ sk b = sk (a ++ b) := ext_tl (by rw [tl_append, tl_sk, tl_sk, tl_sk])
theorem sk_beq (a b : List Nat) : (sk a == sk b) = decide (a = b) := by
  by_cases h : a = b
  · subst h; simp
  · rw [decide_eq_false h, beq_eq_false_iff_ne]
    exact fun z => h (sk_inj z)
theorem beq_sk (x : Str) (b : List Nat) : (x == sk b) = decide (tl x = b) := by
  rw [← sk_tl x, sk_beq, tl_sk]
section
variable (ρ : Env) (S : Store)
theorem ix_str {l : List Nat} {i c : Nat} (h : l[i]? = some c) (hl : l.length ≤ sizeLine) : ixD (.str (sk l)) (.int (i : Nat)) S = .ok (.str (sk [c])) S := by
  have e : atI (sk l).cps.toList (i : Int) = some c := by rw [atI_nat]; exact h
  have hl' : (sk l).length ≤ sizeLine := by rw [len_sk]; exact hl
  simp only [ixD, seqOf, lstOf, e, if_pos hl']
  rfl
theorem in_str (c : Nat) (y : Str) : inD (.str (sk [c])) (.str y) S = .ok (.bl (decide (c ∈ tl y))) S := rfl
theorem in_str' (c : Nat) (l : List Nat) : inD (.str (sk [c])) (.str (sk l)) S = .ok (.bl (decide (c ∈ l))) S := rfl
theorem len_str {l : List Nat} (hl : l.length ≤ sizeLine) : lenD (.str (sk l)) S = .ok (.int l.length) S := by
  have hl' : (sk l).length ≤ sizeLine := by rw [len_sk]; exact hl
  simp only [lenD, seqOf, lstOf]
  rw [if_pos hl', len_sk]
theorem sl_str {l : List Nat} {i j : Nat} (hl : l.length ≤ sizeLine) (hi : i ≤ j) (hj : j ≤ l.length) : slD (.str (sk l)) (some (i : Int)) (some (j : Int)) S = .ok (.str (sk ((l.drop i).take (j - i)))) S := by
  have hl' : (sk l).length ≤ sizeLine := by rw [len_sk]; exact hl
  simp only [slD]
  rw [if_pos hl']
  simp only [cutS, len_sk, HT.sIx_nat]
  rw [Nat.min_eq_left (by omega), Nat.min_eq_left (by omega)]
  rfl
theorem sl_to {l : List Nat} {j : Nat} (hl : l.length ≤ sizeLine) : slD (.str (sk l)) none (some (j : Int)) S = .ok (.str (sk (l.take j))) S := by
  have hl' : (sk l).length ≤ sizeLine := by rw [len_sk]; exact hl
  have e : (l.drop 0).take (min j l.length - 0) = l.take j := by
    rw [List.drop_zero, Nat.sub_zero]
    apply List.ext_getElem?
    intro k
    simp only [List.getElem?_take]
    by_cases h1 : k < j
    · by_cases h2 : k < l.length
      · rw [if_pos (by omega), if_pos h1]
      · rw [if_neg (by omega), if_pos h1, List.getElem?_eq_none (by omega)]
    · rw [if_neg (by omega), if_neg h1]
  simp only [slD]
  rw [if_pos hl']
  simp only [cutS, len_sk, HT.sIx_nat, HT.sIx_none]
  rw [← e]
  rfl
theorem add_str {a b : List Nat} (h : a.length + b.length ≤ sizeLine) : addD (.str (sk a)) (.str (sk b)) S = .ok (.str (sk (a ++ b))) S := by
  simp only [addD, len_sk]
  rw [if_pos h, sk_append]
@[simp] theorem x_fld (cs : List Str) (f : Str) (fe : EM) : mFld cs f fe ρ S = (fe ρ S).bind (fldD cs f) := rfl
@[simp] theorem x_setF (cs : List Str) (f : Str) (fo fv : EM) : mSetF cs f fo fv ρ S = ((fv ρ S).bind fun y S => (fo ρ S).bind fun o S => match setF cs f o y S with
  | some S => R.ok D.non S
  | none => .stuck).to ρ fun _ S => .go .nx ρ S := rfl
@[simp] theorem x_augF (cs : List Str) (f : Str) (m : D → D → M D) (fo fv : EM) : mAugF cs f m fo fv ρ S = ((fo ρ S).bind fun o S => match insAt o S with
  | some (c, ns, ds) => if c ∈ cs then (match getF f ns ds with
    | some x => (fv ρ S).bind fun y S => (m x y S).bind fun z S => match setF [c] f o z S with
      | some S => R.ok D.non S
      | none => .stuck
    | none => .stuck) else .stuck
  | none => .stuck).to ρ fun _ S => .go .nx ρ S := rfl
@[simp] theorem x_meth (c m : Str) (n : Nat) (md : List D → M D) (fo : EM) (fa : AM) : mMeth c m n md fo fa ρ S = (fo ρ S).bind fun x S => match insOf x S with
  | some (c', ns) => if c' = c ∧ ns.contains m = false then (fa ρ S).bind fun ds S => if ds.length = n then md (x :: ds) S else .stuck else .stuck
  | none => .stuck := rfl
@[simp] theorem x_make (c : Str) (n : Nat) (md : List D → M D) (fa : AM) : mMake c n md fa ρ S = (fa ρ S).bind fun ds S => if ds.length = n then (md (.ref S.length :: ds) (S ++ [.ins c [] []])).bind fun d S' => match d with
  | .non => .ok (.ref S.length) S'
  | _ => .stuck else .stuck := rfl
@[simp] theorem x_raiseI (c : Str) (fs : List Str) (fa : AM) : mRaiseI c fs fa ρ S = (fa ρ S).to ρ fun ds S => match excI c fs ds S with
  | .ok d S => .go (.ex d) ρ S
  | _ => .stuck := rfl
@[simp] theorem x_str1 (m : D → D → M D) (fo fe : EM) : mStr1 m fo fe ρ S = (fo ρ S).bind fun x S => if isS x then (fe ρ S).bind fun y S => m x y S else .stuck := rfl
@[simp] theorem x_iadd (i j : Int) : iaddD (.int i) (.int j) S = .ok (.int (i + j)) S := rfl
@[simp] theorem x_isub (i j : Int) : isubD (.int i) (.int j) S = .ok (.int (i - j)) S := rfl
@[simp] theorem isS_str (x : Str) : isS (.str x) = true := rfl
end
/-- the store has grown; what stood at the places that are not in us stands -/
structure Kp (us : List Nat) (S S' : Store) : Prop where
  len : S.length ≤ S'.length
  at_ : ∀ n, n < S.length → n ∉ us → S'[n]? = S[n]?
theorem Kp.refl (us : List Nat) (S : Store) : Kp us S S := ⟨Nat.le_refl _, fun _ _ _ => rfl⟩
theorem Kp.trans {us : List Nat} {S S1 S2 : Store} (h : Kp us S S1) (k : Kp us S1 S2) : Kp us S S2 := ⟨Nat.le_trans h.len k.len, fun n hn hu => (k.at_ n (Nat.lt_of_lt_of_le hn h.len) hu).trans (h.at_ n hn hu)⟩
theorem Kp.mono {us vs : List Nat} {S S' : Store} (h : Kp us S S') (hs : ∀ u ∈ us, u ∈ vs ∨ S.length ≤ u) : Kp vs S S' := ⟨h.len, fun n hn hu => h.at_ n hn fun z => by
  rcases hs n z with q | q
  · exact hu q
  · omega⟩
/-- places that were not there may change -/
theorem Kp.then {us vs : List Nat} {S S1 S2 : Store} (h : Kp us S S1) (k : Kp vs S1 S2) (hs : ∀ v ∈ vs, v ∈ us ∨ S.length ≤ v) : Kp us S S2 := ⟨Nat.le_trans h.len k.len, fun n hn hu => by
  rw [k.at_ n (Nat.lt_of_lt_of_le hn h.len) fun z => by
    rcases hs n z with q | q
    · exact hu q
    · omega]
  exact h.at_ n hn hu⟩
theorem Kp.app (us : List Nat) (S X : Store) : Kp us S (S ++ X) := ⟨by simp, fun n hn _ => List.getElem?_append_left hn⟩
theorem Kp.set {us : List Nat} {u : Nat} (S : Store) (o : Ob) (h : u ∈ us) : Kp us S (S.set u o) := ⟨by simp, fun n hn hu => by have hne : u ≠ n := fun z => by { subst z; exact hu h }; exact List.getElem?_set_ne hne⟩
theorem Kp.get {us : List Nat} {S S' : Store} {n : Nat} {o : Ob} (h : Kp us S S') (e : S[n]? = some o) (hn : n ∉ us) : S'[n]? = some o := by
  rw [h.at_ n (List.getElem?_eq_some_iff.mp e).1 hn, e]
theorem last_get (S : Store) (o : Ob) : (S ++ [o])[S.length]? = some o := by simp
theorem last_set (S : Store) (o o' : Ob) : (S ++ [o]).set S.length o' = S ++ [o'] := by
  rw [List.set_append_right _ _ (Nat.le_refl _)]
  simp
end DL

/-! Plain laws: equal fractions; comprehensions over lists that stand. -/
namespace DL
open PySem PySem.Spec PyProof.Rows L2 TL
theorem fr_inj {q r : Rat} (h : fr q = fr r) : q = r := by
  unfold fr at h
  simp only [D.tup.injEq, List.cons.injEq, D.int.injEq, and_true] at h
  exact Rat.ext h.1 (by omega)
theorem eq_fr (q r : Rat) : eqB (fr q) (fr r) = decide (q = r) := by
  by_cases h : q = r
  · subst h
    simp [fr, eqB, eqBs]
  · rw [decide_eq_false h]
    have : ¬ (q.num = r.num ∧ q.den = r.den) := fun z => h (Rat.ext z.1 z.2)
    simp [fr, eqB, eqBs]
    intro a b
    exact this ⟨a, by omega⟩
theorem plain_fr (n : Nat) (q : Rat) : plain (n + 1) (fr q) = true := by simp [fr, plain, plains]
@[simp] theorem x_eqFr (q r : Rat) (S : Store) : eqD (fr q) (fr r) S = .ok (.bl (decide (q = r))) S := by
  unfold eqD
  have h1 : derD (fr q) S = fr q := rfl
  have h2 : derD (fr r) S = fr r := rfl
  simp only [fr] at h1 h2 ⊢
  simp only [h1, h2]
  have := eq_fr q r
  simp only [fr] at this
  simp [plain, plains, this]
@[simp] theorem x_neFr (q r : Rat) (S : Store) : neD (fr q) (fr r) S = .ok (.bl (!decide (q = r))) S := by
  unfold neD
  have h1 : derD (fr q) S = fr q := rfl
  have h2 : derD (fr r) S = fr r := rfl
  simp only [fr] at h1 h2 ⊢
  simp only [h1, h2]
  have := eq_fr q r
  simp only [fr] at this
  simp [plain, plains, this]
theorem eq_fr2 (q r x y : Rat) : eqB (.tup [fr q, fr r]) (.tup [fr x, fr y]) = (decide (q = x) && decide (r = y)) := by
  rw [eqB, eqBs, eqBs, eqBs, eq_fr, eq_fr, Bool.and_true]
@[simp] theorem x_neFr2 (q r x y : Rat) (S : Store) : neD (.tup [fr q, fr r]) (.tup [fr x, fr y]) S = .ok (.bl (!(decide (q = x) && decide (r = y)))) S := by
  unfold neD
  have := eq_fr2 q r x y
  simp [this, plain, plains, plain_fr]
theorem lcs_map {p : Nat} {all : List D} {gm : GM} {te : EM} {ρ : Env} {S : Store} {f : D → D} (hS : S[p]? = some (.lst all)) : ∀ ds : List D, (∀ d ∈ ds, ∃ ρ', gm d ρ S = some (ρ', S) ∧ te ρ' S = .ok (f d) S) → mLcLS p all gm mYes te ρ ds S = .ok (ds.map f) S
  | [], _ => by simp [mLcLS, hS]
  | d :: ds, h => by
    obtain ⟨ρ', e1, e2⟩ := h d List.mem_cons_self
    have ih := lcs_map (f := f) hS ds fun z hz => h z (List.mem_cons_of_mem _ hz)
    simp [mLcLS, hS, e1, e2, ih]
theorem s_lcs {p i : Nat} {all : List D} {vs : List Nat} {gm : GM} {te : EM} {ρ : Env} {S : Store} {f : D → D} (hi : ρ[i]? = some (some (.ref p))) (hS : S[p]? = some (.lst all)) (hl : all.length ≤ sizeLine) (h : ∀ d ∈ all, ∃ ρ', gm d (wipeD ρ vs) S = some (ρ', S) ∧ te ρ' S = .ok (f d) S) :
    mLcS fzL vs (mVar i) gm mYes te ρ S = .ok (.lst (all.map f)) S := by
  have := lcs_map (f := f) hS all h
  simp [mLcS, hi, placeD, hS, hl, this, fzL]
end DL

/-! Plain laws: the parser, by plain functions. -/
namespace DL
open PySem PySem.Spec PyProof.Rows L2 TL
inductive K where
  | word | name | num | sym | fin
  deriving DecidableEq
def ks : K → Str
  | .word => "word"
  | .name => "name"
  | .num => "number"
  | .sym => "symbol"
  | .fin => "end of line"
theorem ks_beq (a b : K) : (ks a == ks b) = decide (a = b) := by
  cases a <;> cases b <;> decide +kernel
structure Tk where
  kind : K
  sp : List Nat
  col : Nat
def isSm (c : Nat) : Bool := decide (97 ≤ c ∧ c ≤ 122)
def isDg (c : Nat) : Bool := decide (48 ≤ c ∧ c ≤ 57)
def isW (c : Nat) : Bool := isSm c || isDg c
def wLine : List Nat := [108, 105, 110, 101]
def wDrift : List Nat := [100, 114, 105, 102, 116]
def wWhere : List Nat := [119, 104, 101, 114, 101]
def wAnd : List Nat := [97, 110, 100]
def kws : List (List Nat) := [wLine, wDrift, wWhere, wAnd]
def syms : List Nat := [60, 62, 61, 45, 47]
/-- the token at the head of c :: r, at column k -/
def tokAt (c : Nat) (r : List Nat) (k : Nat) : Except Nat Tk :=
  if isSm c = true then
    if (c :: r).takeWhile isW ∉ kws ∧ 8 < ((c :: r).takeWhile isW).length then .error k else .ok ⟨if (c :: r).takeWhile isW ∈ kws then .word else .name, (c :: r).takeWhile isW, k⟩
  else if isDg c = true then
    if 4 < ((c :: r).takeWhile isDg).length ∨ (1 < ((c :: r).takeWhile isDg).length ∧ c = 48) then .error k else .ok ⟨.num, (c :: r).takeWhile isDg, k⟩
  else if c ∈ syms then .ok ⟨.sym, [c], k⟩ else .error k
/-- the tokens of l; k: the column of its head; n: how many there are already -/
def toksP : Nat → List Nat → Nat → Nat → Except Nat (List Tk)
  | 0, _, k, _ => .ok [⟨.fin, [], k⟩]
  | _ + 1, [], k, _ => .ok [⟨.fin, [], k⟩]
  | f + 1, c :: r, k, n => if c = 32 then toksP f r (k + 1) n else match tokAt c r k with
    | .error e => .error e
    | .ok t => if n = 60 then .error t.col else match toksP f ((c :: r).drop t.sp.length) (k + t.sp.length) (n + 1) with
      | .error e => .error e
      | .ok ts => .ok (t :: ts)
/-- what a token is made of -/
structure TkOk (t : Tk) : Prop where
  sm : ∀ c ∈ t.sp, c < 128
  num : t.kind = .num → t.sp ≠ [] ∧ t.sp.length ≤ 4 ∧ NumText.AllDigits t.sp
  len : t.sp.length ≤ 8
  col : t.col < 2 ^ 40
/-- the tokens of a line: an end behind the others -/
structure Toks (ts : List Tk) : Prop where
  ex : ∃ ts0 c, ts = ts0 ++ [⟨.fin, [], c⟩] ∧ c < 2 ^ 40 ∧ ∀ t ∈ ts0, t.kind ≠ .fin ∧ TkOk t
  len : ts.length ≤ 61
def tokD (t : Tk) : D := .obj "Token" ["kind", "spelling", "column"] [.str (ks t.kind), .str (sk t.sp), .int t.col]
def endT : Tk := ⟨.fin, [], 0⟩
def tkn (ts : List Tk) (i : Nat) : Tk := ts.getD i endT
/-- how a place in the tokens goes on -/
def accP (ts : List Tk) (k : K) (s : List Nat) (i : Nat) : Bool × Nat := if (tkn ts i).kind = k ∧ (tkn ts i).sp = s then (true, i + 1) else (false, i)
def takeP (ts : List Tk) (k : K) (i : Nat) : Except Nat (Tk × Nat) := if (tkn ts i).kind = k then .ok (tkn ts i, i + 1) else .error (tkn ts i).col
def valT (t : Tk) : Nat := NumText.digitsVal t.sp
/-- a number: its sign, what is above, what is below -/
def sfP (ts : List Tk) (i : Nat) : Except Nat (Rat × Nat) :=
  match takeP ts .num (accP ts .sym [45] i).2 with
  | .error e => .error e
  | .ok (t, j) => if (accP ts .sym [47] j).1 = true then (match takeP ts .num (j + 1) with
      | .error e => .error e
      | .ok (u, k) => if valT u = 0 then .error u.col else .ok (Rat.divInt (if (accP ts .sym [45] i).1 = true then -(valT t : Int) else valT t) (valT u), k))
    else .ok (Rat.divInt (if (accP ts .sym [45] i).1 = true then -(valT t : Int) else valT t) 1, j)
structure Ln where
  nm : Str
  a : Rat
  b : Rat
  c : Rat
def Ln.d (l : Ln) : D := .tup [.str l.nm, fr l.a, fr l.b, fr l.c]
structure Rl where
  p : Rat
  q : Rat
  cs : List (Str × Int)
def cnd (c : Str × Int) : D := .tup [.str c.1, .int c.2]
def Rl.d (r : Rl) : D := .tup [.tup [fr r.p, fr r.q], .tup (r.cs.map cnd)]
def planD (ls : List Ln) (rs : List Rl) : D := .tup [.tup (ls.map Ln.d), .tup (rs.map Rl.d)]
def sameP (a b c : Rat) (l : Ln) : Bool := decide (a * l.b = b * l.a) && decide (a * l.c = c * l.a) && decide (b * l.c = c * l.b)
/-- the rest of a line item -/
def lineP (ts : List Tk) (ns : List Str) (ls : List Ln) (i : Nat) : Except Nat (Ln × Nat) :=
  match takeP ts .name i with
  | .error e => .error e
  | .ok (t, i1) => if sk t.sp ∈ ns ∨ ls.length = 6 then .error t.col else match sfP ts i1 with
    | .error e => .error e
    | .ok (a, i2) => match sfP ts i2 with
      | .error e => .error e
      | .ok (b, i3) => if a = 0 ∧ b = 0 then .error (tkn ts i2).col else match sfP ts i3 with
        | .error e => .error e
        | .ok (c, i4) => if ls.any (sameP a b c) = true then .error (tkn ts i3).col else match takeP ts .fin i4 with
          | .error e => .error e
          | .ok (_, i5) => .ok (⟨sk t.sp, a, b, c⟩, i5)
/-- conditions up to the end; sg: the signs that may stand behind a name -/
def condsP (ts : List Tk) (ns : List Str) (sg : List (List Nat × Int)) : Nat → List (Str × Int) → Nat → Except Nat (List (Str × Int) × Nat)
  | 0, _, _ => .error 0
  | f + 1, acc, i => match takeP ts .name i with
    | .error e => .error e
    | .ok (t, i1) => if sk t.sp ∉ ns ∨ sk t.sp ∈ acc.map (·.1) then .error t.col else match takeP ts .sym i1 with
      | .error e => .error e
      | .ok (u, i2) => match sg.lookup u.sp with
        | none => .error u.col
        | some v => if (accP ts .word wAnd i2).1 = true then condsP ts ns sg f (acc ++ [(sk t.sp, v)]) (i2 + 1) else match takeP ts .fin i2 with
          | .error e => .error e
          | .ok (_, i3) => .ok (acc ++ [(sk t.sp, v)], i3)
def sg2 : List (List Nat × Int) := [([60], -1), ([62], 1)]
/-- the rest of a drift item -/
def ruleP (ts : List Tk) (ns : List Str) (i : Nat) : Except Nat (Rl × Nat) :=
  match sfP ts i with
  | .error e => .error e
  | .ok (p, i1) => match sfP ts i1 with
    | .error e => .error e
    | .ok (q, i2) => if (accP ts .word wWhere i2).1 = true then (match condsP ts ns sg2 61 [] (i2 + 1) with
        | .error e => .error e
        | .ok (cs, i3) => .ok (⟨p, q, cs⟩, i3))
      else match takeP ts .fin i2 with
        | .error e => .error e
        | .ok (_, i3) => .ok (⟨p, q, []⟩, i3)
def endedP (rs : List Rl) : Bool := match rs.getLast? with
  | some r => r.cs.isEmpty
  | none => false
/-- one line of a plan, without its comment -/
def itemP (l : List Nat) (ls : List Ln) (rs : List Rl) : Except Nat (List Ln × List Rl) :=
  match toksP (l.length + 1) l 1 0 with
  | .error e => .error e
  | .ok ts => if (tkn ts 0).kind = .fin then .ok (ls, rs) else
    if rs = [] ∧ (accP ts .word wLine 0).1 = true then (match lineP ts (ls.map (·.nm)) ls 1 with
      | .error e => .error e
      | .ok (x, _) => .ok (ls ++ [x], rs))
    else if (endedP rs = false ∧ rs.length < 12) ∧ (accP ts .word wDrift 0).1 = true then (match ruleP ts (ls.map (·.nm)) 1 with
      | .error e => .error e
      | .ok (x, _) => .ok (ls, rs ++ [x]))
    else .error (tkn ts 0).col
/-- the lines of a plan from line n on -/
def itemsP : List (List Nat) → Nat → List Ln → List Rl → Except (Nat × Nat) (List Ln × List Rl)
  | [], n, ls, rs => if endedP rs = true then .ok (ls, rs) else .error (n + 1, 1)
  | l :: rest, n, ls, rs => if n = 40 then .error (n + 1, 1) else match itemP l ls rs with
    | .error e => .error (n + 1, e)
    | .ok (ls', rs') => itemsP rest (n + 1) ls' rs'
/-- what stands ahead of a comment -/
def headP (l : List Nat) : List Nat := l.takeWhile fun c => c != 35
def planP (z : Str) : Except (Nat × Nat) (List Ln × List Rl) := itemsP ((Txt.split z (sk [10])).map fun x => headP (tl x)) 0 [] []
end DL

/-! Plain laws: what texts the plain parser reads. -/
namespace DL
open PySem PySem.Spec PyProof.Rows L2 TL
/-- a token as it is written -/
inductive TV : List Nat → K → Prop where
  | word {c : Nat} {r : List Nat} (h1 : isSm c = true) (h2 : ∀ d ∈ c :: r, isW d = true) (h3 : (c :: r) ∈ kws) : TV (c :: r) .word
  | name {c : Nat} {r : List Nat} (h1 : isSm c = true) (h2 : ∀ d ∈ c :: r, isW d = true) (h3 : (c :: r) ∉ kws) (h4 : (c :: r).length ≤ 8) : TV (c :: r) .name
  | num {w : List Nat} (h1 : w ≠ []) (h2 : ∀ d ∈ w, isDg d = true) (h3 : w.length ≤ 4) (h4 : w.length ≤ 1 ∨ ∀ r, w ≠ 48 :: r) : TV w .num
  | sym {c : Nat} (h : c ∈ syms) : TV [c] .sym
/-- what stands behind a token does not go on with it -/
def sepOk (k : K) (r : List Nat) : Prop := ∀ c r', r = c :: r' → match k with
  | .word => isW c = false
  | .name => isW c = false
  | .num => isDg c = false
  | _ => True
/-- tokens with spaces ahead of each and behind the last -/
inductive Sp : List (List Nat × K) → List Nat → Prop where
  | nil (n : Nat) : Sp [] (List.replicate n 32)
  | cons (n : Nat) {w : List Nat} {k : K} {ts : List (List Nat × K)} {r : List Nat} (h : TV w k) (t : Sp ts r) (s : sepOk k r) : Sp ((w, k) :: ts) (List.replicate n 32 ++ (w ++ r))
theorem tw_all {p : Nat → Bool} : ∀ {w r : List Nat}, (∀ d ∈ w, p d = true) → (∀ c r', r = c :: r' → p c = false) → (w ++ r).takeWhile p = w
  | [], r, _, h => by
    cases r with
    | nil => rfl
    | cons c r' => rw [List.nil_append, List.takeWhile_cons, if_neg (by rw [h c r' rfl]; simp)]
  | d :: w, r, h1, h2 => by
    rw [List.cons_append, List.takeWhile_cons, if_pos (h1 d List.mem_cons_self), tw_all (fun e he => h1 e (List.mem_cons_of_mem _ he)) h2]
theorem syms_no : ∀ c ∈ syms, isSm c = false ∧ isDg c = false ∧ c ≠ 32 := by decide
theorem sm_no {c : Nat} (h : isSm c = true) : isDg c = false ∧ c ≠ 32 := by
  unfold isSm at h
  unfold isDg
  simp at h ⊢
  omega
theorem dg_no {c : Nat} (h : isDg c = true) : isSm c = false ∧ c ≠ 32 := by
  unfold isDg at h
  unfold isSm
  simp at h ⊢
  omega
theorem tv_tok {w : List Nat} {k : K} {r : List Nat} (h : TV w k) (s : sepOk k r) (col : Nat) : ∃ c w', w = c :: w' ∧ c ≠ 32 ∧ tokAt c (w' ++ r) col = .ok ⟨k, w, col⟩ := by
  cases h with
  | @word c r' h1 h2 h3 =>
    have e : (c :: (r' ++ r)).takeWhile isW = c :: r' := tw_all (w := c :: r') h2 s
    refine ⟨c, r', rfl, (sm_no h1).2, ?_⟩
    unfold tokAt
    rw [if_pos h1, e, if_neg (fun z => z.1 h3), if_pos h3]
  | @name c r' h1 h2 h3 h4 =>
    have e : (c :: (r' ++ r)).takeWhile isW = c :: r' := tw_all (w := c :: r') h2 s
    refine ⟨c, r', rfl, (sm_no h1).2, ?_⟩
    unfold tokAt
    rw [if_pos h1, e, if_neg (fun z => by have := z.2; omega), if_neg h3]
  | num h1 h2 h3 h4 =>
    cases w with
    | nil => exact absurd rfl h1
    | cons c r' =>
      have e : (c :: (r' ++ r)).takeWhile isDg = c :: r' := tw_all (w := c :: r') h2 s
      have hc := dg_no (h2 c List.mem_cons_self)
      refine ⟨c, r', rfl, hc.2, ?_⟩
      unfold tokAt
      rw [if_neg (by rw [hc.1]; simp), if_pos (h2 c List.mem_cons_self), e, if_neg]
      rintro (z | ⟨z1, z2⟩)
      · omega
      · rcases h4 with h4 | h4
        · omega
        · exact h4 r' (by rw [z2])
  | @sym c h =>
    have hc := syms_no c h
    refine ⟨c, [], rfl, hc.2.2, ?_⟩
    unfold tokAt
    rw [if_neg (by rw [hc.1]; simp), if_neg (by rw [hc.2.1]; simp), if_pos h]
theorem toks_skip (f : Nat) (l : List Nat) (n : Nat) : ∀ (m k : Nat), toksP (f + m) (List.replicate m 32 ++ l) k n = toksP f l (k + m) n
  | 0, k => rfl
  | m + 1, k => by
    have ih := toks_skip f l n m (k + 1)
    rw [show f + (m + 1) = (f + m) + 1 by omega, List.replicate_succ, List.cons_append]
    show (if (32 : Nat) = 32 then toksP (f + m) (List.replicate m 32 ++ l) (k + 1) n else _) = _
    rw [if_pos rfl, ih, show k + 1 + m = k + (m + 1) by omega]
theorem toks_sp {tks : List (List Nat × K)} {l : List Nat} (h : Sp tks l) : ∀ (f k n : Nat), l.length < f → n + tks.length ≤ 60 → ∃ ts, toksP f l k n = .ok ts ∧ ts.map (fun t => (t.sp, t.kind)) = tks ++ [([], K.fin)] := by
  induction h with
  | nil m =>
    intro f k n hf hn
    obtain ⟨g, rfl⟩ : ∃ g, f = (g + 1) + m := ⟨f - m - 1, by simp at hf; omega⟩
    have := toks_skip (g + 1) [] n m k
    rw [List.append_nil] at this
    rw [this]
    exact ⟨[⟨.fin, [], k + m⟩], rfl, rfl⟩
  | @cons m w kd ts r tv sp se ih =>
    intro f k n hf hn
    obtain ⟨c, w', hw, hc, ht⟩ := tv_tok tv se (k + m)
    have hlen : 1 ≤ w.length := by rw [hw]; simp
    simp only [List.length_append, List.length_replicate, List.length_cons] at hf hn
    obtain ⟨g, rfl⟩ : ∃ g, f = (g + 1) + m := ⟨f - m - 1, by omega⟩
    rw [toks_skip]
    obtain ⟨ts2, e1, e2⟩ := ih g (k + m + w.length) (n + 1) (by omega) (by omega)
    refine ⟨⟨kd, w, k + m⟩ :: ts2, ?_, by simp [e2]⟩
    have hn60 : ¬ n = 60 := by omega
    have ed : (c :: (w' ++ r)).drop w.length = r := by
      rw [show c :: (w' ++ r) = w ++ r by rw [hw]; rfl, List.drop_left]
    have e0 : w ++ r = c :: (w' ++ r) := by rw [hw]; rfl
    rw [e0]
    simp only [toksP]
    rw [if_neg hc, ht]
    simp only
    rw [if_neg hn60, ed, e1]
/-! ### where tokens stand -/
def At (ts : List Tk) : Nat → List (List Nat × K) → Prop
  | _, [] => True
  | i, (w, k) :: r => (tkn ts i).sp = w ∧ (tkn ts i).kind = k ∧ At ts (i + 1) r
theorem at_of : ∀ {ts : List Tk} {tks : List (List Nat × K)} {pre : List Tk}, ts.map (fun t => (t.sp, t.kind)) = tks → At (pre ++ ts) pre.length tks
  | [], tks, pre, h => by
    simp at h; subst h; exact True.intro
  | t :: ts, tks, pre, h => by
    simp only [List.map_cons] at h
    subst h
    have e : tkn (pre ++ t :: ts) pre.length = t := by
      unfold tkn
      rw [List.getD_eq_getElem?_getD]
      simp
    refine ⟨by rw [e], by rw [e], ?_⟩
    have := at_of (ts := ts) (pre := pre ++ [t]) rfl
    simpa using this
theorem At.app {ts : List Tk} : ∀ {a b : List (List Nat × K)} {i : Nat}, At ts i (a ++ b) → At ts i a ∧ At ts (i + a.length) b
  | [], b, i, h => ⟨True.intro, h⟩
  | x :: a, b, i, h => by
    obtain ⟨w, k⟩ := x
    obtain ⟨h1, h2, h3⟩ := h
    obtain ⟨h4, h5⟩ := At.app (a := a) h3
    exact ⟨⟨h1, h2, h4⟩, by rw [List.length_cons, show i + (a.length + 1) = i + 1 + a.length by omega]; exact h5⟩
/-! ### numbers -/
structure NumT (tks : List (List Nat × K)) (q : Rat) : Prop where
  ex : ∃ (neg : Bool) (a : List Nat) (b : Option (List Nat)), tks = (if neg = true then [([45], K.sym)] else []) ++ (a, K.num) :: (match b with
    | none => []
    | some b => [([47], K.sym), (b, K.num)]) ∧ (match b with
    | none => q = Rat.divInt (if neg = true then -(NumText.digitsVal a : Int) else NumText.digitsVal a) 1
    | some b => NumText.digitsVal b ≠ 0 ∧ q = Rat.divInt (if neg = true then -(NumText.digitsVal a : Int) else NumText.digitsVal a) (NumText.digitsVal b))
theorem acc_is {ts : List Tk} {k : K} {s : List Nat} {i : Nat} (h1 : (tkn ts i).sp = s) (h2 : (tkn ts i).kind = k) : accP ts k s i = (true, i + 1) := by
  unfold accP; rw [if_pos ⟨h2, h1⟩]
theorem acc_no {ts : List Tk} {k : K} {s : List Nat} {i : Nat} (h : ¬ ((tkn ts i).kind = k ∧ (tkn ts i).sp = s)) : accP ts k s i = (false, i) := by
  unfold accP; rw [if_neg h]
theorem take_is {ts : List Tk} {k : K} {i : Nat} (h : (tkn ts i).kind = k) : takeP ts k i = .ok (tkn ts i, i + 1) := by
  unfold takeP; rw [if_pos h]
theorem sf_at {ts : List Tk} {i : Nat} {tks : List (List Nat × K)} {q : Rat} (h : At ts i tks) (hq : NumT tks q) (hn : ¬ ((tkn ts (i + tks.length)).kind = .sym ∧ (tkn ts (i + tks.length)).sp = [47])) : sfP ts i = .ok (q, i + tks.length) := by
  obtain ⟨neg, a, b, rfl, hv⟩ := hq.ex
  obtain ⟨h1, h2⟩ := At.app h
  obtain ⟨h3, h4, h5⟩ := h2
  have A : accP ts .sym [45] i = (neg, i + (if neg = true then [([45], K.sym)] else [] : List (List Nat × K)).length) := by
    cases neg with
    | true =>
      obtain ⟨z1, z2, _⟩ := h1
      exact acc_is z1 z2
    | false =>
      refine acc_no fun z => ?_
      have h4' : (tkn ts i).kind = .num := h4
      rw [h4'] at z
      exact nomatch z.1
  have B := take_is h4
  unfold sfP
  rw [A]
  simp only
  rw [B]
  simp only
  cases b with
  | none =>
    have C : accP ts .sym [47] (i + (if neg = true then [([45], K.sym)] else [] : List (List Nat × K)).length + 1) = (false, i + (if neg = true then [([45], K.sym)] else [] : List (List Nat × K)).length + 1) := acc_no fun z => hn (by
      rw [List.length_append, List.length_cons]
      exact ⟨z.1, z.2⟩)
    rw [C]
    simp only [Bool.false_eq_true, if_false]
    have hv' : q = Rat.divInt (if neg = true then -(NumText.digitsVal a : Int) else NumText.digitsVal a) 1 := hv
    unfold valT
    rw [h3, ← hv', List.length_append, List.length_cons]
    rfl
  | some b =>
    obtain ⟨h6, h7, h8, h9, _⟩ := h5
    have C := acc_is h6 h7
    rw [C]
    simp only [if_true]
    have D := take_is h9
    rw [D]
    simp only
    obtain ⟨hv1, hv2⟩ := hv
    unfold valT
    rw [h8, if_neg hv1, h3, ← hv2, List.length_append, List.length_cons]
    rfl
/-- a number does not begin with a stroke -/
theorem num_first {ts : List Tk} {i : Nat} {tks r : List (List Nat × K)} {q : Rat} (h : At ts i (tks ++ r)) (hq : NumT tks q) : ¬ ((tkn ts i).kind = .sym ∧ (tkn ts i).sp = [47]) := by
  obtain ⟨neg, a, b, rfl, hv⟩ := hq.ex
  obtain ⟨h, _⟩ := At.app h
  cases neg with
  | true =>
    obtain ⟨h1, _⟩ := h
    intro z
    have h1' : (tkn ts i).sp = [45] := h1
    rw [h1'] at z
    exact nomatch z.2
  | false =>
    obtain ⟨_, h2, _⟩ := h
    intro z
    have h2' : (tkn ts i).kind = .num := h2
    rw [h2'] at z
    exact nomatch z.1
end DL

/-! Plain laws: the plain parser reads what was written. -/
namespace DL
open PySem PySem.Spec PyProof.Rows L2 TL
def sgc (s : Int) : Nat := if s = 1 then 62 else 60
def condT : List (Str × Int) → List (List Nat × K)
  | [] => []
  | [c] => [(tl c.1, .name), ([sgc c.2], .sym)]
  | c :: d :: r => (tl c.1, .name) :: ([sgc c.2], .sym) :: (wAnd, .word) :: condT (d :: r)
theorem sg_look {s : Int} (h : s = 1 ∨ s = -1) : sg2.lookup [sgc s] = some s := by
  rcases h with rfl | rfl <;> rfl
theorem conds_at {ts : List Tk} {ns : List Str} : ∀ (cs : List (Str × Int)) (acc : List (Str × Int)) (i f : Nat), cs ≠ [] → cs.length ≤ f → At ts i (condT cs) → (tkn ts (i + (condT cs).length)).kind = .fin → (∀ c ∈ cs, c.1 ∈ ns ∧ (c.2 = 1 ∨ c.2 = -1)) → ((acc ++ cs).map (·.1)).Nodup →
    condsP ts ns sg2 f acc i = .ok (acc ++ cs, i + (condT cs).length + 1)
  | [], acc, i, f, h, _, _, _, _, _ => absurd rfl h
  | [c], acc, i, 0, _, hf, _, _, _, _ => by simp at hf
  | [c], acc, i, f + 1, _, hf, ha, he, hc, hn => by
    obtain ⟨a1, a2, a3, a4, _⟩ := ha
    obtain ⟨c1, c2⟩ := hc c List.mem_cons_self
    have hd : ¬ c.1 ∈ acc.map (·.1) := fun z => by
      rw [List.map_append] at hn
      exact (List.nodup_append.mp hn).2.2 _ z _ (by simp) rfl
    unfold condsP
    rw [take_is a2]
    simp only
    rw [a1, sk_tl, if_neg (fun z => z.elim (fun w => w c1) hd), take_is a4]
    simp only
    rw [a3, sg_look c2]
    simp only
    have e : accP ts .word wAnd (i + 1 + 1) = (false, i + 1 + 1) := acc_no fun z => by
      have he' : (tkn ts (i + 1 + 1)).kind = .fin := he
      rw [he'] at z
      exact nomatch z.1
    rw [e]
    simp only [Bool.false_eq_true, if_false]
    have he' : (tkn ts (i + 1 + 1)).kind = .fin := he
    rw [take_is he']
    rfl
  | c :: d :: r, acc, i, 0, _, hf, _, _, _, _ => by simp at hf
  | c :: d :: r, acc, i, f + 1, _, hf, ha, he, hc, hn => by
    obtain ⟨a1, a2, a3, a4, a5, a6, a7⟩ := ha
    obtain ⟨c1, c2⟩ := hc c List.mem_cons_self
    have hd : ¬ c.1 ∈ acc.map (·.1) := fun z => by
      rw [List.map_append] at hn
      exact (List.nodup_append.mp hn).2.2 _ z _ (by simp) rfl
    unfold condsP
    rw [take_is a2]
    simp only
    rw [a1, sk_tl, if_neg (fun z => z.elim (fun w => w c1) hd), take_is a4]
    simp only
    rw [a3, sg_look c2]
    simp only
    rw [acc_is a5 a6]
    simp only [if_true]
    have el : (condT (c :: d :: r)).length = (condT (d :: r)).length + 3 := rfl
    have ih := conds_at (d :: r) (acc ++ [(c.1, c.2)]) (i + 1 + 1 + 1) f (by simp) (by simpa using hf) a7 (by rw [show i + 1 + 1 + 1 + (condT (d :: r)).length = i + (condT (c :: d :: r)).length by rw [el]; omega]; exact he) (fun x hx => hc x (List.mem_cons_of_mem _ hx)) (by simpa using hn)
    rw [ih, el]
    rw [show i + 1 + 1 + 1 + (condT (d :: r)).length + 1 = i + ((condT (d :: r)).length + 3) + 1 by omega]
    simp
/-- the tokens of a line item -/
structure LineT (tks : List (List Nat × K)) (x : Ln) : Prop where
  ex : ∃ an bn cn, tks = (wLine, K.word) :: (tl x.nm, K.name) :: (an ++ (bn ++ cn)) ∧ NumT an x.a ∧ NumT bn x.b ∧ NumT cn x.c
structure RuleT (tks : List (List Nat × K)) (x : Rl) : Prop where
  ex : ∃ pn qn, tks = (wDrift, K.word) :: (pn ++ (qn ++ (if x.cs = [] then [] else (wWhere, K.word) :: condT x.cs))) ∧ NumT pn x.p ∧ NumT qn x.q
theorem fin_not {ts : List Tk} {i : Nat} (h : (tkn ts i).kind = .fin) : ¬ ((tkn ts i).kind = .sym ∧ (tkn ts i).sp = [47]) := fun z => by
  rw [h] at z
  exact nomatch z.1
theorem line_at {ts : List Tk} {tks : List (List Nat × K)} {x : Ln} {ls : List Ln} (T : LineT tks x) (h : At ts 0 tks) (he : (tkn ts tks.length).kind = .fin) (h6 : ls.length < 6) (hn : x.nm ∉ ls.map (·.nm)) (hab : ¬ (x.a = 0 ∧ x.b = 0)) (hs : ls.any (sameP x.a x.b x.c) = false) : ∃ j, lineP ts (ls.map (·.nm)) ls 1 = .ok (x, j) := by
  obtain ⟨an, bn, cn, rfl, ha, hb, hc⟩ := T.ex
  obtain ⟨_, _, a1, a2, a3⟩ := h
  obtain ⟨b1, b2⟩ := At.app a3
  obtain ⟨b3, b4⟩ := At.app b2
  have e1 := sf_at b1 ha (num_first b2 hb)
  have e2 := sf_at b3 hb (num_first (r := []) (by rw [List.append_nil]; exact b4) hc)
  have el : ((wLine, K.word) :: (tl x.nm, K.name) :: (an ++ (bn ++ cn))).length = 0 + 1 + 1 + an.length + bn.length + cn.length := by simp; omega
  rw [el] at he
  have e3 := sf_at b4 hc (fin_not he)
  unfold lineP
  have a2' : (tkn ts 1).kind = .name := a2
  have a1' : (tkn ts 1).sp = tl x.nm := a1
  rw [take_is a2']
  simp only
  rw [a1', sk_tl, if_neg (fun z => z.elim hn (by omega))]
  rw [show (1 + 1 : Nat) = 0 + 1 + 1 from rfl, e1]
  simp only
  rw [e2]
  simp only
  rw [if_neg hab, e3]
  simp only
  rw [if_neg (by rw [hs]; simp), take_is he]
  exact ⟨_, rfl⟩
theorem rule_at {ts : List Tk} {tks : List (List Nat × K)} {x : Rl} {ns : List Str} (T : RuleT tks x) (h : At ts 0 tks) (he : (tkn ts tks.length).kind = .fin) (hc : ∀ c ∈ x.cs, c.1 ∈ ns ∧ (c.2 = 1 ∨ c.2 = -1)) (hn : (x.cs.map (·.1)).Nodup) (hl : x.cs.length ≤ 61) : ∃ j, ruleP ts ns 1 = .ok (x, j) := by
  obtain ⟨pn, qn, rfl, hp, hq⟩ := T.ex
  obtain ⟨_, _, a3⟩ := h
  obtain ⟨b1, b2⟩ := At.app a3
  obtain ⟨b3, b4⟩ := At.app b2
  have e1 := sf_at b1 hp (num_first b2 hq)
  unfold ruleP
  rw [show (1 : Nat) = 0 + 1 from rfl, e1]
  simp only
  by_cases hcs : x.cs = []
  · have el : ((wDrift, K.word) :: (pn ++ (qn ++ (if x.cs = [] then [] else (wWhere, K.word) :: condT x.cs)))).length = 0 + 1 + pn.length + qn.length := by
      rw [if_pos hcs]; simp; omega
    rw [el] at he
    have e2 := sf_at b3 hq (fin_not he)
    rw [e2]
    simp only
    have e3 : accP ts .word wWhere (0 + 1 + pn.length + qn.length) = (false, 0 + 1 + pn.length + qn.length) := acc_no fun z => by
      rw [he] at z
      exact nomatch z.1
    rw [e3]
    simp only [Bool.false_eq_true, if_false]
    rw [take_is he]
    have ex : (⟨x.p, x.q, []⟩ : Rl) = x := by rw [← hcs]
    simp only
    rw [ex]
    exact ⟨_, rfl⟩
  · rw [if_neg hcs] at b4
    have el : ((wDrift, K.word) :: (pn ++ (qn ++ (if x.cs = [] then [] else (wWhere, K.word) :: condT x.cs)))).length = 0 + 1 + pn.length + qn.length + 1 + (condT x.cs).length := by
      rw [if_neg hcs]; simp; omega
    rw [el] at he
    obtain ⟨b5, b6, b7⟩ := b4
    have e2 := sf_at b3 hq (fun z => by rw [b6] at z; exact nomatch z.1)
    rw [e2]
    simp only
    rw [acc_is b5 b6]
    simp only [if_true]
    have e4 := conds_at (ns := ns) x.cs [] (0 + 1 + pn.length + qn.length + 1) 61 hcs hl b7 he hc (by simpa using hn)
    rw [e4]
    exact ⟨_, rfl⟩
/-- the lines of a text, and the items that they write -/
inductive Txts : List (List Nat) → List Ln → List Rl → Prop where
  | nil : Txts [] [] []
  | blank {l : List Nat} {r : List (List Nat)} {ls : List Ln} {rs : List Rl} (h : Sp [] l) (t : Txts r ls rs) : Txts (l :: r) ls rs
  | line {l : List Nat} {r : List (List Nat)} {ls : List Ln} {rs : List Rl} {tks : List (List Nat × K)} {x : Ln} (T : LineT tks x) (h : Sp tks l) (h60 : tks.length ≤ 60) (t : Txts r ls rs) : Txts (l :: r) (x :: ls) rs
  | rule {l : List Nat} {r : List (List Nat)} {rs : List Rl} {tks : List (List Nat × K)} {x : Rl} (T : RuleT tks x) (h : Sp tks l) (h60 : tks.length ≤ 60) (t : Txts r [] rs) : Txts (l :: r) [] (x :: rs)
/-- a plan as it may be written -/
structure PlOk (ls : List Ln) (rs : List Rl) : Prop where
  nm : (ls.map (·.nm)).Nodup
  l6 : ls.length ≤ 6
  ab : ∀ l ∈ ls, ¬ (l.a = 0 ∧ l.b = 0)
  same : ls.Pairwise fun x y => sameP y.a y.b y.c x = false
  r12 : rs.length ≤ 12
  cs : ∀ r ∈ rs, (∀ c ∈ r.cs, c.1 ∈ ls.map (·.nm) ∧ (c.2 = 1 ∨ c.2 = -1)) ∧ (r.cs.map (·.1)).Nodup ∧ r.cs.length ≤ 61
  last : ∃ rs1 r, rs = rs1 ++ [r] ∧ r.cs = [] ∧ ∀ x ∈ rs1, x.cs ≠ []
theorem tk_map {tks : List (List Nat × K)} {ts : List Tk} (h : ts.map (fun t => (t.sp, t.kind)) = tks ++ [([], K.fin)]) : At ts 0 tks ∧ (tkn ts tks.length).kind = .fin := by
  have a := at_of (pre := []) h
  simp only [List.nil_append, List.length_nil] at a
  obtain ⟨a1, a2⟩ := At.app a
  rw [Nat.zero_add] at a2
  exact ⟨a1, a2.2.1⟩
theorem item_blank {l : List Nat} {ls : List Ln} {rs : List Rl} (h : Sp [] l) : itemP l ls rs = .ok (ls, rs) := by
  obtain ⟨ts, e1, e2⟩ := toks_sp h (l.length + 1) 1 0 (by omega) (by simp)
  obtain ⟨_, a2⟩ := tk_map e2
  unfold itemP
  have a3 : (tkn ts 0).kind = .fin := a2
  rw [e1]
  simp only
  rw [if_pos a3]
theorem item_line {l : List Nat} {ls : List Ln} {tks : List (List Nat × K)} {x : Ln} (T : LineT tks x) (h : Sp tks l) (h60 : tks.length ≤ 60) (h6 : ls.length < 6) (hn : x.nm ∉ ls.map (·.nm)) (hab : ¬ (x.a = 0 ∧ x.b = 0)) (hs : ls.any (sameP x.a x.b x.c) = false) : itemP l ls [] = .ok (ls ++ [x], []) := by
  obtain ⟨ts, e1, e2⟩ := toks_sp h (l.length + 1) 1 0 (by omega) (by omega)
  obtain ⟨a1, a2⟩ := tk_map e2
  obtain ⟨j, e3⟩ := line_at T a1 a2 h6 hn hab hs
  obtain ⟨an, bn, cn, rfl, _⟩ := T.ex
  obtain ⟨b1, b2, _⟩ := a1
  unfold itemP
  rw [e1]
  simp only
  rw [if_neg (by rw [b2]; simp), acc_is b1 b2, if_pos (by simp), e3]
theorem item_rule {l : List Nat} {ls : List Ln} {rs : List Rl} {tks : List (List Nat × K)} {x : Rl} (T : RuleT tks x) (h : Sp tks l) (h60 : tks.length ≤ 60) (h12 : rs.length < 12) (hen : endedP rs = false) (hc : ∀ c ∈ x.cs, c.1 ∈ ls.map (·.nm) ∧ (c.2 = 1 ∨ c.2 = -1)) (hn : (x.cs.map (·.1)).Nodup) (hl : x.cs.length ≤ 61) : itemP l ls rs = .ok (ls, rs ++ [x]) := by
  obtain ⟨ts, e1, e2⟩ := toks_sp h (l.length + 1) 1 0 (by omega) (by omega)
  obtain ⟨a1, a2⟩ := tk_map e2
  obtain ⟨j, e3⟩ := rule_at T a1 a2 hc hn hl
  obtain ⟨pn, qn, rfl, _⟩ := T.ex
  obtain ⟨b1, b2, _⟩ := a1
  have n1 : accP ts .word wLine 0 = (false, 0) := acc_no fun z => by
    rw [b1] at z
    exact absurd z.2 (by decide)
  unfold itemP
  rw [e1]
  simp only
  rw [if_neg (by rw [b2]; simp), n1, if_neg (fun z => by simp at z), acc_is b1 b2, if_pos ⟨⟨hen, h12⟩, rfl⟩, e3]
theorem ended_app {rs : List Rl} {x : Rl} : endedP (rs ++ [x]) = x.cs.isEmpty := by simp [endedP]
theorem items_at : ∀ (texts : List (List Nat)) (n : Nat) (ls0 : List Ln) (rs0 : List Rl) (ls : List Ln) (rs : List Rl), Txts texts ls rs → (rs0 ≠ [] → ls = []) → n + texts.length ≤ 40 → PlOk (ls0 ++ ls) (rs0 ++ rs) → itemsP texts n ls0 rs0 = .ok (ls0 ++ ls, rs0 ++ rs)
  | [], n, ls0, rs0, _, _, .nil, _, _, P => by
    obtain ⟨rs1, r, e, h1, h2⟩ := P.last
    rw [List.append_nil] at e
    simp only [itemsP, List.append_nil]
    rw [e, ended_app, h1]
    rfl
  | l :: r, n, ls0, rs0, ls, rs, .blank h t, h1, hn, P => by
    unfold itemsP
    simp only [List.length_cons] at hn
    rw [if_neg (by omega), item_blank h]
    exact items_at r (n + 1) ls0 rs0 ls rs t h1 (by omega) P
  | l :: r, n, ls0, rs0, _, rs, .line (ls := ls) (x := x) T h h60 t, h1, hn, P => by
    have h0 : rs0 = [] := Classical.byContradiction fun z => by
      have := h1 z
      cases this
    subst h0
    unfold itemsP
    simp only [List.length_cons] at hn
    have hl6 := P.l6
    rw [List.length_append, List.length_cons] at hl6
    have hnm := P.nm
    rw [List.map_append, List.map_cons] at hnm
    have hx : x.nm ∉ ls0.map (·.nm) := fun z => (List.nodup_append.mp hnm).2.2 _ z _ List.mem_cons_self rfl
    have hsm := P.same
    rw [List.pairwise_append] at hsm
    have hany : ls0.any (sameP x.a x.b x.c) = false := by
      rw [List.any_eq_false]
      intro y hy
      have := hsm.2.2 y hy x List.mem_cons_self
      simp [this]
    rw [if_neg (by omega), item_line T h h60 (by omega) hx (P.ab x (by simp)) hany]
    have := items_at r (n + 1) (ls0 ++ [x]) [] ls rs t (fun z => absurd rfl z) (by omega) (by simpa using P)
    simpa using this
  | l :: r, n, ls0, rs0, _, _, .rule (rs := rs) (x := x) T h h60 t, h1, hn, P => by
    unfold itemsP
    simp only [List.length_cons] at hn
    have hr12 := P.r12
    rw [List.length_append, List.length_cons] at hr12
    obtain ⟨c1, c2, c3⟩ := P.cs x (by simp)
    rw [List.append_nil] at c1
    have hen : endedP rs0 = false := by
      obtain ⟨rs1, y, e, e1, e2⟩ := P.last
      cases q : rs0.getLast? with
      | none => unfold endedP; rw [q]
      | some z =>
        have hz : z ∈ rs1 := by
          have h1 := congrArg List.dropLast e
          rw [List.dropLast_append_cons, List.dropLast_concat] at h1
          rw [← h1]
          exact List.mem_append_left _ (List.mem_of_getLast? q)
        unfold endedP
        rw [q]
        have := e2 z hz
        cases hzc : z.cs with
        | nil => exact absurd hzc this
        | cons _ _ => simp only; rw [hzc]; rfl
    rw [if_neg (by omega), item_rule T h h60 (by omega) hen c1 c2 c3]
    have := items_at r (n + 1) ls0 (rs0 ++ [x]) [] rs t (fun _ => rfl) (by omega) (by simpa using P)
    simpa using this
end DL

/-! Plain laws: texts laid out with spaces and comments. -/
namespace DL
open PySem PySem.Spec PyProof.Rows L2 TL
/-! ### spaced tokens, from the left -/
def lastOk (tks : List (List Nat × K)) (r : List Nat) : Prop := ∀ w k, tks.getLast? = some (w, k) → sepOk k r
def Pre (tks : List (List Nat × K)) (x : List Nat) : Prop := ∀ ts r, Sp ts r → lastOk tks r → Sp (tks ++ ts) (x ++ r)
theorem sep_sp (k : K) (n : Nat) (r : List Nat) : sepOk k (32 :: r) := by
  intro c r' e
  injection e with e1 _
  subst e1
  cases k <;> first | decide | trivial
theorem sep_rep (k : K) (n : Nat) : sepOk k (List.replicate n 32) := by
  cases n with
  | zero => intro c r' e; cases e
  | succ n => rw [List.replicate_succ]; exact sep_sp k n _
theorem tv_ne {w : List Nat} {k : K} (h : TV w k) : ∃ c r, w = c :: r := by
  cases h with
  | word => exact ⟨_, _, rfl⟩
  | name => exact ⟨_, _, rfl⟩
  | num h1 =>
    cases w with
    | nil => exact absurd rfl h1
    | cons c r => exact ⟨c, r, rfl⟩
  | sym => exact ⟨_, _, rfl⟩
theorem pre_nil : Pre [] [] := fun ts r h _ => h
theorem pre_snoc {tks : List (List Nat × K)} {x w : List Nat} {k : K} {n : Nat} (h : Pre tks x) (t : TV w k) (hn : 1 ≤ n ∨ lastOk tks w) : Pre (tks ++ [(w, k)]) (x ++ List.replicate n 32 ++ w) := fun ts r hr hl => by
  have hk : sepOk k r := hl w k (by simp)
  have h1 := Sp.cons n t hr hk
  have h2 := h _ _ h1 (fun w' k' e => by
    rcases Nat.eq_zero_or_pos n with z | z
    · subst z
      have hl' := (hn.resolve_left (by omega)) w' k' e
      obtain ⟨c, r', rfl⟩ := tv_ne t
      intro d s es
      simp at es
      rw [← es.1]
      exact hl' c r' rfl
    · obtain ⟨m, rfl⟩ : ∃ m, n = m + 1 := ⟨n - 1, by omega⟩
      rw [List.replicate_succ, List.cons_append]
      exact sep_sp k' m _)
  simpa using h2
theorem pre_end {tks : List (List Nat × K)} {x : List Nat} (h : Pre tks x) (n : Nat) : Sp tks (x ++ List.replicate n 32) := by
  have := h [] _ (Sp.nil n) fun w k _ => sep_rep k n
  simpa using this
theorem sp_ahead {tks : List (List Nat × K)} {x : List Nat} (h : Sp tks x) (m : Nat) : Sp tks (List.replicate m 32 ++ x) := by
  cases h with
  | nil n => rw [List.replicate_append_replicate]; exact .nil _
  | cons n t s e => rw [← List.append_assoc, List.replicate_append_replicate]; exact .cons _ t s e
theorem sp_behind {tks : List (List Nat × K)} {x : List Nat} (h : Sp tks x) (m : Nat) : Sp tks (x ++ List.replicate m 32) := by
  induction h with
  | nil n => rw [List.replicate_append_replicate]; exact .nil _
  | @cons n w k ts r t s e ih =>
    rw [List.append_assoc, List.append_assoc]
    refine .cons n t ih ?_
    cases r with
    | nil => rw [List.nil_append]; exact sep_rep k m
    | cons c r' => intro d q z; injection z with z1 _; rw [← z1]; exact e c r' rfl
/-! ### comments -/
def Cm (x : List Nat) : Prop := ∃ n, x = List.replicate n 32 ∨ ∃ r, x = List.replicate n 32 ++ 35 :: r
theorem cm_app {x y : List Nat} (hx : Cm x) (hy : Cm y) : Cm (x ++ y) := by
  obtain ⟨n, rfl | ⟨r, rfl⟩⟩ := hx
  · obtain ⟨m, rfl | ⟨r, rfl⟩⟩ := hy
    · exact ⟨n + m, .inl (by rw [List.replicate_append_replicate])⟩
    · exact ⟨n + m, .inr ⟨r, by rw [← List.append_assoc, List.replicate_append_replicate]⟩⟩
  · exact ⟨n, .inr ⟨r ++ y, by simp⟩⟩
/-- a line: tokens, a comment -/
def LineTx (tks : List (List Nat × K)) (x : List Nat) : Prop := ∃ l c, Sp tks l ∧ Cm c ∧ x = l ++ c
theorem tv_no35 {w : List Nat} {k : K} (h : TV w k) : 35 ∉ w := by
  have hw : isW 35 = false := by decide
  have hd : isDg 35 = false := by decide
  cases h with
  | word _ h2 _ => intro z; have := h2 _ z; rw [hw] at this; cases this
  | name _ h2 _ _ => intro z; have := h2 _ z; rw [hw] at this; cases this
  | num _ h2 _ _ => intro z; have := h2 _ z; rw [hd] at this; cases this
  | sym h =>
    intro z
    rw [List.mem_singleton] at z
    rw [← z] at h
    exact absurd h (by decide)
theorem sp_no35 {tks : List (List Nat × K)} {x : List Nat} (h : Sp tks x) : 35 ∉ x := by
  induction h with
  | nil n => intro z; have := List.eq_of_mem_replicate z; cases this
  | cons n t s e ih =>
    intro z
    rcases List.mem_append.mp z with z | z
    · have := List.eq_of_mem_replicate z; cases this
    · rcases List.mem_append.mp z with z | z
      · exact tv_no35 t z
      · exact ih z
theorem headP_no {l c : List Nat} (h : 35 ∉ l) : headP (l ++ c) = l ++ headP c := by
  unfold headP
  induction l with
  | nil => rfl
  | cons d l ih =>
    rw [List.cons_append, List.takeWhile_cons, if_pos, ih (fun z => h (List.mem_cons_of_mem _ z)), List.cons_append]
    simp only [bne_iff_ne, ne_eq]
    intro z
    exact h (by rw [z]; exact List.mem_cons_self)
theorem headP_cm {c : List Nat} (h : Cm c) : ∃ n, headP c = List.replicate n 32 := by
  have no : ∀ n, 35 ∉ List.replicate n 32 := fun n z => by
    have := List.eq_of_mem_replicate z
    cases this
  obtain ⟨n, rfl | ⟨r, rfl⟩⟩ := h
  · have := headP_no (c := []) (no n)
    rw [List.append_nil] at this
    exact ⟨n, by rw [this]; simp [headP]⟩
  · exact ⟨n, by rw [headP_no (no n)]; simp [headP]⟩
theorem line_head {tks : List (List Nat × K)} {x : List Nat} (h : LineTx tks x) : Sp tks (headP x) := by
  obtain ⟨l, c, h1, h2, rfl⟩ := h
  obtain ⟨n, e⟩ := headP_cm h2
  rw [headP_no (sp_no35 h1), e]
  exact sp_behind h1 n
theorem line_more {tks : List (List Nat × K)} {x y : List Nat} (h : LineTx tks x) (hy : Cm y) : LineTx tks (x ++ y) := by
  obtain ⟨l, c, h1, h2, rfl⟩ := h
  exact ⟨l, c ++ y, h1, cm_app h2 hy, by simp⟩
theorem line_ahead {tks : List (List Nat × K)} {x : List Nat} (h : LineTx tks x) (m : Nat) : LineTx tks (List.replicate m 32 ++ x) := by
  obtain ⟨l, c, h1, h2, rfl⟩ := h
  exact ⟨List.replicate m 32 ++ l, c, sp_ahead h1 m, h2, by simp⟩
/-- the items that token lists write -/
inductive Its : List (List (List Nat × K)) → List Ln → List Rl → Prop where
  | nil : Its [] [] []
  | line {t : List (List Nat × K)} {r : List (List (List Nat × K))} {x : Ln} {ls : List Ln} {rs : List Rl} (h : LineT t x) (h60 : t.length ≤ 60) (i : Its r ls rs) : Its (t :: r) (x :: ls) rs
  | rule {t : List (List Nat × K)} {r : List (List (List Nat × K))} {x : Rl} {rs : List Rl} (h : RuleT t x) (h60 : t.length ≤ 60) (i : Its r [] rs) : Its (t :: r) [] (x :: rs)
/-- lines that are laid out -/
inductive LdT : List (List Nat) → List (List (List Nat × K)) → Prop where
  | nil : LdT [] []
  | blank {x : List Nat} {xs : List (List Nat)} {ts : List (List (List Nat × K))} (h : LineTx [] x) (t : LdT xs ts) : LdT (x :: xs) ts
  | item {x : List Nat} {xs : List (List Nat)} {t : List (List Nat × K)} {ts : List (List (List Nat × K))} (h : LineTx t x) (r : LdT xs ts) : LdT (x :: xs) (t :: ts)
theorem ldt_app {xs ys : List (List Nat)} {ts us : List (List (List Nat × K))} (h : LdT xs ts) (k : LdT ys us) : LdT (xs ++ ys) (ts ++ us) := by
  induction h with
  | nil => exact k
  | blank h t ih => exact .blank h ih
  | item h t ih => exact .item h ih
theorem ldt_txts {xs : List (List Nat)} {ts : List (List (List Nat × K))} (h : LdT xs ts) : ∀ {ls : List Ln} {rs : List Rl}, Its ts ls rs → Txts (xs.map headP) ls rs := by
  induction h with
  | nil => intro ls rs i; cases i; exact .nil
  | blank h t ih => intro ls rs i; exact .blank (line_head h) (ih i)
  | item h t ih =>
    intro ls rs i
    cases i with
    | line h1 h60 i => exact .line h1 (line_head h) h60 (ih i)
    | rule h1 h60 i => exact .rule h1 (line_head h) h60 (ih i)
theorem its_app : ∀ {ts us : List (List (List Nat × K))} {ls : List Ln} {rs : List Rl}, Its ts ls [] → Its us [] rs → Its (ts ++ us) ls rs
  | [], us, _, _, .nil, k => k
  | _ :: _, us, _, _, .line h h60 i, k => .line h h60 (its_app i k)
/-! ### the whole text -/
theorem join_more (S w : List Nat) : ∀ (a : List (List Nat)) (b : List Nat), joinL S (a ++ [b]) ++ w = joinL S (a ++ [b ++ w])
  | [], b => rfl
  | [x], b => by simp [joinL]
  | x :: y :: a, b => by
    have ih := join_more S w (y :: a) b
    simp only [List.cons_append] at ih ⊢
    simp only [joinL]
    rw [List.append_assoc, List.append_assoc, ih]
/-- THE READ-BACK: a text that is laid out is read as what it writes -/
theorem planP_laid {xs : List (List Nat)} {ts : List (List (List Nat × K))} {ls : List Ln} {rs : List Rl} (h : LdT xs ts) (i : Its ts ls rs) (hx : xs ≠ []) (h10 : ∀ x ∈ xs, 10 ∉ x) (h40 : xs.length ≤ 40) (P : PlOk ls rs) : planP (sk (joinL [10] xs)) = .ok (ls, rs) := by
  have e : sk (joinL [10] xs) = Txt.join (sk [10]) (xs.map sk) := by
    refine ext_tl ?_
    rw [join_eq, tl_join, List.map_map, tl_sk, tl_sk]
    congr 1
    have : (tl ∘ sk) = id := rfl
    rw [this, List.map_id]
  have sp : Txt.split (sk (joinL [10] xs)) (sk [10]) = xs.map sk := by
    rw [e]
    refine split_join (s := 10) (S := []) rfl ?_ (by simpa using hx) (fun p hp => ?_)
    · rw [Array.all_eq_true_iff_forall_mem]
      intro c hc
      have : c = 10 := by simpa [sk] using hc
      subst this; decide
    · obtain ⟨x, hx', rfl⟩ := List.mem_map.mp hp
      rw [tl_sk]; exact h10 x hx'
  unfold planP
  rw [sp, List.map_map]
  have e2 : ((fun x => headP (tl x)) ∘ sk) = headP := rfl
  rw [e2]
  have := items_at (xs.map headP) 0 [] [] ls rs (ldt_txts h i) (fun z => absurd rfl z) (by simpa using h40) (by simpa using P)
  simpa using this
end DL

/-! Plain laws: the package's and the law's fractions. -/
namespace DL
open PySem PySem.Spec PyProof.Rows L2

theorem s_divisor (x y : Int) (S : Store) : m_greatest_divisor [.int x, .int y] S = .ok (.int (Int.gcd x y : Nat)) S := by
  obtain ⟨g, h1, h2, _⟩ := eu_loop (i := 0) (j := 1) (by decide) y.natAbs [some (.int x), some (.int y)] x y S rfl rfl (Nat.le_refl _)
  unfold m_greatest_divisor
  simp only [x_fun, x_seq, start_def, List.map, List.length, Nat.sub_self, List.replicate, List.append_nil, h1, O.then_nx]
  simp
  split <;> omega
theorem s_fraction {n : Nat} {t b : Int} (S : Store) (hb : b ≠ 0) (hs : Sz n b) (hn : n < 9000) : m_fraction [.int t, .int b] S = .ok (fr (Rat.divInt t b)) S := by
  unfold m_fraction
  simp [hb, s_divisor]
  have hg : (Int.gcd t b : Nat) ≤ b.natAbs := Nat.le_of_dvd (by omega) (Nat.gcd_dvd_right t.natAbs b.natAbs)
  by_cases h : b < 0
  · obtain ⟨g0, h1, h2⟩ := divInt_parts (t := t) (b := b) (g := -((Int.gcd t b : Nat) : Int)) hb (by omega) (fun z => by omega) (fun z => by omega)
    have sg : Sz n (-((Int.gcd t b : Nat) : Int)) := by unfold Sz at *; omega
    simp [h, fdiv_ok S sg hn g0, h1, h2, -x_fdiv, sizeLine]
    rfl
  · obtain ⟨g0, h1, h2⟩ := divInt_parts (t := t) (b := b) (g := ((Int.gcd t b : Nat) : Int)) hb (by omega) (fun z => by omega) (fun z => by omega)
    have sg : Sz n (((Int.gcd t b : Nat) : Int)) := by unfold Sz at *; omega
    simp [h, fdiv_ok S sg hn g0, h1, h2, -x_fdiv, sizeLine]
    rfl
theorem s_fraction0 (t : Int) (S : Store) : m_fraction [.int t, .int 0] S = .exn (.exc "ZeroDivisor" [] []) S := by
  unfold m_fraction
  simp
theorem s_low {n : Nat} {t b : Int} (S : Store) (hb : b ≠ 0) (hs : Sz n b) (hn : n < 9000) : m_L_low [.int t, .int b] S = .ok (fr (Rat.divInt t b)) S := by
  have e1 : (if t < 0 then -t else t) = (t.natAbs : Int) := by split <;> omega
  have e2 : (if b < 0 then -b else b) = (b.natAbs : Int) := by split <;> omega
  obtain ⟨g, h1, h2, h3⟩ := eu_loop (i := 2) (j := 3) (by decide) b.natAbs [some (.int t), some (.int b), some (.int t.natAbs), some (.int b.natAbs)] t.natAbs b.natAbs S rfl rfl (by omega)
  have g0 : 0 ≤ g := h3 (by omega) (by omega)
  have h2 : g.natAbs = Int.gcd t b := by rw [h2]; simp [Int.gcd]
  have hg : (Int.gcd t b : Nat) ≤ b.natAbs := Nat.le_of_dvd (by omega) (Nat.gcd_dvd_right t.natAbs b.natAbs)
  unfold m_L_low
  simp [e1, e2, h1]
  by_cases h : 0 < b
  · obtain ⟨g0, h1, h2⟩ := divInt_parts (t := t) (b := b) (g := g) hb (by omega) (fun z => by omega) (fun z => by omega)
    have sg : Sz n g := by unfold Sz at *; omega
    simp [h, fdiv_ok S sg hn g0, h1, h2, -x_fdiv, sizeLine]
    rfl
  · obtain ⟨g0, h1, h2⟩ := divInt_parts (t := t) (b := b) (g := -g) hb (by omega) (fun z => by omega) (fun z => by omega)
    have sg : Sz n (-g) := by unfold Sz at *; omega
    simp [h, fdiv_ok S sg hn g0, h1, h2, -x_fdiv, sizeLine]
    rfl
theorem s_times {m n : Nat} {q r : Rat} (S : Store) (h : RS m q) (k : RS n r) (hn : m + n < 9000) : m_times [fr q, fr r] S = .ok (fr (q * r)) S := by
  unfold m_times
  simp [fr, -x_mul, mul_ok S h.1 k.1 (by omega), mul_ok S h.den k.den (by omega)]
  rw [s_fraction S (Int.mul_ne_zero (den_ne q) (den_ne r)) (h.den.mul k.den) hn, mul_eq]
  rfl
theorem s_Lproduct {m n : Nat} {q r : Rat} (S : Store) (h : RS m q) (k : RS n r) (hn : m + n < 9000) : m_L_product [fr q, fr r] S = .ok (fr (q * r)) S := by
  unfold m_L_product
  simp [fr, -x_mul, mul_ok S h.1 k.1 (by omega), mul_ok S h.den k.den (by omega)]
  rw [s_low S (Int.mul_ne_zero (den_ne q) (den_ne r)) (h.den.mul k.den) hn, mul_eq]
  rfl
theorem s_minus {m n : Nat} {q r : Rat} (S : Store) (h : RS m q) (k : RS n r) (hn : m + n < 9000) : m_minus [fr q, fr r] S = .ok (fr (q - r)) S := by
  unfold m_minus
  simp [fr, -x_mul, mul_ok S h.1 k.den (by omega), mul_ok S k.1 h.den (by omega), mul_ok S h.den k.den (by omega)]
  rw [s_fraction S (Int.mul_ne_zero (den_ne q) (den_ne r)) (h.den.mul k.den) hn, sub_eq]
  rfl
end DL

/-! Plain laws: the urn. -/
namespace DL
open PySem PySem.Spec PyProof.Rows L2

theorem sz_lit {n : Nat} {z : Int} (h : z.natAbs < 2 ^ n) : Sz n z := h
theorem sz_lt {n : Nat} {z : Int} (h0 : 0 ≤ z) (h : z < 2 ^ n) : Sz n z := by
  unfold Sz
  have : (z.natAbs : Int) < ((2 ^ n : Nat) : Int) := by
    rw [show (z.natAbs : Int) = z by omega]; simpa using h
  omega
def blownB : SM := mAsg (mOp modD (mOp addD (mOp addD (mOp addD (mOp mulD (mVar 3) (mVar 3)) (mOp mulD (mC (.int 10)) (mVar 3))) (mOp mulD (mC (.int 401)) (mVar 4))) (mVar 1)) (mVar 2)) (gN 3)
theorem blown_def : m_L_blown = mFun 5 (mSeq (mAsg (mC (.int 1000000000000001429)) (gN 2))
  (mSeq (mAsg (mOp modD (mOp addD (mOp addD (mOp mulD (mVar 0) (mC (.int 5281877500950955839))) (mOp mulD (mC (.int 1442695040888963407)) (mVar 1))) (mC (.int 53))) (mVar 2)) (gN 3))
  (mSeq (mFor (mRange1 (mC (.int 4))) (gN 4) blownB)
  (mRet (mOp addD (mOp mulD (mVar 3) (mVar 2)) (mOp modD (mOp addD (mOp mulD (mVar 3) (mC (.int 69069))) (mVar 1)) (mVar 2))))))) := rfl
theorem blown_turn {a f t x : Int} {ρ4 : Option D} {v : D} (S : Store) (hf : 0 ≤ f ∧ f < 1000000000000001429) (ht : Sz 8 t) :
    ∃ f' : Int, blownB [some v, some (.int a), some (.int 1000000000000001429), some (.int f), some (.int t)] S = .go .nx [some v, some (.int a), some (.int 1000000000000001429), some (.int f'), some (.int t)] S ∧ 0 ≤ f' ∧ f' < 1000000000000001429 := by
  have sf : Sz 60 f := sz_lt hf.1 (by have := hf.2; omega)
  have e1 := mul_ok S sf sf (by decide)
  have e2 := mul_ok S (sz_lit (n := 4) (z := 10) (by decide)) sf (by decide)
  have e3 := mul_ok S (sz_lit (n := 9) (z := 401) (by decide)) ht (by decide)
  refine ⟨(f * f + 10 * f + 401 * t + a).fmod 1000000000000001429, ?_, Int.fmod_nonneg_of_pos _ (by decide), Int.fmod_lt_of_pos _ (by decide)⟩
  simp [blownB, -x_mul, e1, e2, e3]
theorem s_blown {v a : Int} (S : Store) (hv : Sz 70 v) (ha : Sz 64 a) : ∃ r : Int, m_L_blown [.int v, .int a] S = .ok (.int r) S ∧ 0 ≤ r := by
  have e1 := mul_ok S hv (sz_lit (n := 63) (z := 5281877500950955839) (by decide)) (by decide)
  have e2 := mul_ok S (sz_lit (n := 61) (z := 1442695040888963407) (by decide)) ha (by decide)
  have f0 : 0 ≤ (v * 5281877500950955839 + 1442695040888963407 * a + 53).fmod 1000000000000001429 ∧ (v * 5281877500950955839 + 1442695040888963407 * a + 53).fmod 1000000000000001429 < 1000000000000001429 := ⟨Int.fmod_nonneg_of_pos _ (by decide), Int.fmod_lt_of_pos _ (by decide)⟩
  obtain ⟨f1, h1, g1⟩ := blown_turn (a := a) (t := 0) (x := 0) (ρ4 := none) (v := .int v) S f0 (by unfold Sz; decide)
  obtain ⟨f2, h2, g2⟩ := blown_turn (a := a) (t := 1) (x := 0) (ρ4 := none) (v := .int v) S g1 (by unfold Sz; decide)
  obtain ⟨f3, h3, g3⟩ := blown_turn (a := a) (t := 2) (x := 0) (ρ4 := none) (v := .int v) S g2 (by unfold Sz; decide)
  obtain ⟨f4, h4, g4⟩ := blown_turn (a := a) (t := 3) (x := 0) (ρ4 := none) (v := .int v) S g3 (by unfold Sz; decide)
  have s4 : Sz 60 f4 := sz_lt g4.1 (by have := g4.2; omega)
  have e5 := mul_ok S s4 (sz_lit (n := 60) (z := 1000000000000001429) (by decide)) (by decide)
  have e6 := mul_ok S s4 (sz_lit (n := 17) (z := 69069) (by decide)) (by decide)
  refine ⟨f4 * 1000000000000001429 + (f4 * 69069 + a).fmod 1000000000000001429, ?_, ?_⟩
  · rw [blown_def]
    simp [-x_mul, e1, e2, mForL, h1, h2, h3, h4, e5, e6, show rangeL 0 4 = [.int 0, .int 1, .int 2, .int 3] from rfl]
  · have := Int.fmod_nonneg_of_pos (f4 * 69069 + a) (b := 1000000000000001429) (by decide)
    have := Int.mul_nonneg g4.1 (show (0 : Int) ≤ 1000000000000001429 by decide)
    omega

/-- the urn at u: at most k numbers have been pulled -/
structure Urn (u k : Nat) (S : Store) : Prop where
  ex : ∃ (ns : List Int) (a v : Int), S[u]? = some (.lst [.lst (ns.map .int), .int a, .int v]) ∧ (∀ z ∈ ns, 0 ≤ z) ∧ 0 ≤ a ∧ a ≤ k ∧ 0 ≤ v ∧ ns.length ≤ 63
theorem Urn.mono {u j k : Nat} {S : Store} (h : Urn u j S) (hk : j ≤ k) : Urn u k S := by
  obtain ⟨ns, a, v, h1, h2, h3, h4, h5⟩ := h.ex
  exact ⟨ns, a, v, h1, h2, h3, by omega, h5⟩
/-- S' is S but for what stands at u -/
structure But (u : Nat) (S S' : Store) : Prop where
  len : S'.length = S.length
  at_ : ∀ n, n ≠ u → S'[n]? = S[n]?
theorem But.refl (u : Nat) (S : Store) : But u S S := ⟨rfl, fun _ _ => rfl⟩
theorem But.trans {u : Nat} {S S1 S2 : Store} (h : But u S S1) (k : But u S1 S2) : But u S S2 := ⟨k.len.trans h.len, fun n hn => (k.at_ n hn).trans (h.at_ n hn)⟩
theorem But.set (u : Nat) (S : Store) (o : Ob) : But u S (S.set u o) := ⟨by simp, fun n hn => by rw [List.getElem?_set_ne (Ne.symm hn)]⟩
theorem ix_ref {u : Nat} {S : Store} {l : List D} {i : Int} {d : D} (h : S[u]? = some (.lst l)) (hi : atI l i = some d) : ixD (.ref u) (.int i) S = .ok d S := by
  simp [ixD, lstOf, h, hi]
theorem gsub_at {u k : Nat} {l : List D} {fo fi : EM} {ρ : Env} {S : Store} (d : D) (h1 : fo ρ S = .ok (.ref u) S) (h2 : fi ρ S = .ok (.int (k : Nat)) S) (h : S[u]? = some (.lst l)) (hk : k < l.length) : gSubM fo fi d ρ S = some (ρ, S.set u (.lst (l.set k d))) := by
  have e : ixN l.length (k : Int) = some k := by
    unfold ixN
    rw [if_pos (by omega), if_pos (by omega)]; simp
  simp [gSubM, h1, h2, setIx, h, e]
theorem plains_ints (n : Nat) : ∀ ns : List Int, plains n (ns.map D.int) = true
  | [] => rfl
  | z :: ns => by simp [plains, plain, plains_ints n ns]
theorem ne_nil (ns : List Int) (S : Store) : neD (.lst (ns.map D.int)) (.lst []) S = .ok (.bl (decide (ns ≠ []))) S := by
  cases ns with
  | nil => rfl
  | cons z ns =>
    simp [neD, plain, plains, eqB, eqBs, plains_ints]
def pullV : EM := mIf (mB (mOp neD (mVar 2) (mLst mNil))) (mOp ixD (mVar 2) (mOp modD (mVar 3) (mCB (one lenD) (mCons (mVar 2) mNil)))) (mC (.int 0))
noncomputable def pullW : SM := mIfS (mOr (mB (mOp ltD (mVar 4) (mOp powD (mC (.int 10)) (mC (.int 18))))) (mB (mOp geD (mVar 3) (mCB (one lenD) (mCons (mVar 2) mNil))))) (mAsg (mCall 2 m_L_blown (mCons (mOp addD (mOp modD (mVar 4) (mOp powD (mC (.int 10)) (mC (.int 15)))) (mOp fdivD (mVar 3) (mOp addD (mCB (one lenD) (mCons (mVar 2) mNil)) (mC (.int 1))))) (mCons (mVar 3) mNil))) (gN 4)) mNext
def pullX : SM := mSeq (mAsg (mOp addD (mVar 3) (mC (.int 1))) (gSubM (mVar 0) (mC (.int 1)))) (mAsg (mVar 4) (gSubM (mVar 0) (mC (.int 2))))
theorem pull_def : m_L_pull = mFun 6 (mSeq (mIfS (mB (mOp ltD (mOp ixD (mVar 0) (mC (.int 2))) (mVar 1))) (mSeq (mPar 2 3 (mOp ixD (mVar 0) (mC (.int 0))) (mOp ixD (mVar 0) (mC (.int 1))))
  (mSeq (mAsg pullV (gN 4)) (mSeq pullW pullX))) mNext)
  (mSeq (mAsg (mOp modD (mOp ixD (mVar 0) (mC (.int 2))) (mVar 1)) (gN 5))
  (mSeq (mAsg (mOp fdivD (mOp ixD (mVar 0) (mC (.int 2))) (mVar 1)) (gSubM (mVar 0) (mC (.int 2))))
  (mRet (mVar 5))))) := rfl
theorem s_pullV (u : Nat) (m : Int) {ns : List Int} {a : Int} (S : Store) (h0 : ∀ z ∈ ns, 0 ≤ z) (ha : 0 ≤ a) (hl : ns.length ≤ 63) (x4 x5 : Option D) :
    ∃ v : Int, pullV [some (.ref u), some (.int m), some (.lst (ns.map .int)), some (.int a), x4, x5] S = .ok (.int v) S ∧ 0 ≤ v := by
  by_cases hn : ns = []
  · subst hn
    exact ⟨0, by simp [pullV, sizeLine, show neD (.lst []) (.lst []) S = .ok (.bl false) S from rfl], by decide⟩
  · have hp : 0 < ns.length := List.length_pos_iff.mpr hn
    have h1 := Int.fmod_nonneg_of_pos a (b := (ns.length : Int)) (by omega)
    have h2 := Int.fmod_lt_of_pos a (b := (ns.length : Int)) (by omega)
    obtain ⟨j, hj⟩ := Int.eq_ofNat_of_zero_le h1
    have hjl : j < ns.length := by omega
    refine ⟨ns[j], ?_, h0 _ (List.getElem_mem hjl)⟩
    have e : atI (ns.map D.int) (a.fmod ns.length) = some (.int ns[j]) := by
      rw [hj]
      rw [show ((j : Nat) : Int) = ((j : Nat) : Int) from rfl, atI_nat]; simp [hjl]
    simp [pullV, sizeLine, ne_nil, hn, e]
theorem s_pullW (u : Nat) (m : Int) {ns : List Int} {a v : Int} (S : Store) (ha : 0 ≤ a) (hb : a < 2 ^ 63) (hv : 0 ≤ v) (hl : ns.length ≤ 63) (x5 : Option D) :
    ∃ v' : Int, pullW [some (.ref u), some (.int m), some (.lst (ns.map .int)), some (.int a), some (.int v), x5] S = .go .nx [some (.ref u), some (.int m), some (.lst (ns.map .int)), some (.int a), some (.int v'), x5] S ∧ 0 ≤ v' := by
  have q0 := Int.fmod_nonneg_of_pos v (b := 10 ^ 15) (by decide)
  have q1 := Int.fmod_lt_of_pos v (b := 10 ^ 15) (by decide)
  have q2 : 0 ≤ a.fdiv ((ns.length : Int) + 1) ∧ a.fdiv ((ns.length : Int) + 1) ≤ a := by
    rw [Int.fdiv_eq_ediv_of_nonneg _ (by omega)]
    exact ⟨Int.ediv_nonneg ha (by omega), Int.ediv_le_self _ ha⟩
  obtain ⟨r, h1, h2⟩ := s_blown (v := v.fmod (10 ^ 15) + a.fdiv ((ns.length : Int) + 1)) (a := a) S (sz_lt (by omega) (by omega)) (sz_lt ha (by omega))
  have e1 := fdiv_ok (n := 7) (x := a) S (y := (ns.length : Int) + 1) (by unfold Sz; omega) (by decide) (by omega)
  by_cases c : v < 10 ^ 18 ∨ (ns.length : Int) ≤ a
  · refine ⟨r, ?_, h2⟩
    by_cases c1 : v < 10 ^ 18
    · simp only [show (10 : Int) ^ 18 = 1000000000000000000 from rfl, show (10 : Int) ^ 15 = 1000000000000000 from rfl] at *
      simp [pullW, c1, -x_fdiv, e1, h1]
    · have c2 : (ns.length : Int) ≤ a := by rcases c with c | c; exact absurd c c1; exact c
      simp only [show (10 : Int) ^ 18 = 1000000000000000000 from rfl, show (10 : Int) ^ 15 = 1000000000000000 from rfl] at *
      simp [pullW, c1, c2, -x_fdiv, e1, h1]
  · refine ⟨v, ?_, hv⟩
    have c1 : ¬ v < 10 ^ 18 := fun z => c (.inl z)
    have c2 : ¬ (ns.length : Int) ≤ a := fun z => c (.inr z)
    simp only [show (10 : Int) ^ 18 = 1000000000000000000 from rfl] at *
    simp [pullW, c1, c2]
theorem s_pull {u k n : Nat} {m : Int} {S : Store} (h : Urn u k S) (hm : 0 < m) (hs : Sz n m) (hn : n < 9000) (hk : k < 2 ^ 63) :
    ∃ (r : Int) (S' : Store), m_L_pull [.ref u, .int m] S = .ok (.int r) S' ∧ 0 ≤ r ∧ r < m ∧ Urn u (k + 1) S' ∧ But u S S' := by
  obtain ⟨ns, a, v, hS, h0, ha, hak, hv, hl⟩ := h.ex
  have hul : u < S.length := (List.getElem?_eq_some_iff.mp hS).1
  have fin : ∀ (S1 : Store) (a v : Int) (x2 x3 x4 : Option D), S1[u]? = some (.lst [.lst (ns.map .int), .int a, .int v]) → 0 ≤ v → 
      mSeq (mAsg (mOp modD (mOp ixD (mVar 0) (mC (.int 2))) (mVar 1)) (gN 5)) (mSeq (mAsg (mOp fdivD (mOp ixD (mVar 0) (mC (.int 2))) (mVar 1)) (gSubM (mVar 0) (mC (.int 2)))) (mRet (mVar 5))) [some (.ref u), some (.int m), x2, x3, x4, none] S1
        = .go (.rt (.int (v.fmod m))) [some (.ref u), some (.int m), x2, x3, x4, some (.int (v.fmod m))] (S1.set u (.lst [.lst (ns.map .int), .int a, .int (v.fdiv m)])) := fun S1 a v x2 x3 x4 h1 hv => by
    have e1 := ix_ref (i := 2) h1 (d := .int v) rfl
    have e2 := fdiv_ok (x := v) S1 hs hn (by omega)
    have e3 := gsub_at (fo := mVar 0) (fi := mC (.int 2)) (ρ := [some (.ref u), some (.int m), x2, x3, x4, some (.int (v.fmod m))]) (k := 2) (.int (v.fdiv m)) rfl rfl h1 (by simp)
    simp [e1, -x_fdiv, e2, e3, (show m ≠ 0 by omega)]
  have last : ∀ (S1 : Store) (a' v' : Int), S1[u]? = some (.lst [.lst (ns.map .int), .int a', .int v']) → 0 ≤ v' → 0 ≤ a' → a' ≤ k + 1 → But u S S1 → 0 ≤ v'.fmod m ∧ v'.fmod m < m ∧ Urn u (k + 1) (S1.set u (.lst [.lst (ns.map .int), .int a', .int (v'.fdiv m)])) ∧ But u S (S1.set u (.lst [.lst (ns.map .int), .int a', .int (v'.fdiv m)])) := fun S1 a' v' h1 h2 h3 h4 hb => by
    refine ⟨Int.fmod_nonneg_of_pos _ hm, Int.fmod_lt_of_pos _ hm, ⟨ns, a', v'.fdiv m, ?_, h0, h3, by omega, ?_, hl⟩, hb.trans (But.set u S1 _)⟩
    · rw [List.getElem?_set_self (by rw [hb.len]; exact hul)]
    · rw [Int.fdiv_eq_ediv_of_nonneg _ (by omega)]
      exact Int.ediv_nonneg h2 (by omega)
  rw [pull_def]
  by_cases c : v < m
  · obtain ⟨v1, p1, p2⟩ := s_pullV u m (ns := ns) (a := a) S h0 ha hl none none
    obtain ⟨v2, p3, p4⟩ := s_pullW u m (ns := ns) (a := a) (v := v1) S ha (by omega) p2 hl none
    have e1 := ix_ref (i := 2) hS (d := .int v) rfl
    have e2 := ix_ref (i := 0) hS (d := .lst (ns.map .int)) rfl
    have e3 := ix_ref (i := 1) hS (d := .int a) rfl
    have g1 : gSubM (mVar 0) (mC (.int 1)) (.int (a + 1)) [some (.ref u), some (.int m), some (.lst (ns.map .int)), some (.int a), some (.int v2), none] S = some (_, S.set u (.lst [.lst (ns.map .int), .int (a + 1), .int v])) := gsub_at (k := 1) (.int (a + 1)) rfl rfl hS (by simp)
    have hS1 : (S.set u (.lst [.lst (ns.map .int), .int (a + 1), .int v]))[u]? = some (.lst ([.lst (ns.map .int), .int (a + 1), .int v])) := by
      rw [List.getElem?_set_self hul]
    have g2 : gSubM (mVar 0) (mC (.int 2)) (.int v2) [some (.ref u), some (.int m), some (.lst (ns.map .int)), some (.int a), some (.int v2), none] (S.set u (.lst [.lst (ns.map .int), .int (a + 1), .int v])) = some (_, (S.set u (.lst [.lst (ns.map .int), .int (a + 1), .int v])).set u (.lst [.lst (ns.map .int), .int (a + 1), .int v2])) := gsub_at (k := 2) (.int v2) rfl rfl hS1 (by simp)
    rw [List.set_set] at g2
    have hS2 : (S.set u (.lst [.lst (ns.map .int), .int (a + 1), .int v2]))[u]? = some (.lst ([.lst (ns.map .int), .int (a + 1), .int v2])) := by
      rw [List.getElem?_set_self hul]
    have ff := fin _ (a + 1) v2 (some (.lst (ns.map .int))) (some (.int a)) (some (.int v2)) hS2 p4
    obtain ⟨l1, l2, l3, l4⟩ := last _ (a + 1) v2 hS2 p4 (by omega) (by omega) (But.set u S _)
    refine ⟨_, _, ?_, l1, l2, l3, l4⟩
    rw [x_fun, x_seq]
    have : (mIfS (mB (mOp ltD (mOp ixD (mVar 0) (mC (.int 2))) (mVar 1))) (mSeq (mPar 2 3 (mOp ixD (mVar 0) (mC (.int 0))) (mOp ixD (mVar 0) (mC (.int 1)))) (mSeq (mAsg pullV (gN 4)) (mSeq pullW pullX))) mNext) (start0 6 [.ref u, .int m]) S
       = .go .nx [some (.ref u), some (.int m), some (.lst (ns.map .int)), some (.int a), some (.int v2), none] (S.set u (.lst [.lst (ns.map .int), .int (a + 1), .int v2])) := by
      simp [e1, e2, e3, c, p1, p3, pullX, g1, g2]
    rw [this, O.then_nx, ff]
  · have e1 := ix_ref (i := 2) hS (d := .int v) rfl
    have ff := fin _ a v none none none hS hv
    obtain ⟨l1, l2, l3, l4⟩ := last _ a v hS hv (by omega) (by omega) (But.refl u S)
    refine ⟨_, _, ?_, l1, l2, l3, l4⟩
    rw [x_fun, x_seq]
    have : (mIfS (mB (mOp ltD (mOp ixD (mVar 0) (mC (.int 2))) (mVar 1))) (mSeq (mPar 2 3 (mOp ixD (mVar 0) (mC (.int 0))) (mOp ixD (mVar 0) (mC (.int 1)))) (mSeq (mAsg pullV (gN 4)) (mSeq pullW pullX))) mNext) (start0 6 [.ref u, .int m]) S
       = .go .nx [some (.ref u), some (.int m), none, none, none, none] S := by
      simp [e1, c]
    rw [this, O.then_nx, ff]
theorem s_item {u k : Nat} {l : List D} {S : Store} (h : Urn u k S) (h0 : l ≠ []) (hl : l.length < 2 ^ 60) (hk : k < 2 ^ 63) :
    ∃ (d : D) (S' : Store), m_L_item [.ref u, .lst l] S = .ok d S' ∧ d ∈ l ∧ Urn u (k + 1) S' ∧ But u S S' := by
  have hp : 0 < l.length := List.length_pos_iff.mpr h0
  obtain ⟨r, S', e, r0, r1, h1, h2⟩ := s_pull (m := (l.length : Int)) (n := 60) h (by omega) (by unfold Sz; omega) (by decide) hk
  obtain ⟨j, hj⟩ := Int.eq_ofNat_of_zero_le r0
  subst hj
  have hjl : j < l.length := by omega
  refine ⟨l[j], S', ?_, List.getElem_mem hjl, h1, h2⟩
  have e2 : atI l ((j : Nat) : Int) = some l[j] := by rw [atI_nat]; simp [hjl]
  unfold m_L_item
  simp [e, e2]
/-- a comprehension of one value each -/
theorem lc_map {i : Nat} {te : EM} {ρ : Env} {S : Store} {f : D → D} : ∀ {ds : List D}, (∀ d ∈ ds, te (ρ.set i (some d)) S = .ok (f d) S) → mLcL (gN i) mYes te ρ ds S = .ok (ds.map f) S
  | [], _ => rfl
  | d :: ds, h => by
    have h1 := h d List.mem_cons_self
    have h2 := lc_map (ds := ds) (te := te) (ρ := ρ) (S := S) (f := f) fun z hz => h z (List.mem_cons_of_mem _ hz)
    simp [mLcL, h1, h2]
def urnB : SM := mAsg (mOp addD (mOp ixD (mVar 1) (mOp modD (mVar 2) (mC (.int 13)))) (mCB (one absD) (mCons (mVar 3) mNil))) (gSubM (mVar 1) (mOp modD (mVar 2) (mC (.int 13))))
theorem urn_def : m_L_urn = mFun 4 (mSeq (mAsg (mLcN [3] (mIt (mSl (mVar 0) mNoP (mPart (mC (.int 13))))) (gN 3) mYes (mCB (one absD) (mCons (mVar 3) mNil))) (gN 1))
  (mSeq (mFor (mEnum (mSl (mVar 0) (mPart (mC (.int 13))) (mPart (mC (.int 60))))) (gTupM 2 (gConsM (gN 2) (gConsM (gN 3) gNilM))) urnB)
  (mRet (mNew (mCons (mFrz (mVar 1)) (mCons (mC (.int 0)) (mCons (mC (.int 0)) mNil))))))) := rfl
theorem urn_loop {d0 : D} : ∀ (ds : List Int) (i : Nat) (acc : List Int) (S : Store) (x2 x3 : Option D), (ds ≠ [] → acc.length = 13) → (∀ z ∈ acc, 0 ≤ z) → S[0]? = some (.lst (acc.map .int)) →
    ∃ (acc' : List Int) (y2 y3 : Option D), mForL (gTupM 2 (gConsM (gN 2) (gConsM (gN 3) gNilM))) urnB ((enumL i (ds.map D.int)).map D.wt) [some d0, some (.ref 0), x2, x3] S = .go .nx [some d0, some (.ref 0), y2, y3] (S.set 0 (.lst (acc'.map .int))) ∧ (∀ z ∈ acc', 0 ≤ z) ∧ acc'.length = acc.length
  | [], i, acc, S, x2, x3, _, h0, hS => ⟨acc, x2, x3, by
      simp [enumL]
      apply List.ext_getElem?
      intro k
      by_cases hk : k = 0
      · subst hk; rw [List.getElem?_set_self (List.getElem?_eq_some_iff.mp hS).1, hS]
      · rw [List.getElem?_set_ne (Ne.symm hk)], h0, rfl⟩
  | z :: ds, i, acc, S, x2, x3, hn, h0, hS => by
    have hl := hn (by simp)
    have h1 := Int.fmod_nonneg_of_pos (i : Int) (b := 13) (by decide)
    have h2 := Int.fmod_lt_of_pos (i : Int) (b := 13) (by decide)
    obtain ⟨j, hj⟩ := Int.eq_ofNat_of_zero_le h1
    have hjl : j < acc.length := by omega
    have hul := (List.getElem?_eq_some_iff.mp hS).1
    have e1 : ixD (.ref 0) (.int (j : Nat)) S = .ok (.int acc[j]) S := ix_ref hS (by rw [atI_nat]; simp [hjl])
    have e2 : (if z < 0 then -z else z) = (z.natAbs : Int) := by split <;> omega
    have e3 : gSubM (mVar 1) (mOp modD (mVar 2) (mC (.int 13))) (.int (acc[j] + z.natAbs)) [some d0, some (.ref 0), some (.int (i : Nat)), some (.int z)] S = some (_, S.set 0 (.lst ((acc.map D.int).set j (.int (acc[j] + z.natAbs))))) :=
      gsub_at (k := j) _ rfl (by simp [hj]) hS (by simpa using hjl)
    obtain ⟨acc', y2, y3, e, p1, p2⟩ := urn_loop (d0 := d0) ds (i + 1) (acc.set j (acc[j] + z.natAbs)) (S.set 0 (.lst ((acc.map D.int).set j (.int (acc[j] + z.natAbs))))) (some (.int (i : Nat))) (some (.int z)) (fun _ => by simpa using hl)
      (fun w hw => by
        rcases List.mem_or_eq_of_mem_set hw with h | h
        · exact h0 w h
        · have := h0 _ (List.getElem_mem hjl); omega)
      (by rw [List.getElem?_set_self hul, List.map_set])
    rw [List.set_set] at e
    refine ⟨acc', y2, y3, ?_, p1, by simpa using p2⟩
    rw [← e]
    simp [enumL, mForL, urnB, hj, e1, e2, e3]
theorem s_urn (ns : List Int) (hl : ns.length ≤ 63) : ∃ S, m_L_urn [.lst (ns.map .int)] [] = .ok (.ref 1) S ∧ Urn 1 0 S ∧ S.length = 2 := by
  have h13 : HT.sIx ns.length ns.length (some 13) = min 13 ns.length := HT.sIx_nat _ _ 13
  have h13' : HT.sIx ns.length 0 (some 13) = min 13 ns.length := HT.sIx_nat _ _ 13
  have h60 : HT.sIx ns.length ns.length (some 60) = min 60 ns.length := HT.sIx_nat _ _ 60
  have c1 : cutD (ns.map D.int) none (some 13) = (ns.take (min 13 ns.length)).map D.int := by
    simp [cutD, h13, HT.sIx_none]
  have c2 : cutD (ns.map D.int) (some 13) (some 60) = ((ns.drop (min 13 ns.length)).take (min 60 ns.length - min 13 ns.length)).map D.int := by
    simp [cutD, h13', h60]
  have lc := lc_map (i := 3) (te := mCB (one absD) (mCons (mVar 3) mNil)) (ρ := [some (.lst (ns.map .int)), none, none, none]) (S := []) (ds := (ns.take (min 13 ns.length)).map D.int) (f := fun d => match d with | .int i => .int (if i < 0 then -i else i) | d => d) (fun d hd => by
    obtain ⟨z, _, rfl⟩ := List.mem_map.mp hd
    simp)
  rw [List.map_map] at lc
  have em : (ns.take (min 13 ns.length)).map ((fun d => match d with | D.int i => D.int (if i < 0 then -i else i) | d => d) ∘ D.int) = ((ns.take (min 13 ns.length)).map fun i => if i < 0 then -i else i).map D.int := by
    rw [List.map_map]; rfl
  rw [em] at lc
  obtain ⟨acc', y2, y3, e, p1, p2⟩ := urn_loop (d0 := .lst (ns.map .int)) ((ns.drop (min 13 ns.length)).take (min 60 ns.length - min 13 ns.length)) 0 ((ns.take (min 13 ns.length)).map fun i => if i < 0 then -i else i) [.lst (((ns.take (min 13 ns.length)).map fun i => if i < 0 then -i else i).map D.int)] none none
    (fun hne => by
      have : ns.length > 13 := by
        rcases Nat.lt_or_ge 13 ns.length with q | q
        · exact q
        · exact absurd (by rw [List.drop_eq_nil_of_le (by omega)]; simp) hne
      simp; omega)
    (fun z hz => by
      obtain ⟨w, _, rfl⟩ := List.mem_map.mp hz
      split <;> omega) rfl
  rw [List.set_cons_zero] at e
  refine ⟨[.dead, .lst [.lst (acc'.map .int), .int 0, .int 0]], ?_, ⟨acc', 0, 0, rfl, p1, by decide, by decide, by decide, ?_⟩, rfl⟩
  · rw [urn_def]
    have cc : decide (((ns.take (min 13 ns.length)).map D.int).length ≤ sizeLine) = true := by
      simp [sizeLine]; omega
    have cc' : ((ns.take (min 13 ns.length)).map D.int).length ≤ sizeLine := by simpa using cc
    have A : mAsg (mLcN [3] (mIt (mSl (mVar 0) mNoP (mPart (mC (.int 13))))) (gN 3) mYes (mCB (one absD) (mCons (mVar 3) mNil))) (gN 1) (start0 4 [.lst (ns.map .int)]) [] = .go .nx [some (.lst (ns.map .int)), some (.ref 0), none, none] [.lst (((ns.take (min 13 ns.length)).map fun i => if i < 0 then -i else i).map D.int)] := by
      have := x_part [some (.lst (ns.map .int)), none, none, none] [] (mC (.int 13)) 13 [] rfl (by decide)
      simp only [x_asg, x_lc, x_it, x_sl, start_def, List.map, List.length, List.replicate, List.cons_append, List.nil_append, x_var, List.getElem?_cons_zero, R.bind_ok, x_noP, this, slD, c1, x_itL, if_pos cc', lstOf_lst, wipeD, List.set, lc]
      simp [plL]
    have B : mFor (mEnum (mSl (mVar 0) (mPart (mC (.int 13))) (mPart (mC (.int 60))))) (gTupM 2 (gConsM (gN 2) (gConsM (gN 3) gNilM))) urnB [some (.lst (ns.map .int)), some (.ref 0), none, none] [.lst (((ns.take (min 13 ns.length)).map fun i => if i < 0 then -i else i).map D.int)] = .go .nx [some (.lst (ns.map .int)), some (.ref 0), y2, y3] [.lst (acc'.map .int)] := by
      have q1 := x_part [some (.lst (ns.map .int)), some (.ref 0), none, none] [.lst (((ns.take (min 13 ns.length)).map fun i => if i < 0 then -i else i).map D.int)] (mC (.int 13)) 13 _ rfl (by decide)
      have q2 := x_part [some (.lst (ns.map .int)), some (.ref 0), none, none] [.lst (((ns.take (min 13 ns.length)).map fun i => if i < 0 then -i else i).map D.int)] (mC (.int 60)) 60 _ rfl (by decide)
      simp only [x_for, mEnum, x_sl, x_var, List.getElem?_cons_zero, R.bind_ok, q1, q2, slD, lstOf_lst, c2, R.to_ok, e]
    rw [x_fun, x_seq, A, O.then_nx, x_seq, B]
    simp [frzD, sizeLine]
  · rw [p2]; simp; omega
end DL

/-! Plain laws: the parser's methods do what the plain functions say, 1: tokens. -/
namespace DL
open PySem PySem.Spec PyProof.Rows L2 TL
theorem fld_ref {cs : List Str} {f c : Str} {p : Nat} {S : Store} {ns : List Str} {ds : List D} {x : D} (hS : S[p]? = some (.ins c ns ds)) (hc : c ∈ cs) (hg : getF f ns ds = some x) : fldD cs f (.ref p) S = .ok x S := by
  simp [fldD, insAt, hS, hc, hg]
theorem fld_obj {cs : List Str} {f c : Str} (S : Store) {ns : List Str} {ds : List D} {x : D} (hc : c ∈ cs) (hg : getF f ns ds = some x) : fldD cs f (.obj c ns ds) S = .ok x S := by
  simp [fldD, insAt, hc, hg]
/-! ### tokens -/
theorem t_kind (t : Tk) (S : Store) : fldD cs_kind "kind" (tokD t) S = .ok (.str (ks t.kind)) S := fld_obj S (by decide +kernel) (by simp [getF])
theorem t_spell (t : Tk) (S : Store) : fldD cs_spelling "spelling" (tokD t) S = .ok (.str (sk t.sp)) S := fld_obj S (by decide +kernel) (by simp [getF, (by decide +kernel : ¬ ("spelling" : Str) = "kind")])
theorem t_col (t : Tk) (S : Store) : fldD cs_column "column" (tokD t) S = .ok (.int t.col) S := fld_obj S (by decide +kernel) (by simp [getF, (by decide +kernel : ¬ ("column" : Str) = "kind"), (by decide +kernel : ¬ ("column" : Str) = "spelling")])
theorem s_tokInit (k s : Str) (c : Int) (S : Store) : m_Token_init [.ref S.length, .str k, .str s, .int c] (S ++ [.ins "Token" [] []]) = .ok .non (S ++ [.ins "Token" ["kind", "spelling", "column"] [.str k, .str s, .int c]]) := by
  have c1 : ("Token" : Str) ∈ cs_kind := by decide +kernel
  have c2 : ("Token" : Str) ∈ cs_spelling := by decide +kernel
  have c3 : ("Token" : Str) ∈ cs_column := by decide +kernel
  have n1 : ¬ ("kind" : Str) = "spelling" := by decide +kernel
  have n2 : ¬ ("kind" : Str) = "column" := by decide +kernel
  have n3 : ¬ ("spelling" : Str) = "column" := by decide +kernel
  unfold m_Token_init
  simp [setF, c1, c2, c3, putL, n1, n2, n3, last_set]
theorem s_mkTok {k : K} {s : List Nat} {c : Nat} {fa : AM} {ρ : Env} {S S1 : Store} (h : fa ρ S = .ok [.str (ks k), .str (sk s), .int (c : Nat)] S1) : mFrz (mMake "Token" 3 m_Token_init fa) ρ S = .ok (tokD ⟨k, s, c⟩) (S1 ++ [.dead]) := by
  simp [h, s_tokInit, frzD, last_set, tokD]
/-! ### runs of signs -/
theorem eor_loop {l : List Nat} {y : Str} (hl : l.length < 2 ^ 24) (x1 : D) (S : Store) : ∀ (n i : Nat), l.length - i ≤ n → i ≤ l.length →
    mWhile t_end_of_run_1 b_end_of_run_2 [some (.str (sk l)), some x1, some (.str y), some (.int (i : Nat))] S = .go .nx [some (.str (sk l)), some x1, some (.str y), some (.int ((i + ((l.drop i).takeWhile fun c => decide (c ∈ tl y)).length : Nat) : Int))] S := by
  have hz : l.length ≤ sizeLine := by rw [show sizeLine = 16777216 from rfl]; omega
  intro n
  induction n with
  | zero =>
    intro i h1 h2
    have e : i = l.length := by omega
    subst e
    rw [mWhile_eq]
    simp [t_end_of_run_1, len_str S hz]
  | succ n ih =>
    intro i h1 h2
    rw [mWhile_eq]
    by_cases h3 : i < l.length
    · have e1 := ix_str S (List.getElem?_eq_getElem h3) hz
      have e2 : l.drop i = l[i] :: l.drop (i + 1) := List.drop_eq_getElem_cons h3
      by_cases h4 : l[i] ∈ tl y
      · have ih' := ih (i + 1) (by omega) (by omega)
        simp only [t_end_of_run_1, b_end_of_run_2, x_and, x_b, x_op, x_var, List.getElem?_cons_succ, List.getElem?_cons_zero, R.bind_ok, x_cb, x_cons, x_nil, one, len_str S hz, x_cmp, x_toB, e1, in_str, h4, decide_true, if_true, R.to_ok, x_aug, x_c, x_iadd, List.set, (show decide ((i : Int) < l.length) = true by simpa using h3)]
        rw [show ((i : Int) + 1) = ((i + 1 : Nat) : Int) by omega]
        unfold t_end_of_run_1 b_end_of_run_2 at ih'
        rw [ih', e2, List.takeWhile_cons, if_pos (by simpa using h4)]
        simp only [List.length_cons]
        rw [show i + 1 + ((l.drop (i + 1)).takeWhile fun c => decide (c ∈ tl y)).length = i + (((l.drop (i + 1)).takeWhile fun c => decide (c ∈ tl y)).length + 1) by omega]
      · rw [e2, List.takeWhile_cons, if_neg (by simpa using h4)]
        simp only [t_end_of_run_1, x_and, x_b, x_op, x_var, List.getElem?_cons_succ, List.getElem?_cons_zero, R.bind_ok, x_cb, x_cons, x_nil, one, len_str S hz, x_cmp, x_toB, e1, in_str, h4, decide_false, if_true, R.to_ok, (show decide ((i : Int) < l.length) = true by simpa using h3), Bool.false_eq_true, if_false, List.length_nil, Nat.add_zero]
    · have e : i = l.length := by omega
      subst e
      simp [t_end_of_run_1, len_str S hz]
theorem s_eor {l : List Nat} {y : Str} (hl : l.length < 2 ^ 24) (S : Store) {i : Nat} (h : i ≤ l.length) : m_end_of_run [.str (sk l), .int (i : Nat), .str y] S = .ok (.int ((i + ((l.drop i).takeWhile fun c => decide (c ∈ tl y)).length : Nat) : Int)) S := by
  have := eor_loop (y := y) hl (.int (i : Nat)) S (l.length - i) i (Nat.le_refl _) h
  unfold m_end_of_run
  simp [this]
theorem mem_small (c : Nat) : decide (c ∈ tl "abcdefghijklmnopqrstuvwxyz") = isSm c := by
  have e : tl "abcdefghijklmnopqrstuvwxyz" = List.range' 97 26 := by decide +kernel
  rw [e]
  unfold isSm
  congr 1
  rw [List.mem_range'_1]
  simp only [eq_iff_iff]
  omega
theorem mem_digits (c : Nat) : decide (c ∈ tl "0123456789") = isDg c := by
  have e : tl "0123456789" = List.range' 48 10 := by decide +kernel
  rw [e]
  unfold isDg
  congr 1
  rw [List.mem_range'_1]
  simp only [eq_iff_iff]
  omega
theorem mem_both (c : Nat) : decide (c ∈ tl (("abcdefghijklmnopqrstuvwxyz" : Str) ++ ("0123456789" : Str))) = isW c := by
  rw [isW, ← mem_small, ← mem_digits, ← Bool.decide_or]
  apply decide_eq_decide.mpr
  rw [tl_append, List.mem_append]
theorem take_tw {α : Type} (p : α → Bool) : ∀ l : List α, l.take (l.takeWhile p).length = l.takeWhile p
  | [] => rfl
  | a :: l => by
    rw [List.takeWhile_cons]
    split
    · simp [take_tw p l]
    · rfl
theorem tw_le {α : Type} (p : α → Bool) : ∀ l : List α, (l.takeWhile p).length ≤ l.length
  | [] => Nat.le_refl _
  | a :: l => by
    rw [List.takeWhile_cons]
    split
    · simp [tw_le p l]
    · simp
theorem tw_mem {α : Type} (p : α → Bool) : ∀ {l : List α} {a : α}, a ∈ l.takeWhile p → a ∈ l ∧ p a = true
  | [], a, h => by simp at h
  | b :: l, a, h => by
    rw [List.takeWhile_cons] at h
    split at h
    · rename_i q
      rcases List.mem_cons.mp h with rfl | h
      · exact ⟨List.mem_cons_self, q⟩
      · exact ⟨List.mem_cons_of_mem _ (tw_mem p h).1, (tw_mem p h).2⟩
    · simp at h
/-- all signs of a text are signs -/
def Asc (l : List Nat) : Prop := ∀ c ∈ l, c < 128
theorem Asc.ok {l : List Nat} (h : Asc l) : PyData.strOk (sk l) = true := by
  unfold PyData.strOk
  rw [Array.all_eq_true_iff_forall_mem]
  intro c hc
  have := h c (by simpa [sk] using hc)
  simp; omega
theorem Asc.sub {l m : List Nat} (h : Asc l) (hs : ∀ c ∈ m, c ∈ l) : Asc m := fun c hc => h c (hs c hc)
/-- in a list of texts -/
theorem inB_str (x : Str) : ∀ l : List Str, inB (.str x) (l.map D.str) = decide (x ∈ l)
  | [] => rfl
  | y :: l => by
    have ih := inB_str x l
    unfold inB at ih ⊢
    rw [List.map_cons, List.any_cons, ih]
    by_cases h : y = x
    · subst h; simp [eqB]
    · have h' : ¬ x = y := fun z => h z.symm
      simp [eqB, h, h']
theorem plains_strs {n : Nat} : ∀ {l : List Str}, (∀ x ∈ l, PyData.strOk x = true) → plains n (l.map D.str) = true
  | [], _ => rfl
  | x :: l, h => by
    simp only [List.map_cons, plains, plain, h x List.mem_cons_self, plains_strs fun y hy => h y (List.mem_cons_of_mem _ hy), Bool.and_self]
theorem in_strsT {x : Str} {l : List Str} (S : Store) (hx : PyData.strOk x = true) (hl : ∀ y ∈ l, PyData.strOk y = true) : inD (.str x) (.tup (l.map D.str)) S = .ok (.bl (decide (x ∈ l))) S := by
  simp [inD, plain, hx, plains_strs hl, inB_str]
theorem in_strsL {x : Str} {l : List Str} (S : Store) (hx : PyData.strOk x = true) (hl : ∀ y ∈ l, PyData.strOk y = true) : inD (.str x) (.lst (l.map D.str)) S = .ok (.bl (decide (x ∈ l))) S := by
  simp [inD, plain, hx, plains_strs hl, inB_str]
theorem sk_mem {w : List Nat} {l : List (List Nat)} : (sk w ∈ l.map sk) ↔ w ∈ l := by
  constructor
  · intro h
    obtain ⟨v, hv, e⟩ := List.mem_map.mp h
    rw [← sk_inj e]; exact hv
  · intro h; exact List.mem_map_of_mem h
theorem kws_d : k_KEYWORDS = .tup ((kws.map sk).map D.str) := by
  have e : (kws.map sk) = (["line", "drift", "where", "and"] : List Str) := by decide +kernel
  rw [e]; rfl
theorem syms_d : k_SYMBOLS = .tup (((syms.map fun c => [c]).map sk).map D.str) := by
  have e : ((syms.map fun c => [c]).map sk) = (["<", ">", "=", "-", "/"] : List Str) := by decide +kernel
  rw [e]; rfl
theorem in_kws {w : List Nat} (S : Store) (h : Asc w) : inD (.str (sk w)) k_KEYWORDS S = .ok (.bl (decide (w ∈ kws))) S := by
  rw [kws_d, in_strsT S h.ok (by decide +kernel)]
  simp only [sk_mem]
theorem ni_kws {w : List Nat} (S : Store) (h : Asc w) : niD (.str (sk w)) k_KEYWORDS S = .ok (.bl (!decide (w ∈ kws))) S := by
  unfold niD
  rw [in_kws S h]; rfl
theorem in_syms {c : Nat} (S : Store) (h : c < 128) : inD (.str (sk [c])) k_SYMBOLS S = .ok (.bl (decide (c ∈ syms))) S := by
  rw [syms_d, in_strsT S (Asc.ok (l := [c]) fun d hd => by rw [List.mem_singleton.mp hd]; exact h) (by decide +kernel)]
  simp only [sk_mem]
  simp
/-- the error at a row and a column -/
def syn (r c : Int) : D := .exc "SyntaxProblem" ["column", "line"] [.int c, .int r]
theorem exc_syn {r c : Int} (S : Store) (hr : r.natAbs < 2 ^ 64) (hc : c.natAbs < 2 ^ 64) : excI "SyntaxProblem" ["line", "column"] [.int r, .int c] S = .ok (syn r c) S := by
  have a1 : r.natAbs.log2 < 1920 := by
    have := Sz.log2 (n := 64) (x := r) hr
    omega
  have a2 : c.natAbs.log2 < 1920 := by
    have := Sz.log2 (n := 64) (x := c) hc
    omega
  simp [excI, intsD, a1, a2, syn]
theorem s_tokenAt {l : List Nat} {i : Nat} {row : Int} (S : Store) (hl : l.length < 2 ^ 24) (ha : Asc l) (h : i < l.length) (hr : row.natAbs < 2 ^ 64) : m_token_at [.str (sk l), .int row, .int (i : Nat)] S = match tokAt l[i] (l.drop (i + 1)) (i + 1) with
    | .ok t => .ok (tokD t) (S ++ [.dead])
    | .error k => .exn (syn row (k : Nat)) S := by
  have hz : l.length ≤ sizeLine := by rw [show sizeLine = 16777216 from rfl]; omega
  have e1 := ix_str S (List.getElem?_eq_getElem h) hz
  have e2 : l.drop i = l[i] :: l.drop (i + 1) := List.drop_eq_getElem_cons h
  have hc : l[i] < 128 := ha _ (List.getElem_mem h)
  have ex := exc_syn (r := row) (c := (i : Int) + 1) S hr (by omega)
  have f1 : inD (.str (sk [l[i]])) (.str "abcdefghijklmnopqrstuvwxyz") S = .ok (.bl (isSm l[i])) S := by rw [in_str, mem_small]
  have f2 : inD (.str (sk [l[i]])) (.str "0123456789") S = .ok (.bl (isDg l[i])) S := by rw [in_str, mem_digits]
  have cut : ∀ p : Nat → Bool, slD (.str (sk l)) (some (i : Int)) (some ((i : Int) + (((l.drop i).takeWhile p).length : Nat))) S = .ok (.str (sk ((l[i] :: l.drop (i + 1)).takeWhile p))) S := fun p => by
    have b := tw_le p (l.drop i)
    rw [List.length_drop] at b
    rw [← Int.natCast_add, sl_str S hz (by omega) (by omega), Nat.add_sub_cancel_left, take_tw, e2]
  have asc : ∀ p : Nat → Bool, Asc ((l[i] :: l.drop (i + 1)).takeWhile p) := fun p => ha.sub fun c hc => by
    have := (tw_mem p hc).1
    rw [← e2] at this
    exact List.mem_of_mem_drop this
  have lenw : ∀ p : Nat → Bool, ((l[i] :: l.drop (i + 1)).takeWhile p).length ≤ sizeLine := fun p => by
    have := tw_le p (l[i] :: l.drop (i + 1))
    rw [← e2, List.length_drop] at this
    rw [← e2]; omega
  unfold m_token_at tokAt
  by_cases s1 : isSm l[i] = true
  · have eo := s_eor (y := ("abcdefghijklmnopqrstuvwxyz" : Str) ++ ("0123456789" : Str)) hl S (Nat.le_of_lt h)
    have fe : (fun c => decide (c ∈ tl (("abcdefghijklmnopqrstuvwxyz" : Str) ++ ("0123456789" : Str)))) = isW := funext mem_both
    rw [fe] at eo
    have ad : addD (.str "abcdefghijklmnopqrstuvwxyz") (.str "0123456789") S = .ok (.str (("abcdefghijklmnopqrstuvwxyz" : Str) ++ ("0123456789" : Str))) S := by
      simp only [addD]
      rw [if_pos (by decide +kernel)]
    have c1 := cut isW
    rw [Int.natCast_add] at eo
    have a1 := asc isW
    have l1 := len_str S (lenw isW)
    have k1 := in_kws S a1
    have k2 := ni_kws S a1
    generalize hw : (l[i] :: l.drop (i + 1)).takeWhile isW = w at *
    rw [if_pos s1]
    by_cases s2 : w ∈ kws
    · rw [if_neg (fun z => z.1 s2), if_pos s2]
      have mk := s_mkTok (k := .word) (s := w) (c := i + 1) (fa := mCons (mIf (mB (mOp inD (mVar 4) (mC k_KEYWORDS))) (mC (.str "word")) (mC (.str "name"))) (mCons (mVar 4) (mCons (mOp addD (mVar 2) (mC (.int 1))) mNil))) (ρ := [some (.str (sk l)), some (.int row), some (.int (i : Nat)), some (.str (sk [l[i]])), some (.str (sk w))]) (S := S) (S1 := S) (by simp [k1, s2, ks])
      simp [e1, k_SMALL, k_DIGITS, f1, s1, mPart, ad, eo, c1, k2, s2, mk, -x_frz, -x_make]
    · by_cases s3 : 8 < w.length
      · rw [if_pos ⟨s2, s3⟩]
        simp [e1, k_SMALL, k_DIGITS, f1, s1, mPart, ad, eo, c1, k2, s2, l1, one, k_MAX_NAME, s3, ex, (show (8 : Int) < w.length by omega)]
      · rw [if_neg (fun z => s3 z.2), if_neg s2]
        have mk := s_mkTok (k := .name) (s := w) (c := i + 1) (fa := mCons (mIf (mB (mOp inD (mVar 4) (mC k_KEYWORDS))) (mC (.str "word")) (mC (.str "name"))) (mCons (mVar 4) (mCons (mOp addD (mVar 2) (mC (.int 1))) mNil))) (ρ := [some (.str (sk l)), some (.int row), some (.int (i : Nat)), some (.str (sk [l[i]])), some (.str (sk w))]) (S := S) (S1 := S) (by simp [k1, s2, ks])
        simp [e1, k_SMALL, k_DIGITS, f1, s1, mPart, ad, eo, c1, k2, s2, l1, one, k_MAX_NAME, (show ¬ (8 : Int) < w.length by omega), mk, -x_frz, -x_make]
  · have s1' : isSm l[i] = false := by simpa using s1
    rw [if_neg s1]
    by_cases s2 : isDg l[i] = true
    · have eo := s_eor (y := "0123456789") hl S (Nat.le_of_lt h)
      have fe : (fun c => decide (c ∈ tl ("0123456789" : Str))) = isDg := funext mem_digits
      rw [fe] at eo
      have c1 := cut isDg
      rw [Int.natCast_add] at eo
      have l1 := len_str S (lenw isDg)
      generalize hw : (l[i] :: l.drop (i + 1)).takeWhile isDg = w at *
      rw [if_pos s2]
      have z0 : ((sk [l[i]]) == ("0" : Str)) = decide (l[i] = 48) := by
        rw [show ("0" : Str) = sk [48] by decide +kernel, sk_beq]
        simp
      by_cases s3 : 4 < w.length
      · rw [if_pos (.inl s3)]
        simp [e1, k_SMALL, k_DIGITS, f1, s1', f2, s2, mPart, eo, c1, l1, one, k_MAX_DIGITS, (show (4 : Int) < w.length by omega), ex]
      · have s3' : ¬ (4 : Int) < w.length := by omega
        by_cases s4 : 1 < w.length ∧ l[i] = 48
        · rw [if_pos (.inr s4)]
          have s4' : (1 : Int) < w.length := by omega
          have z1 : ((sk [l[i]]) == ("0" : Str)) = true := by rw [z0, s4.2]; rfl
          simp [e1, k_SMALL, k_DIGITS, f1, s1', f2, s2, mPart, eo, c1, l1, one, k_MAX_DIGITS, s3', s4', eq_str, z1, ex]
        · rw [if_neg (fun z => z.elim s3 s4)]
          have mk := s_mkTok (k := .num) (s := w) (c := i + 1) (fa := mCons (mC (.str "number")) (mCons (mVar 4) (mCons (mOp addD (mVar 2) (mC (.int 1))) mNil))) (ρ := [some (.str (sk l)), some (.int row), some (.int (i : Nat)), some (.str (sk [l[i]])), some (.str (sk w))]) (S := S) (S1 := S) (by simp [ks])
          by_cases s5 : 1 < w.length
          · have s6 : ¬ l[i] = 48 := fun z => s4 ⟨s5, z⟩
            have s5' : (1 : Int) < w.length := by omega
            simp [e1, k_SMALL, k_DIGITS, f1, s1', f2, s2, mPart, eo, c1, l1, one, k_MAX_DIGITS, s3', s5', eq_str, z0, s6, mk, -x_frz, -x_make]
          · have s5' : ¬ (1 : Int) < w.length := by omega
            simp [e1, k_SMALL, k_DIGITS, f1, s1', f2, s2, mPart, eo, c1, l1, one, k_MAX_DIGITS, s3', s5', mk, -x_frz, -x_make]
    · have s2' : isDg l[i] = false := by simpa using s2
      rw [if_neg s2]
      have g1 := in_syms S hc
      by_cases s3 : l[i] ∈ syms
      · rw [if_pos s3]
        have mk := s_mkTok (k := .sym) (s := [l[i]]) (c := i + 1) (fa := mCons (mC (.str "symbol")) (mCons (mVar 3) (mCons (mOp addD (mVar 2) (mC (.int 1))) mNil))) (ρ := [some (.str (sk l)), some (.int row), some (.int (i : Nat)), some (.str (sk [l[i]])), none]) (S := S) (S1 := S) (by simp [ks])
        simp [e1, k_SMALL, k_DIGITS, f1, s1', f2, s2', g1, s3, mk, -x_frz, -x_make]
      · rw [if_neg s3]
        simp [e1, k_SMALL, k_DIGITS, f1, s1', f2, s2', g1, s3, ex]
end DL

/-! Plain laws: the parser's methods do what the plain functions say, 2: the tokens of a line. -/
namespace DL
open PySem PySem.Spec PyProof.Rows L2 TL
theorem kws_len : ∀ w ∈ kws, w.length ≤ 8 := by decide
theorem tokAt_ok {c k : Nat} {r : List Nat} {t : Tk} (h : tokAt c r k = .ok t) (ha : Asc (c :: r)) (hk : k < 2 ^ 40) : t.kind ≠ .fin ∧ TkOk t ∧ 1 ≤ t.sp.length ∧ t.sp.length ≤ (c :: r).length ∧ t.col = k := by
  unfold tokAt at h
  by_cases s1 : isSm c = true
  · rw [if_pos s1] at h
    have hw1 : 1 ≤ ((c :: r).takeWhile isW).length := by
      rw [List.takeWhile_cons, if_pos (by unfold isW; rw [s1]; rfl)]; simp
    have hw2 := tw_le isW (c :: r)
    have hw3 : ∀ d ∈ (c :: r).takeWhile isW, d < 128 := fun d hd => ha d (tw_mem isW hd).1
    generalize (c :: r).takeWhile isW = w at *
    split at h
    · cases h
    · rename_i hn
      cases h
      have hl : w.length ≤ 8 := by
        by_cases q : w ∈ kws
        · exact kws_len w q
        · have : ¬ 8 < w.length := fun z => hn ⟨q, z⟩
          omega
      refine ⟨?_, ⟨hw3, fun z => ?_, hl, hk⟩, hw1, hw2, rfl⟩
      · show (if w ∈ kws then K.word else K.name) ≠ .fin
        split <;> intro z <;> cases z
      · have z : (if w ∈ kws then K.word else K.name) = .num := z
        split at z <;> cases z
      
  · rw [if_neg s1] at h
    by_cases s2 : isDg c = true
    · rw [if_pos s2] at h
      have hw1 : 1 ≤ ((c :: r).takeWhile isDg).length := by
        rw [List.takeWhile_cons, if_pos s2]; simp
      have hw2 := tw_le isDg (c :: r)
      have hw3 : ∀ d ∈ (c :: r).takeWhile isDg, d < 128 := fun d hd => ha d (tw_mem isDg hd).1
      have hw4 : NumText.AllDigits ((c :: r).takeWhile isDg) := fun d hd => by
        have := (tw_mem isDg hd).2
        unfold isDg at this
        simpa using this
      generalize (c :: r).takeWhile isDg = w at *
      split at h
      · cases h
      · rename_i hn
        cases h
        have hl : w.length ≤ 4 := by
          have : ¬ 4 < w.length := fun z => hn (.inl z)
          omega
        exact ⟨(fun z => nomatch z), ⟨hw3, fun _ => ⟨(fun z => by have z' : w = [] := z; rw [z'] at hw1; simp at hw1), hl, hw4⟩, by show w.length ≤ 8; omega, hk⟩, hw1, hw2, rfl⟩
    · rw [if_neg s2] at h
      split at h
      · cases h
        exact ⟨(fun z => nomatch z), ⟨fun d hd => by rw [List.mem_singleton.mp hd]; exact ha c List.mem_cons_self, (fun z => nomatch z), by simp, hk⟩, by simp, by simp, rfl⟩
      · cases h
theorem toks_loop {l : List Nat} {row : Int} {q : Nat} (hl : l.length < 2 ^ 24) (ha : Asc l) (hr : row.natAbs < 2 ^ 64) : ∀ (f i : Nat) (acc : List Tk) (S : Store) (x4 : Option D), i ≤ l.length → l.length - i < f → S[q]? = some (.lst (acc.map tokD)) → acc.length ≤ 60 →
    match toksP f (l.drop i) (i + 1) acc.length with
    | .ok ts => ∃ (ts0 : List Tk) (j : Nat) (y4 : Option D) (S' : Store), ts = ts0 ++ [⟨.fin, [], l.length + 1⟩] ∧ (∀ t ∈ ts0, t.kind ≠ .fin ∧ TkOk t) ∧ mWhile t_tokens_of_1 b_tokens_of_2 [some (.str (sk l)), some (.int row), some (.ref q), some (.int (i : Nat)), x4] S = .go .nx [some (.str (sk l)), some (.int row), some (.ref q), some (.int (j : Nat)), y4] S' ∧
        S'[q]? = some (.lst ((acc ++ ts0).map tokD)) ∧ Kp [q] S S' ∧ acc.length + ts0.length ≤ 60
    | .error k => ∃ (ρ' : Env) (S' : Store), mWhile t_tokens_of_1 b_tokens_of_2 [some (.str (sk l)), some (.int row), some (.ref q), some (.int (i : Nat)), x4] S = .go (.ex (syn row (k : Nat))) ρ' S' ∧ Kp [q] S S' := by
  have hz : l.length ≤ sizeLine := by rw [show sizeLine = 16777216 from rfl]; omega
  intro f
  induction f with
  | zero => intro i acc S x4 h1 h2; omega
  | succ f ih =>
    intro i acc S x4 h1 h2 hS hacc
    have T : t_tokens_of_1 [some (.str (sk l)), some (.int row), some (.ref q), some (.int (i : Nat)), x4] S = .ok (decide (i < l.length)) S := by
      simp [t_tokens_of_1, one, len_str S hz]
    by_cases h3 : i < l.length
    rotate_left
    · have e : i = l.length := by omega
      subst e
      rw [List.drop_length]
      show ∃ (ts0 : List Tk) (j : Nat) (y4 : Option D) (S' : Store), [⟨K.fin, [], l.length + 1⟩] = ts0 ++ [⟨.fin, [], l.length + 1⟩] ∧ _
      refine ⟨[], l.length, x4, S, rfl, by simp, ?_, by simpa using hS, Kp.refl _ _, by simpa using hacc⟩
      rw [mWhile_eq, T]
      simp
    have e2 : l.drop i = l[i] :: l.drop (i + 1) := List.drop_eq_getElem_cons h3
    have e1 := ix_str S (List.getElem?_eq_getElem h3) hz
    have sp : ((sk [l[i]]) == (" " : Str)) = decide (l[i] = 32) := by
      rw [show (" " : Str) = sk [32] by decide +kernel, sk_beq]
      simp
    rw [mWhile_eq, T]
    simp only [h3, decide_true, R.to_ok, if_true]
    rw [e2]
    show (match (if l[i] = 32 then toksP f (l.drop (i + 1)) (i + 1 + 1) acc.length else _) with
      | .ok ts => _
      | .error k => _)
    by_cases s0 : l[i] = 32
    · rw [if_pos s0]
      have B : b_tokens_of_2 [some (.str (sk l)), some (.int row), some (.ref q), some (.int (i : Nat)), x4] S = .go .nx [some (.str (sk l)), some (.int row), some (.ref q), some (.int ((i + 1 : Nat) : Int)), x4] S := by
        have sp' : ((sk [l[i]]) == (" " : Str)) = true := by rw [sp]; simpa using s0
        simp [b_tokens_of_2, e1, eq_str, sp']
      have := ih (i + 1) acc S x4 (by omega) (by omega) hS hacc
      rw [B]
      exact this
    · rw [if_neg s0]
      have sp' : ((sk [l[i]]) == (" " : Str)) = false := by rw [sp]; simpa using s0
      have ta := s_tokenAt S hl ha h3 hr
      cases qt : tokAt l[i] (l.drop (i + 1)) (i + 1) with
      | error k =>
        rw [qt] at ta
        simp only at ta
        refine ⟨[some (.str (sk l)), some (.int row), some (.ref q), some (.int (i : Nat)), x4], S, ?_, Kp.refl _ _⟩
        simp [b_tokens_of_2, e1, eq_str, sp', ta]
      | ok t =>
        rw [qt] at ta
        simp only at ta ⊢
        have asc : Asc (l[i] :: l.drop (i + 1)) := by
          rw [← e2]; exact ha.sub fun c hc => List.mem_of_mem_drop hc
        obtain ⟨k1, k2, k3, k4, k5⟩ := tokAt_ok qt asc (by omega)
        have hS1 : (S ++ [Ob.dead])[q]? = some (.lst (acc.map tokD)) := (Kp.app [] S _).get hS (by simp)
        have lenq : lenD (.ref q) (S ++ [Ob.dead]) = .ok (.int (acc.length : Nat)) (S ++ [Ob.dead]) := by
          simp [lenD, lstOf, hS1]
        by_cases s1 : acc.length = 60
        · rw [if_pos s1]
          have ex := exc_syn (r := row) (c := (t.col : Nat)) (S ++ [Ob.dead]) hr (by rw [k5]; omega)
          have c1 := t_col t (S ++ [Ob.dead])
          have s1' : ((acc.length : Int) == 60) = true := by rw [s1]; rfl
          refine ⟨[some (.str (sk l)), some (.int row), some (.ref q), some (.int (i : Nat)), some (tokD t)], S ++ [Ob.dead], ?_, Kp.app _ _ _⟩
          · simp [b_tokens_of_2, e1, eq_str, sp', ta, one, lenq, k_MAX_TOKENS, s1', c1, ex]
        · rw [if_neg s1]
          have s1' : ((acc.length : Int) == 60) = false := by
            rw [beq_eq_false_iff_ne]; omega
          have c1 := t_spell t ((S ++ [Ob.dead]).set q (.lst (acc.map tokD ++ [tokD t])))
          have c2 : lenD (.str (sk t.sp)) ((S ++ [Ob.dead]).set q (.lst (acc.map tokD ++ [tokD t]))) = .ok (.int t.sp.length) _ := len_str _ (by have := k2.len; rw [show sizeLine = 16777216 from rfl]; omega)
          have il : isL (.ref q) (S ++ [Ob.dead]) = true := by simp [isL, lstOf, hS1]
          have ap : appendD (.ref q) [tokD t] (S ++ [Ob.dead]) = .ok .non ((S ++ [Ob.dead]).set q (.lst (acc.map tokD ++ [tokD t]))) := by
            simp [appendD, hS1]
            rw [show sizeLine = 16777216 from rfl]; omega
          have B : b_tokens_of_2 [some (.str (sk l)), some (.int row), some (.ref q), some (.int (i : Nat)), x4] S = .go .nx [some (.str (sk l)), some (.int row), some (.ref q), some (.int ((i + t.sp.length : Nat) : Int)), some (tokD t)] ((S ++ [Ob.dead]).set q (.lst (acc.map tokD ++ [tokD t]))) := by
            simp [b_tokens_of_2, e1, eq_str, sp', ta, one, lenq, k_MAX_TOKENS, s1', il, ap, c1, c2]
          have hq : q < (S ++ [Ob.dead]).length := (List.getElem?_eq_some_iff.mp hS1).1
          have hS2 : ((S ++ [Ob.dead]).set q (.lst (acc.map tokD ++ [tokD t])))[q]? = some (.lst ((acc ++ [t]).map tokD)) := by
            rw [List.getElem?_set_self hq]; simp
          have kp : Kp [q] S ((S ++ [Ob.dead]).set q (.lst (acc.map tokD ++ [tokD t]))) := (Kp.app [q] S [Ob.dead]).trans (Kp.set _ _ (by simp))
          have rc := ih (i + t.sp.length) (acc ++ [t]) _ (some (tokD t)) (by rw [← e2, List.length_drop] at k4; omega) (by omega) hS2 (by simp; omega)
          have e3 : (l[i] :: l.drop (i + 1)).drop t.sp.length = l.drop (i + t.sp.length) := by
            rw [← e2, List.drop_drop]
          rw [e3, show i + 1 + t.sp.length = i + t.sp.length + 1 by omega]
          rw [B]
          simp only
          have la : (acc ++ [t]).length = acc.length + 1 := by simp
          rw [la] at rc
          cases qr : toksP f (l.drop (i + t.sp.length)) (i + t.sp.length + 1) (acc.length + 1) with
          | error k =>
            rw [qr] at rc
            obtain ⟨ρ', S', r1, r2⟩ := rc
            exact ⟨ρ', S', r1, kp.trans r2⟩
          | ok ts =>
            rw [qr] at rc
            obtain ⟨ts0, j, y4, S', r1, r2, r3, r4, r5, r6⟩ := rc
            refine ⟨t :: ts0, j, y4, S', by rw [r1]; rfl, fun u hu => ?_, r3, by rw [r4]; simp, kp.trans r5, by simp; omega⟩
            rcases List.mem_cons.mp hu with rfl | hu
            · exact ⟨k1, k2⟩
            · exact r2 u hu
theorem s_tokensOf {l : List Nat} {row : Int} (S : Store) (hl : l.length < 2 ^ 24) (ha : Asc l) (hr : row.natAbs < 2 ^ 64) :
    match toksP (l.length + 1) l 1 0 with
    | .ok ts => Toks ts ∧ ∃ S', m_tokens_of [.str (sk l), .int row] S = .ok (.lst (ts.map tokD)) S' ∧ Kp [] S S'
    | .error k => ∃ S', m_tokens_of [.str (sk l), .int row] S = .exn (syn row (k : Nat)) S' ∧ Kp [] S S' := by
  have hz : l.length ≤ sizeLine := by rw [show sizeLine = 16777216 from rfl]; omega
  have lp := toks_loop (q := S.length) hl ha hr (l.length + 1) 0 [] (S ++ [.lst []]) none (by omega) (by omega) (by simp) (by simp)
  simp only [List.drop_zero, Nat.zero_add, List.length_nil] at lp
  have k0 : Kp [] S (S ++ [.lst []]) := Kp.app _ _ _
  cases q : toksP (l.length + 1) l 1 0 with
  | error k =>
    rw [q] at lp
    obtain ⟨ρ', S', r1, r2⟩ := lp
    refine ⟨S', ?_, k0.then r2 fun v hv => .inr (by rw [List.mem_singleton.mp hv]; exact Nat.le_refl _)⟩
    unfold m_tokens_of
    simp [sizeLine] at r1 ⊢
    simp [r1]
  | ok ts =>
    rw [q] at lp
    obtain ⟨ts0, j, y4, S', r1, r2, r3, r4, r5, r6⟩ := lp
    subst r1
    have kS := k0.then r5 fun v hv => .inr (by rw [List.mem_singleton.mp hv]; exact Nat.le_refl _)
    refine ⟨⟨⟨ts0, _, rfl, by omega, r2⟩, by simp; simpa using r6⟩, S' ++ [.dead], ?_, kS.trans (Kp.app _ _ _)⟩
    have mk := s_mkTok (k := .fin) (s := []) (c := l.length + 1) (fa := mCons (mC k_END) (mCons (mC (.str "")) (mCons (mOp addD (mCB (one lenD) (mCons (mVar 0) mNil)) (mC (.int 1))) mNil))) (ρ := [some (.str (sk l)), some (.int row), some (.ref S.length), some (.int (j : Nat)), y4]) (S := S') (S1 := S') (by
      simp [one, len_str S' hz, k_END, ks]
      decide +kernel)
    have ad : addD (.ref S.length) (.lst [tokD ⟨.fin, [], l.length + 1⟩]) (S' ++ [.dead]) = .ok (.lst (ts0.map tokD ++ [tokD ⟨.fin, [], l.length + 1⟩])) (S' ++ [.dead]) := by
      have h4 : (S' ++ [Ob.dead])[S.length]? = some (.lst (ts0.map tokD)) := by
        rw [← List.nil_append ts0]; exact (Kp.app [] S' _).get r4 (by simp)
      simp [addD, lstOf, h4]
      rw [show sizeLine = 16777216 from rfl]
      omega
    unfold m_tokens_of
    simp [sizeLine] at r3 ⊢
    simp [r3, mk, -x_frz, -x_make, ad, (show 1 ≤ sizeLine by decide)]
end DL

/-! Plain laws: the parser's methods do what the plain functions say, 3: the parser, its small methods. -/
namespace DL
open PySem PySem.Spec PyProof.Rows L2 TL
def parN : List Str := ["row", "names", "tokens", "index"]
def parI (row : Int) (ns : List Str) (ts : List Tk) (i : Nat) : Ob := .ins "LineParser" parN [.int row, .lst (ns.map .str), .lst (ts.map tokD), .int (i : Nat)]
theorem setF_eq {cs : List Str} {f c : Str} {n : Nat} {d : D} {S : Store} {ns : List Str} {ds : List D} (hS : S[n]? = some (.ins c ns ds)) (hc : c ∈ cs) (hl : ns.length < 900) : setF cs f (.ref n) d S = some (S.set n (.ins c (putL f d ns ds).1 (putL f d ns ds).2)) := by
  simp [setF, hS, hc, hl]
theorem n_rn : ¬ ("row" : Str) = "names" := by decide +kernel
theorem n_rt : ¬ ("row" : Str) = "tokens" := by decide +kernel
theorem n_ri : ¬ ("row" : Str) = "index" := by decide +kernel
theorem n_nt : ¬ ("names" : Str) = "tokens" := by decide +kernel
theorem n_ni : ¬ ("names" : Str) = "index" := by decide +kernel
theorem n_ti : ¬ ("tokens" : Str) = "index" := by decide +kernel
theorem c_row : ("LineParser" : Str) ∈ cs_row := by decide +kernel
theorem c_names : ("LineParser" : Str) ∈ cs_names := by decide +kernel
theorem c_tokens : ("LineParser" : Str) ∈ cs_tokens := by decide +kernel
theorem c_index : ("LineParser" : Str) ∈ cs_index := by decide +kernel
theorem s_mkParser {l : List Nat} {row : Int} {ns : List Str} {fa : AM} {ρ : Env} {S S0 : Store} (hl : l.length < 2 ^ 24) (ha : Asc l) (hr : row.natAbs < 2 ^ 64) (h : fa ρ S = .ok [.str (sk l), .int row, .lst (ns.map .str)] S0) :
    match toksP (l.length + 1) l 1 0 with
    | .ok ts => Toks ts ∧ ∃ S', mMake "LineParser" 3 m_LineParser_init fa ρ S = .ok (.ref S0.length) S' ∧ S'[S0.length]? = some (parI row ns ts 0) ∧ Kp [] S0 S'
    | .error k => ∃ S', mMake "LineParser" 3 m_LineParser_init fa ρ S = .exn (syn row (k : Nat)) S' ∧ Kp [] S0 S' := by
  have e1 := setF_eq (cs := cs_row) (f := "row") (d := .int row) (last_get S0 (.ins "LineParser" [] [])) c_row (by simp)
  rw [last_set] at e1
  have p1 : putL "row" (.int row) [] [] = ((["row"], [.int row]) : List Str × List D) := rfl
  rw [p1] at e1
  have e2 := setF_eq (cs := cs_names) (f := "names") (d := .lst (ns.map .str)) (last_get S0 (.ins "LineParser" ["row"] [.int row])) c_names (by simp)
  rw [last_set] at e2
  have p2 : putL "names" (.lst (ns.map .str)) ["row"] [.int row] = ((["row", "names"], [.int row, .lst (ns.map .str)]) : List Str × List D) := by simp [putL, n_rn]
  rw [p2] at e2
  have tk := s_tokensOf (S0 ++ [.ins "LineParser" ["row", "names"] [.int row, .lst (ns.map .str)]]) hl ha hr
  have k0 : Kp [] S0 (S0 ++ [.ins "LineParser" ["row", "names"] [.int row, .lst (ns.map .str)]]) := Kp.app _ _ _
  cases q : toksP (l.length + 1) l 1 0 with
  | error k =>
    rw [q] at tk
    obtain ⟨S', t1, t2⟩ := tk
    refine ⟨S', ?_, k0.trans t2⟩
    unfold m_LineParser_init
    simp [h, e1, e2, t1]
  | ok ts =>
    rw [q] at tk
    obtain ⟨t0, S2, t1, t2⟩ := tk
    have hS2 := t2.get (last_get S0 (.ins "LineParser" ["row", "names"] [.int row, .lst (ns.map .str)])) (by simp)
    have hlt : S0.length < S2.length := (List.getElem?_eq_some_iff.mp hS2).1
    have e3 := setF_eq (cs := cs_tokens) (f := "tokens") (d := .lst (ts.map tokD)) hS2 c_tokens (by simp)
    have p3 : putL "tokens" (.lst (ts.map tokD)) ["row", "names"] [.int row, .lst (ns.map .str)] = ((["row", "names", "tokens"], [.int row, .lst (ns.map .str), .lst (ts.map tokD)]) : List Str × List D) := by simp [putL, n_rt, n_nt]
    rw [p3] at e3
    have hS3 : (S2.set S0.length (.ins "LineParser" ["row", "names", "tokens"] [.int row, .lst (ns.map .str), .lst (ts.map tokD)]))[S0.length]? = some (.ins "LineParser" ["row", "names", "tokens"] [.int row, .lst (ns.map .str), .lst (ts.map tokD)]) := List.getElem?_set_self hlt
    have e4 := setF_eq (cs := cs_index) (f := "index") (d := .int 0) hS3 c_index (by simp)
    have p4 : putL "index" (.int 0) ["row", "names", "tokens"] [.int row, .lst (ns.map .str), .lst (ts.map tokD)] = ((["row", "names", "tokens", "index"], [.int row, .lst (ns.map .str), .lst (ts.map tokD), .int 0]) : List Str × List D) := by simp [putL, n_ri, n_ni, n_ti]
    rw [p4, List.set_set] at e4
    refine ⟨t0, _, ?_, List.getElem?_set_self hlt, (k0.trans t2).then (Kp.set S2 _ (List.mem_singleton.mpr rfl)) fun v hv => .inr (by rw [List.mem_singleton.mp hv]; exact Nat.le_refl _)⟩
    unfold m_LineParser_init
    simp [h, e1, e2, t1, e3, e4, parI, parN]
section
variable {p i : Nat} {row : Int} {ns : List Str} {ts : List Tk} {S : Store}
theorem p_row (h : S[p]? = some (parI row ns ts i)) : fldD cs_row "row" (.ref p) S = .ok (.int row) S := fld_ref h c_row (by simp [getF, parN])
theorem p_names (h : S[p]? = some (parI row ns ts i)) : fldD cs_names "names" (.ref p) S = .ok (.lst (ns.map .str)) S := fld_ref h c_names (by simp [getF, parN, Ne.symm n_rn])
theorem p_tokens (h : S[p]? = some (parI row ns ts i)) : fldD cs_tokens "tokens" (.ref p) S = .ok (.lst (ts.map tokD)) S := fld_ref h c_tokens (by simp [getF, parN, Ne.symm n_rt, Ne.symm n_nt])
theorem p_index (h : S[p]? = some (parI row ns ts i)) : fldD cs_index "index" (.ref p) S = .ok (.int (i : Nat)) S := fld_ref h c_index (by simp [getF, parN, Ne.symm n_ri, Ne.symm n_ni, Ne.symm n_ti])
theorem p_at (h : S[p]? = some (parI row ns ts i)) : insOf (.ref p) S = some (("LineParser" : Str), parN) := by simp [insOf, h, parI]
theorem p_ins (h : S[p]? = some (parI row ns ts i)) : insAt (.ref p) S = some (("LineParser" : Str), parN, [.int row, .lst (ns.map .str), .lst (ts.map tokD), .int (i : Nat)]) := by simp [insAt, h, parI]
theorem no_peek : parN.contains "peek" = false := by decide +kernel
theorem no_fail : parN.contains "fail" = false := by decide +kernel
theorem no_take : parN.contains "take" = false := by decide +kernel
theorem no_accept : parN.contains "accept" = false := by decide +kernel
theorem no_sf : parN.contains "signed_fraction" = false := by decide +kernel
theorem no_line : parN.contains "straight_line" = false := by decide +kernel
theorem no_conds : parN.contains "conditions" = false := by decide +kernel
theorem no_rule : parN.contains "rule" = false := by decide +kernel
/-- a method of the parser at p -/
theorem meth_at {m : Str} {n : Nat} {md : List D → M D} {fo : EM} {fa : AM} {ρ : Env} {S0 S1 : Store} {ds : List D} (h : S[p]? = some (parI row ns ts i)) (hm : parN.contains m = false) (ho : fo ρ S0 = .ok (.ref p) S) (ha : fa ρ S = .ok ds S1) (hl : ds.length = n) :
    mMeth "LineParser" m n md fo fa ρ S0 = md (.ref p :: ds) S1 := by
  simp only [x_meth, ho, R.bind_ok, p_at h, hm, ha, if_pos hl]
  simp
theorem tkn_get (hi : i < ts.length) : ts[i]? = some (tkn ts i) := by
  unfold tkn
  rw [List.getD_eq_getElem?_getD, List.getElem?_eq_getElem hi]
  rfl
theorem s_peek (h : S[p]? = some (parI row ns ts i)) (hi : i < ts.length) : m_LineParser_peek [.ref p] S = .ok (tokD (tkn ts i)) S := by
  have e : atI (ts.map tokD) ((i : Nat) : Int) = some (tokD (tkn ts i)) := by
    rw [atI_nat, List.getElem?_map, tkn_get hi]; rfl
  unfold m_LineParser_peek
  simp [p_tokens h, p_index h, e]
theorem s_fail (h : S[p]? = some (parI row ns ts i)) (hr : row.natAbs < 2 ^ 64) (t : Tk) (hc : t.col < 2 ^ 40) : m_LineParser_fail [.ref p, tokD t] S = .exn (syn row (t.col : Nat)) S := by
  have ex := exc_syn (r := row) (c := (t.col : Nat)) S hr (by omega)
  unfold m_LineParser_fail
  simp [p_row h, t_col, ex]
/-- the parser goes on behind a token -/
theorem aug_index {ρ : Env} {fo : EM} (h : S[p]? = some (parI row ns ts i)) (ho : fo ρ S = .ok (.ref p) S) : mAugF cs_index "index" iaddD fo (mC (.int 1)) ρ S = .go .nx ρ (S.set p (parI row ns ts (i + 1))) := by
  have g : getF "index" parN [.int row, .lst (ns.map .str), .lst (ts.map tokD), .int (i : Nat)] = some (.int (i : Nat)) := by simp [getF, parN, Ne.symm n_ri, Ne.symm n_ni, Ne.symm n_ti]
  have e4 := setF_eq (cs := ["LineParser"]) (f := "index") (d := .int ((i : Int) + 1)) h (by simp) (by simp [parN])
  have p4 : putL "index" (.int ((i : Int) + 1)) parN [.int row, .lst (ns.map .str), .lst (ts.map tokD), .int (i : Nat)] = (parN, [.int row, .lst (ns.map .str), .lst (ts.map tokD), .int ((i : Int) + 1)]) := by simp [putL, parN, n_ri, n_ni, n_ti]
  rw [p4] at e4
  simp only [x_augF, ho, R.bind_ok, p_ins h, c_index, if_true, g, x_c, x_iadd, e4, R.to_ok]
  simp [parI]
theorem s_accept (h : S[p]? = some (parI row ns ts i)) (hi : i < ts.length) (k : K) (s : List Nat) : m_LineParser_accept [.ref p, .str (ks k), .str (sk s)] S = .ok (.bl (accP ts k s i).1) (S.set p (parI row ns ts (accP ts k s i).2)) := by
  have pk := meth_at (m := "peek") (n := 0) (md := m_LineParser_peek) (fo := mVar 0) (fa := mNil) (ρ := [some (.ref p), some (.str (ks k)), some (.str (sk s)), none]) (S0 := S) (S1 := S) h no_peek rfl rfl rfl
  rw [s_peek h hi] at pk
  have hs : S.set p (parI row ns ts i) = S := by
    apply List.ext_getElem?
    intro n
    by_cases hn : p = n
    · subst hn
      rw [List.getElem?_set_self (List.getElem?_eq_some_iff.mp h).1, h]
    · rw [List.getElem?_set_ne hn]
  have e1 : neD (.str (ks (tkn ts i).kind)) (.str (ks k)) S = .ok (.bl (!decide ((tkn ts i).kind = k))) S := by
    rw [← ks_beq]; rfl
  have e2 : neD (.str (sk (tkn ts i).sp)) (.str (sk s)) S = .ok (.bl (!decide ((tkn ts i).sp = s))) S := by
    rw [← sk_beq]; rfl
  have au := aug_index (ρ := [some (.ref p), some (.str (ks k)), some (.str (sk s)), some (tokD (tkn ts i))]) (fo := mVar 0) h rfl
  unfold m_LineParser_accept accP
  by_cases q1 : (tkn ts i).kind = k
  · rw [decide_eq_true q1] at e1
    by_cases q2 : (tkn ts i).sp = s
    · rw [decide_eq_true q2] at e2
      rw [if_pos ⟨q1, q2⟩]
      simp [-x_meth, pk, t_kind, t_spell, e1, e2, au, -x_augF]
    · rw [decide_eq_false q2] at e2
      rw [if_neg fun z => q2 z.2]
      simp [-x_meth, pk, t_kind, t_spell, e1, e2, hs]
  · rw [decide_eq_false q1] at e1
    rw [if_neg fun z => q1 z.1]
    simp [-x_meth, pk, t_kind, t_spell, e1, hs]
theorem s_take (h : S[p]? = some (parI row ns ts i)) (hi : i < ts.length) (hr : row.natAbs < 2 ^ 64) (hc : (tkn ts i).col < 2 ^ 40) (k : K) : m_LineParser_take [.ref p, .str (ks k)] S = match takeP ts k i with
    | .ok (t, j) => .ok (tokD t) (S.set p (parI row ns ts j))
    | .error c => .exn (syn row (c : Nat)) S := by
  have pk := meth_at (m := "peek") (n := 0) (md := m_LineParser_peek) (fo := mVar 0) (fa := mNil) (ρ := [some (.ref p), some (.str (ks k)), none]) (S0 := S) (S1 := S) h no_peek rfl rfl rfl
  rw [s_peek h hi] at pk
  have e1 : neD (.str (ks (tkn ts i).kind)) (.str (ks k)) S = .ok (.bl (!decide ((tkn ts i).kind = k))) S := by
    rw [← ks_beq]; rfl
  have au := aug_index (ρ := [some (.ref p), some (.str (ks k)), some (tokD (tkn ts i))]) (fo := mVar 0) h rfl
  have fl := meth_at (m := "fail") (n := 1) (md := m_LineParser_fail) (fo := mVar 0) (fa := mCons (mVar 2) mNil) (ρ := [some (.ref p), some (.str (ks k)), some (tokD (tkn ts i))]) (S0 := S) (S1 := S) (ds := [tokD (tkn ts i)]) h no_fail rfl rfl rfl
  rw [s_fail h hr _ hc] at fl
  unfold m_LineParser_take takeP
  by_cases q1 : (tkn ts i).kind = k
  · rw [decide_eq_true q1] at e1
    rw [if_pos q1]
    simp [-x_meth, pk, t_kind, e1, au, -x_augF]
  · rw [decide_eq_false q1] at e1
    rw [if_neg q1]
    simp [-x_meth, pk, t_kind, e1, fl]
end
end DL

/-! Plain laws: the parser's methods do what the plain functions say, 4: numbers, lines, conditions, rules. -/
namespace DL
open PySem PySem.Spec PyProof.Rows L2 TL
theorem Toks.cases {ts : List Tk} (T : Toks ts) {i : Nat} (hi : i < ts.length) : (i + 1 = ts.length ∧ (tkn ts i).kind = .fin ∧ (tkn ts i).col < 2 ^ 40) ∨ (i + 1 < ts.length ∧ (tkn ts i).kind ≠ .fin ∧ TkOk (tkn ts i)) := by
  obtain ⟨ts0, c, rfl, hc, h⟩ := T.ex
  by_cases q : i < ts0.length
  · right
    have e : tkn (ts0 ++ [⟨.fin, [], c⟩]) i = ts0[i] := by
      unfold tkn
      rw [List.getD_eq_getElem?_getD, List.getElem?_append_left q, List.getElem?_eq_getElem q]
      rfl
    rw [e]
    have := h _ (List.getElem_mem q)
    exact ⟨by simp; omega, this.1, this.2⟩
  · left
    have hl : i = ts0.length := by simp at hi; omega
    subst hl
    have e : tkn (ts0 ++ [⟨.fin, [], c⟩]) ts0.length = ⟨.fin, [], c⟩ := by
      unfold tkn
      rw [List.getD_eq_getElem?_getD, List.getElem?_append_right (Nat.le_refl _)]
      simp
    rw [e]
    exact ⟨by simp, rfl, hc⟩
theorem Toks.next {ts : List Tk} (T : Toks ts) {i : Nat} (hi : i < ts.length) (hk : (tkn ts i).kind ≠ .fin) : i + 1 < ts.length := by
  rcases T.cases hi with h | h
  · exact absurd h.2.1 hk
  · exact h.1
theorem Toks.ok {ts : List Tk} (T : Toks ts) {i : Nat} (hi : i < ts.length) (hk : (tkn ts i).kind ≠ .fin) : TkOk (tkn ts i) := by
  rcases T.cases hi with h | h
  · exact absurd h.2.1 hk
  · exact h.2.2
theorem Toks.col {ts : List Tk} (T : Toks ts) {i : Nat} (hi : i < ts.length) : (tkn ts i).col < 2 ^ 40 := by
  rcases T.cases hi with h | h
  · exact h.2.2
  · exact h.2.2.col
theorem acc_lt {ts : List Tk} (T : Toks ts) {i : Nat} (hi : i < ts.length) {k : K} (s : List Nat) (hk : k ≠ .fin) : (accP ts k s i).2 < ts.length := by
  unfold accP
  split
  · rename_i h
    exact T.next hi (by rw [h.1]; exact hk)
  · exact hi
theorem acc_t {ts : List Tk} {k : K} {s : List Nat} {i : Nat} (h : (accP ts k s i).1 = true) : (accP ts k s i).2 = i + 1 := by
  unfold accP at h ⊢
  split at h
  · rename_i z; rw [if_pos z]
  · cases h
theorem acc_f {ts : List Tk} {k : K} {s : List Nat} {i : Nat} (h : ¬ (accP ts k s i).1 = true) : (accP ts k s i).2 = i := by
  unfold accP at h ⊢
  split at h
  · exact absurd rfl h
  · rename_i z; rw [if_neg z]
theorem take_ok {ts : List Tk} (T : Toks ts) {i : Nat} (hi : i < ts.length) {k : K} {t : Tk} {j : Nat} (hk : k ≠ .fin) (h : takeP ts k i = .ok (t, j)) : j = i + 1 ∧ j < ts.length ∧ t.kind = k ∧ TkOk t := by
  unfold takeP at h
  split at h
  · rename_i z
    cases h
    have hn : (tkn ts i).kind ≠ .fin := by rw [z]; exact hk
    exact ⟨rfl, T.next hi hn, z, T.ok hi hn⟩
  · cases h
theorem digits_lt : ∀ (l : List Nat) (a : Nat), NumText.AllDigits l → l.foldl (fun acc c => acc * 10 + (c - 48)) a < (a + 1) * 10 ^ l.length
  | [], a, _ => by simp
  | c :: l, a, h => by
    have h1 := h.head
    have ih := digits_lt l (a * 10 + (c - 48)) h.tail
    rw [List.foldl_cons, List.length_cons, Nat.pow_succ]
    refine Nat.lt_of_lt_of_le ih ?_
    have h2 : (a * 10 + (c - 48) + 1) ≤ (a + 1) * 10 := by omega
    calc (a * 10 + (c - 48) + 1) * 10 ^ l.length ≤ ((a + 1) * 10) * 10 ^ l.length := Nat.mul_le_mul_right _ h2
      _ = (a + 1) * (10 ^ l.length * 10) := by rw [Nat.mul_assoc, Nat.mul_comm 10]
theorem val_lt {t : Tk} (h : TkOk t) (hk : t.kind = .num) : valT t < 10000 := by
  obtain ⟨h1, h2, h3⟩ := h.num hk
  have := digits_lt t.sp 0 h3
  have e : valT t = t.sp.foldl (fun acc c => acc * 10 + (c - 48)) 0 := rfl
  rw [e]
  refine Nat.lt_of_lt_of_le this ?_
  rw [Nat.zero_add, Nat.one_mul]
  exact Nat.le_trans (Nat.pow_le_pow_right (by decide) h2) (by decide)
theorem s_intT {t : Tk} (S : Store) (h : TkOk t) (hk : t.kind = .num) : intD (.str (sk t.sp)) S = .ok (.int (valT t : Nat)) S := by
  obtain ⟨h1, h2, h3⟩ := h.num hk
  have e := intText_digits (x := sk t.sp) h3 h1 (by rw [len_sk]; omega)
  have hl : (sk t.sp).length ≤ 640 := by rw [len_sk]; omega
  simp only [intD]
  rw [e]
  simp only
  rw [if_pos hl]
  rfl
section
variable {p i : Nat} {row : Int} {ns : List Str} {ts : List Tk} {S : Store}
theorem set_at {o : Ob} (h : S[p]? = some o) (o' : Ob) : (S.set p o')[p]? = some o' := List.getElem?_set_self (List.getElem?_eq_some_iff.mp h).1
theorem lit_sym : ("symbol" : Str) = ks .sym := rfl
theorem lit_num : ("number" : Str) = ks .num := rfl
theorem lit_name : ("name" : Str) = ks .name := rfl
theorem lit_word : ("word" : Str) = ks .word := rfl
theorem lit_minus : ("-" : Str) = sk [45] := by decide +kernel
theorem lit_slash : ("/" : Str) = sk [47] := by decide +kernel
theorem lit_and : ("and" : Str) = sk wAnd := by decide +kernel
theorem lit_where : ("where" : Str) = sk wWhere := by decide +kernel
theorem lit_line : ("line" : Str) = sk wLine := by decide +kernel
theorem lit_drift : ("drift" : Str) = sk wDrift := by decide +kernel
/-- accept, as it is called -/
theorem c_accept {ρ : Env} {S0 : Store} {fo : EM} {a b : Str} {k : K} {s : List Nat} (h : S[p]? = some (parI row ns ts i)) (hi : i < ts.length) (ho : fo ρ S0 = .ok (.ref p) S) (ha : a = ks k) (hb : b = sk s) :
    mMeth "LineParser" "accept" 2 m_LineParser_accept fo (mCons (mC (.str a)) (mCons (mC (.str b)) mNil)) ρ S0 = .ok (.bl (accP ts k s i).1) (S.set p (parI row ns ts (accP ts k s i).2)) := by
  subst ha hb
  rw [meth_at (m := "accept") (n := 2) (ds := [.str (ks k), .str (sk s)]) (S1 := S) h no_accept ho rfl rfl]
  exact s_accept h hi k s
theorem c_take {ρ : Env} {S0 : Store} {fo : EM} {a : Str} {k : K} (T : Toks ts) (hr : row.natAbs < 2 ^ 64) (h : S[p]? = some (parI row ns ts i)) (hi : i < ts.length) (ho : fo ρ S0 = .ok (.ref p) S) (ha : a = ks k) :
    mMeth "LineParser" "take" 1 m_LineParser_take fo (mCons (mC (.str a)) mNil) ρ S0 = match takeP ts k i with
    | .ok (t, j) => .ok (tokD t) (S.set p (parI row ns ts j))
    | .error c => .exn (syn row (c : Nat)) S := by
  subst ha
  rw [meth_at (m := "take") (n := 1) (ds := [.str (ks k)]) (S1 := S) h no_take ho rfl rfl]
  exact s_take h hi hr (T.col hi) k
theorem c_fail {ρ : Env} {S0 : Store} {fo fe : EM} {t : Tk} (hr : row.natAbs < 2 ^ 64) (h : S[p]? = some (parI row ns ts i)) (ho : fo ρ S0 = .ok (.ref p) S) (he : fe ρ S = .ok (tokD t) S) (hc : t.col < 2 ^ 40) :
    mMeth "LineParser" "fail" 1 m_LineParser_fail fo (mCons fe mNil) ρ S0 = .exn (syn row (t.col : Nat)) S := by
  rw [meth_at (m := "fail") (n := 1) (ds := [tokD t]) (S1 := S) h no_fail ho (by simp [he]) rfl]
  exact s_fail h hr t hc
theorem c_peek {ρ : Env} {S0 : Store} {fo : EM} (h : S[p]? = some (parI row ns ts i)) (hi : i < ts.length) (ho : fo ρ S0 = .ok (.ref p) S) :
    mMeth "LineParser" "peek" 0 m_LineParser_peek fo mNil ρ S0 = .ok (tokD (tkn ts i)) S := by
  rw [meth_at (m := "peek") (n := 0) (ds := []) (S1 := S) h no_peek ho rfl rfl]
  exact s_peek h hi
def sgn (b : Bool) (a : Nat) : Int := if b = true then -(a : Int) else a
theorem sf_end {neg : Bool} {a b : Nat} {ρ : Env} (S : Store) (h1 : ρ[1]? = some (some (.bl neg))) (h2 : ρ[2]? = some (some (.int (a : Nat)))) (h3 : ρ[3]? = some (some (.int (b : Nat)))) (hb : b ≠ 0) (la : a < 10000) (lb : b < 10000) :
    mCall 2 m_fraction (mCons (mIf (mB (mVar 1)) (mUn negD (mVar 2)) (mVar 2)) (mCons (mVar 3) mNil)) ρ S = .ok (fr (Rat.divInt (sgn neg a) b)) S ∧ RS 14 (Rat.divInt (sgn neg a) b) := by
  have sb : Sz 14 (b : Int) := by unfold Sz; omega
  have sa : Sz 14 (sgn neg a) := by unfold Sz sgn; split <;> omega
  have f := s_fraction (n := 14) (t := sgn neg a) (b := (b : Int)) S (by omega) sb (by decide)
  refine ⟨?_, RS.divInt sa sb (by decide)⟩
  cases neg with
  | true =>
    have f' : m_fraction [.int (-(a : Int)), .int (b : Nat)] S = .ok (fr (Rat.divInt (sgn true a) b)) S := f
    simp [h1, h2, h3, f']
  | false =>
    have f' : m_fraction [.int (a : Int), .int (b : Nat)] S = .ok (fr (Rat.divInt (sgn false a) b)) S := f
    simp [h1, h2, h3, f']
theorem s_sf (T : Toks ts) (h : S[p]? = some (parI row ns ts i)) (hi : i < ts.length) (hr : row.natAbs < 2 ^ 64) : match sfP ts i with
    | .ok (q, j) => m_LineParser_signed_fraction [.ref p] S = .ok (fr q) (S.set p (parI row ns ts j)) ∧ j < ts.length ∧ RS 14 q
    | .error c => ∃ j, m_LineParser_signed_fraction [.ref p] S = .exn (syn row (c : Nat)) (S.set p (parI row ns ts j)) := by
  have ac := c_accept (ρ := [some (.ref p), none, none, none, none]) (fo := mVar 0) (S0 := S) (k := .sym) (s := [45]) h hi rfl lit_sym lit_minus
  have hi1 := acc_lt T hi (k := .sym) [45] (by intro z; cases z)
  unfold sfP
  generalize (accP ts .sym [45] i).1 = neg at *
  generalize (accP ts .sym [45] i).2 = i1 at *
  have hS1 := set_at h (parI row ns ts i1)
  have tk := c_take (ρ := [some (.ref p), some (.bl neg), none, none, none]) (fo := mVar 0) (S0 := S.set p (parI row ns ts i1)) (k := .num) T hr hS1 hi1 rfl lit_num
  unfold m_LineParser_signed_fraction
  cases q1 : takeP ts .num i1 with
  | error c =>
    rw [q1] at tk
    refine ⟨i1, ?_⟩
    simp [-x_meth, ac, tk]
  | ok tj =>
    obtain ⟨t, j⟩ := tj
    rw [q1] at tk
    simp only [List.set_set] at tk ⊢
    obtain ⟨rfl, hj, hk, hok⟩ := take_ok T hi1 (by intro z; cases z) q1
    have hS2 := set_at h (parI row ns ts (i1 + 1))
    have sl := c_accept (ρ := [some (.ref p), some (.bl neg), some (.int (valT t : Nat)), some (.int 1), none]) (fo := mVar 0) (S0 := S.set p (parI row ns ts (i1 + 1))) (k := .sym) (s := [47]) hS2 hj rfl lit_sym lit_slash
    have lt1 := val_lt hok hk
    by_cases q2 : (accP ts .sym [47] (i1 + 1)).1 = true
    · rw [if_pos q2]
      rw [q2, acc_t q2, List.set_set] at sl
      have hj2 := acc_lt T hj (k := .sym) [47] (by intro z; cases z)
      rw [acc_t q2] at hj2
      have hS3 := set_at h (parI row ns ts (i1 + 1 + 1))
      have tk2 := c_take (ρ := [some (.ref p), some (.bl neg), some (.int (valT t : Nat)), some (.int 1), none]) (fo := mVar 0) (S0 := S.set p (parI row ns ts (i1 + 1 + 1))) (k := .num) T hr hS3 hj2 rfl lit_num
      cases q3 : takeP ts .num (i1 + 1 + 1) with
      | error c =>
        rw [q3] at tk2
        refine ⟨i1 + 1 + 1, ?_⟩
        simp [-x_meth, ac, tk, t_spell, one, s_intT _ hok hk, sl, tk2]
      | ok ul =>
        obtain ⟨u, l⟩ := ul
        rw [q3] at tk2
        simp only [List.set_set] at tk2 ⊢
        obtain ⟨rfl, hl, hku, hoku⟩ := take_ok T hj2 (by intro z; cases z) q3
        have lt2 := val_lt hoku hku
        have hS4 := set_at h (parI row ns ts (i1 + 1 + 1 + 1))
        have fl := c_fail (ρ := [some (.ref p), some (.bl neg), some (.int (valT t : Nat)), some (.int (valT u : Nat)), some (tokD u)]) (fo := mVar 0) (fe := mVar 4) (t := u) (S0 := S.set p (parI row ns ts (i1 + 1 + 1 + 1))) hr hS4 rfl rfl hoku.col
        by_cases q4 : valT u = 0
        · rw [if_pos q4]
          refine ⟨i1 + 1 + 1 + 1, ?_⟩
          have q4' : ((valT u : Int) == 0) = true := by rw [q4]; rfl
          simp [-x_meth, ac, tk, t_spell, one, s_intT _ hok hk, s_intT _ hoku hku, sl, tk2, q4', fl]
        · rw [if_neg q4]
          have q4' : ((valT u : Int) == 0) = false := by rw [beq_eq_false_iff_ne]; omega
          obtain ⟨e1, e2⟩ := sf_end (neg := neg) (a := valT t) (b := valT u) (ρ := [some (.ref p), some (.bl neg), some (.int (valT t : Nat)), some (.int (valT u : Nat)), some (tokD u)]) (S.set p (parI row ns ts (i1 + 1 + 1 + 1))) rfl rfl rfl q4 lt1 lt2
          refine ⟨?_, hl, e2⟩
          simp [-x_meth, -x_call, ac, tk, t_spell, one, s_intT _ hok hk, s_intT _ hoku hku, sl, tk2, q4', e1]
          rfl
    · rw [if_neg q2]
      have q2' : (accP ts .sym [47] (i1 + 1)).1 = false := by simpa using q2
      rw [q2', acc_f q2, List.set_set] at sl
      obtain ⟨e1, e2⟩ := sf_end (neg := neg) (a := valT t) (b := 1) (ρ := [some (.ref p), some (.bl neg), some (.int (valT t : Nat)), some (.int 1), none]) (S.set p (parI row ns ts (i1 + 1))) rfl rfl rfl (by decide) lt1 (by decide)
      refine ⟨?_, hj, e2⟩
      simp [-x_meth, -x_call, ac, tk, t_spell, one, s_intT _ hok hk, sl, e1]
      rfl
end
end DL

/-! Plain laws: the parser's methods do what the plain functions say, 5: lines. -/
namespace DL
open PySem PySem.Spec PyProof.Rows L2 TL
theorem fr_zero : k_ZERO = fr 0 := rfl
theorem sub_zero_iff (x y : Rat) : (x - y = 0) ↔ x = y := by
  constructor
  · intro h
    have e : x - y + y = 0 + y := by rw [h]
    rw [Rat.sub_eq_add_neg, Rat.add_assoc, Rat.neg_add_cancel, Rat.add_zero, Rat.zero_add] at e
    exact e
  · intro h
    subst h
    rw [Rat.sub_eq_add_neg, Rat.add_neg_cancel]
theorem s_isSame {n : Nat} {a b c : Rat} {l : Ln} (S : Store) (h1 : RS n a) (h2 : RS n b) (h3 : RS n c) (h4 : RS n l.a) (h5 : RS n l.b) (h6 : RS n l.c) (hn : n < 2000) : m_is_same_line [.tup [fr a, fr b, fr c], .tup [fr l.a, fr l.b, fr l.c]] S = .ok (.bl (sameP a b c l)) S := by
  have p1 := s_times S h1 h5 (by omega)
  have p2 := s_times S h2 h4 (by omega)
  have p3 := s_times S h1 h6 (by omega)
  have p4 := s_times S h3 h4 (by omega)
  have p5 := s_times S h2 h6 (by omega)
  have p6 := s_times S h3 h5 (by omega)
  have q1 := s_minus S (h1.mul h5) (h2.mul h4) (by omega)
  have q2 := s_minus S (h1.mul h6) (h3.mul h4) (by omega)
  have q3 := s_minus S (h2.mul h6) (h3.mul h5) (by omega)
  unfold m_is_same_line
  have e1 : ∀ q : Rat, eqD (fr q) k_ZERO S = .ok (.bl (decide (q = 0))) S := fun q => by rw [fr_zero]; exact x_eqFr _ _ _
  simp [sizeLine, e_is_same_line_1, mLcL, p1, p2, p3, p4, p5, p6, q1, q2, q3, e1, fzL, wipeD, one, allD, blsOf, blOf, sub_zero_iff, sameP, Bool.and_assoc]
structure LnS (l : Ln) : Prop where
  a : RS 14 l.a
  b : RS 14 l.b
  c : RS 14 l.c
theorem blsOf_map (f : Ln → Bool) : ∀ ls : List Ln, blsOf (ls.map fun l => D.bl (f l)) = some (ls.map f)
  | [] => rfl
  | l :: ls => by simp [blsOf, blOf, blsOf_map f ls]
section
variable {p q i : Nat} {row : Int} {ns : List Str} {ts : List Tk} {S : Store} {ls : List Ln}
theorem c_sf {ρ : Env} {S0 : Store} {fo : EM} (h : S[p]? = some (parI row ns ts i)) (ho : fo ρ S0 = .ok (.ref p) S) :
    mMeth "LineParser" "signed_fraction" 0 m_LineParser_signed_fraction fo mNil ρ S0 = m_LineParser_signed_fraction [.ref p] S :=
  meth_at (m := "signed_fraction") (n := 0) (ds := []) (S1 := S) h no_sf ho rfl rfl
/-- is there a line in the same place? -/
theorem s_any {ρ : Env} {a b c : Rat} (hS : S[q]? = some (.lst (ls.map Ln.d))) (hl : ls.length ≤ 6) (hs : ∀ l ∈ ls, LnS l) (h1 : RS 14 a) (h2 : RS 14 b) (h3 : RS 14 c) (hv : ρ[1]? = some (some (.ref q))) (e3 : ρ[3]? = some (some (fr a))) (e5 : ρ[5]? = some (some (fr b))) (e6 : ρ[6]? = some (some (fr c))) (h7 : 7 < ρ.length) :
    mLcS fzL [7] (mVar 1) (gN 7) mYes e_LineParser_straight_line_1 ρ S = .ok (.lst (ls.map fun l => .bl (sameP a b c l))) S := by
  have w : wipeD ρ [7] = ρ.set 7 none := rfl
  have hw : 7 < (ρ.set 7 none).length := by simpa using h7
  have lc := s_lcs (p := q) (i := 1) (all := ls.map Ln.d) (vs := [7]) (gm := gN 7) (te := e_LineParser_straight_line_1) (ρ := ρ) (S := S) (f := fun d => match d with
    | .tup [.str nm, .tup [.int x, .int x'], .tup [.int y, .int y'], .tup [.int z, .int z']] => .bl (sameP a b c ⟨nm, Rat.divInt x x', Rat.divInt y y', Rat.divInt z z'⟩)
    | d => d) hv hS (by rw [List.length_map, show sizeLine = 16777216 from rfl]; omega) (fun d hd => by
    obtain ⟨l, hm, rfl⟩ := List.mem_map.mp hd
    refine ⟨_, rfl, ?_⟩
    rw [w]
    have g : ((ρ.set 7 none).set 7 (some l.d)) = ρ.set 7 (some l.d) := by rw [List.set_set]
    rw [g]
    have g3 : (ρ.set 7 (some l.d))[3]? = some (some (fr a)) := by rw [List.getElem?_set_ne (by decide)]; exact e3
    have g5 : (ρ.set 7 (some l.d))[5]? = some (some (fr b)) := by rw [List.getElem?_set_ne (by decide)]; exact e5
    have g6 : (ρ.set 7 (some l.d))[6]? = some (some (fr c)) := by rw [List.getElem?_set_ne (by decide)]; exact e6
    have g7 : (ρ.set 7 (some l.d))[7]? = some (some l.d) := List.getElem?_set_self h7
    have c1 : cutD [.str l.nm, fr l.a, fr l.b, fr l.c] (some 1) none = [fr l.a, fr l.b, fr l.c] := rfl
    have sm := s_isSame (l := l) S h1 h2 h3 (hs l hm).a (hs l hm).b (hs l hm).c (by decide)
    have el : (⟨l.nm, Rat.divInt l.a.num l.a.den, Rat.divInt l.b.num l.b.den, Rat.divInt l.c.num l.c.den⟩ : Ln) = l := by
      simp only [Rat.num_divInt_den]
    show e_LineParser_straight_line_1 (ρ.set 7 (some l.d)) S = .ok (.bl (sameP a b c ⟨l.nm, Rat.divInt l.a.num l.a.den, Rat.divInt l.b.num l.b.den, Rat.divInt l.c.num l.c.den⟩)) S
    rw [el]
    simp [e_LineParser_straight_line_1, e3, e5, e6, h7, mPart, Ln.d, slD, c1, sm, sizeLine])
  have em : (ls.map Ln.d).map (fun d => match d with
    | .tup [.str nm, .tup [.int x, .int x'], .tup [.int y, .int y'], .tup [.int z, .int z']] => D.bl (sameP a b c ⟨nm, Rat.divInt x x', Rat.divInt y y', Rat.divInt z z'⟩)
    | d => d) = ls.map fun l => D.bl (sameP a b c l) := by
    rw [List.map_map]
    apply List.map_congr_left
    intro l _
    show D.bl (sameP a b c ⟨l.nm, Rat.divInt l.a.num l.a.den, Rat.divInt l.b.num l.b.den, Rat.divInt l.c.num l.c.den⟩) = _
    simp only [Rat.num_divInt_den]
  rw [em] at lc
  exact lc
theorem any_bls (f : Ln → Bool) (S : Store) : anyD (.lst (ls.map fun l => D.bl (f l))) S = .ok (.bl (ls.any f)) S := by
  simp [anyD, blsOf_map]
theorem get_ne {o : Ob} {x : Ob} (h : S[q]? = some o) (hq : q ≠ p) : (S.set p x)[q]? = some o := by
  rw [List.getElem?_set_ne (Ne.symm hq)]; exact h
theorem lit_fin : k_END = .str (ks .fin) := rfl
theorem c_takeE {ρ : Env} {S0 : Store} {fo : EM} (T : Toks ts) (hr : row.natAbs < 2 ^ 64) (h : S[p]? = some (parI row ns ts i)) (hi : i < ts.length) (ho : fo ρ S0 = .ok (.ref p) S) :
    mMeth "LineParser" "take" 1 m_LineParser_take fo (mCons (mC k_END) mNil) ρ S0 = match takeP ts .fin i with
    | .ok (t, j) => .ok (tokD t) (S.set p (parI row ns ts j))
    | .error c => .exn (syn row (c : Nat)) S := by
  rw [lit_fin]
  exact c_take T hr h hi ho rfl
theorem s_line (T : Toks ts) (h : S[p]? = some (parI row ns ts i)) (hi : i < ts.length) (hr : row.natAbs < 2 ^ 64) (hq : S[q]? = some (.lst (ls.map Ln.d))) (hpq : q ≠ p) (hl : ls.length ≤ 6) (hs : ∀ l ∈ ls, LnS l) (hn : ∀ x ∈ ns, PyData.strOk x = true) : match lineP ts ns ls i with
    | .ok (l, _) => ∃ j, m_LineParser_straight_line [.ref p, .ref q] S = .ok l.d (S.set p (parI row ns ts j)) ∧ LnS l ∧ ¬ (l.a = 0 ∧ l.b = 0) ∧ Asc (tl l.nm)
    | .error c => ∃ j, m_LineParser_straight_line [.ref p, .ref q] S = .exn (syn row (c : Nat)) (S.set p (parI row ns ts j)) := by
  have set_id : S.set p (parI row ns ts i) = S := by
    apply List.ext_getElem?
    intro n
    by_cases hn : p = n
    · subst hn
      rw [List.getElem?_set_self (List.getElem?_eq_some_iff.mp h).1, h]
    · rw [List.getElem?_set_ne hn]
  have tk := c_take (ρ := [some (.ref p), some (.ref q), none, none, none, none, none, none]) (fo := mVar 0) (S0 := S) (k := .name) T hr h hi rfl lit_name
  unfold m_LineParser_straight_line lineP
  cases q1 : takeP ts .name i with
  | error c =>
    rw [q1] at tk
    refine ⟨i, ?_⟩
    rw [set_id]
    simp [-x_meth, tk]
  | ok tj =>
    obtain ⟨t, i1⟩ := tj
    rw [q1] at tk
    simp only at tk ⊢
    obtain ⟨e1, hj1, hk, hok⟩ := take_ok T hi (by intro z; cases z) q1
    have hS1 := set_at h (parI row ns ts i1)
    have hq1 := get_ne (x := parI row ns ts i1) hq hpq
    have iN := in_strsL (x := sk t.sp) (l := ns) (S.set p (parI row ns ts i1)) (Asc.ok hok.sm) hn
    have ln : lenD (.ref q) (S.set p (parI row ns ts i1)) = .ok (.int (ls.length : Nat)) (S.set p (parI row ns ts i1)) := by
      simp [lenD, lstOf, hq1]
    have fl := c_fail (ρ := [some (.ref p), some (.ref q), some (tokD t), none, none, none, none, none]) (fo := mVar 0) (fe := mVar 2) (t := t) (S0 := S.set p (parI row ns ts i1)) hr hS1 rfl rfl hok.col
    by_cases q2 : sk t.sp ∈ ns ∨ ls.length = 6
    · rw [if_pos q2]
      refine ⟨i1, ?_⟩
      by_cases q3 : sk t.sp ∈ ns
      · rw [decide_eq_true q3] at iN
        simp [-x_meth, tk, t_spell, p_names hS1, iN, fl]
      · rw [decide_eq_false q3] at iN
        have q4 : ((ls.length : Int) == 6) = true := by
          have := q2.resolve_left q3
          rw [this]; rfl
        simp [-x_meth, tk, t_spell, p_names hS1, iN, one, ln, k_MAX_LINES, q4, fl]
    · rw [if_neg q2]
      have q3 : ¬ sk t.sp ∈ ns := fun z => q2 (.inl z)
      have q4 : ((ls.length : Int) == 6) = false := by
        rw [beq_eq_false_iff_ne]
        intro z
        exact q2 (.inr (by omega))
      rw [decide_eq_false q3] at iN
      have sa := s_sf T hS1 hj1 hr
      have ca := c_sf (ρ := [some (.ref p), some (.ref q), some (tokD t), none, none, none, none, none]) (fo := mVar 0) (S0 := S.set p (parI row ns ts i1)) hS1 rfl
      cases q5 : sfP ts i1 with
      | error c =>
        rw [q5] at sa
        obtain ⟨j, sa⟩ := sa
        rw [sa, List.set_set] at ca
        refine ⟨j, ?_⟩
        simp [-x_meth, tk, t_spell, p_names hS1, iN, one, ln, k_MAX_LINES, q4, ca]
      | ok aj =>
        obtain ⟨a, i2⟩ := aj
        rw [q5] at sa
        obtain ⟨sa, hi2, ra⟩ := sa
        rw [sa, List.set_set] at ca
        simp only
        have hS2 := set_at h (parI row ns ts i2)
        have pk := c_peek (ρ := [some (.ref p), some (.ref q), some (tokD t), some (fr a), none, none, none, none]) (fo := mVar 0) (S0 := S.set p (parI row ns ts i2)) hS2 hi2 rfl
        have sb := s_sf T hS2 hi2 hr
        have cb := c_sf (ρ := [some (.ref p), some (.ref q), some (tokD t), some (fr a), some (tokD (tkn ts i2)), none, none, none]) (fo := mVar 0) (S0 := S.set p (parI row ns ts i2)) hS2 rfl
        cases q6 : sfP ts i2 with
        | error c =>
          rw [q6] at sb
          obtain ⟨j, sb⟩ := sb
          rw [sb, List.set_set] at cb
          refine ⟨j, ?_⟩
          simp [-x_meth, tk, t_spell, p_names hS1, iN, one, ln, k_MAX_LINES, q4, ca, pk, cb]
        | ok bj =>
          obtain ⟨b, i3⟩ := bj
          rw [q6] at sb
          obtain ⟨sb, hi3, rb⟩ := sb
          rw [sb, List.set_set] at cb
          simp only
          have hS3 := set_at h (parI row ns ts i3)
          have ch : mChain eqD eqD (mVar 3) (mVar 5) (mC k_ZERO) [some (.ref p), some (.ref q), some (tokD t), some (fr a), some (tokD (tkn ts i2)), some (fr b), none, none] (S.set p (parI row ns ts i3)) = .ok (.bl (decide (a = 0 ∧ b = 0))) (S.set p (parI row ns ts i3)) := by
            by_cases z : a = b
            · subst z
              simp [mChain, fr_zero]
            · have z' : ¬ (a = 0 ∧ b = 0) := fun w => z (w.1.trans w.2.symm)
              rw [decide_eq_false z']
              simp [mChain, z]
          have fb := c_fail (ρ := [some (.ref p), some (.ref q), some (tokD t), some (fr a), some (tokD (tkn ts i2)), some (fr b), none, none]) (fo := mVar 0) (fe := mVar 4) (t := tkn ts i2) (S0 := S.set p (parI row ns ts i3)) hr hS3 rfl rfl (T.col hi2)
          by_cases q7 : a = 0 ∧ b = 0
          · rw [if_pos q7]
            rw [decide_eq_true q7] at ch
            refine ⟨i3, ?_⟩
            simp [-x_meth, tk, t_spell, p_names hS1, iN, one, ln, k_MAX_LINES, q4, ca, pk, cb, ch, fb]
          · rw [if_neg q7]
            rw [decide_eq_false q7] at ch
            have pk3 := c_peek (ρ := [some (.ref p), some (.ref q), some (tokD t), some (fr a), some (tokD (tkn ts i2)), some (fr b), none, none]) (fo := mVar 0) (S0 := S.set p (parI row ns ts i3)) hS3 hi3 rfl
            have sc := s_sf T hS3 hi3 hr
            have cc := c_sf (ρ := [some (.ref p), some (.ref q), some (tokD t), some (fr a), some (tokD (tkn ts i3)), some (fr b), none, none]) (fo := mVar 0) (S0 := S.set p (parI row ns ts i3)) hS3 rfl
            cases q8 : sfP ts i3 with
            | error e =>
              rw [q8] at sc
              obtain ⟨j, sc⟩ := sc
              rw [sc, List.set_set] at cc
              refine ⟨j, ?_⟩
              simp [-x_meth, tk, t_spell, p_names hS1, iN, one, ln, k_MAX_LINES, q4, ca, pk, cb, ch, pk3, cc]
            | ok cj =>
              obtain ⟨c, i4⟩ := cj
              rw [q8] at sc
              obtain ⟨sc, hi4, rc⟩ := sc
              rw [sc, List.set_set] at cc
              simp only
              have hS4 := set_at h (parI row ns ts i4)
              have hq4 := get_ne (x := parI row ns ts i4) hq hpq
              have an := s_any (ρ := [some (.ref p), some (.ref q), some (tokD t), some (fr a), some (tokD (tkn ts i3)), some (fr b), some (fr c), none]) hq4 hl hs ra rb rc rfl rfl rfl rfl (by simp)
              have al := any_bls (ls := ls) (sameP a b c) (S.set p (parI row ns ts i4))
              have fc := c_fail (ρ := [some (.ref p), some (.ref q), some (tokD t), some (fr a), some (tokD (tkn ts i3)), some (fr b), some (fr c), none]) (fo := mVar 0) (fe := mVar 4) (t := tkn ts i3) (S0 := S.set p (parI row ns ts i4)) hr hS4 rfl rfl (T.col hi3)
              by_cases q9 : ls.any (sameP a b c) = true
              · rw [if_pos q9]
                rw [q9] at al
                refine ⟨i4, ?_⟩
                simp [-x_meth, tk, t_spell, p_names hS1, iN, one, ln, k_MAX_LINES, q4, ca, pk, cb, ch, pk3, cc, an, al, fc]
              · rw [if_neg q9]
                have q9' : ls.any (sameP a b c) = false := by simpa using q9
                rw [q9'] at al
                have te := c_takeE (ρ := [some (.ref p), some (.ref q), some (tokD t), some (fr a), some (tokD (tkn ts i3)), some (fr b), some (fr c), none]) (fo := mVar 0) (S0 := S.set p (parI row ns ts i4)) T hr hS4 hi4 rfl
                cases q10 : takeP ts .fin i4 with
                | error e =>
                  rw [q10] at te
                  refine ⟨i4, ?_⟩
                  simp [-x_meth, tk, t_spell, p_names hS1, iN, one, ln, k_MAX_LINES, q4, ca, pk, cb, ch, pk3, cc, an, al, te]
                | ok ej =>
                  obtain ⟨e, i5⟩ := ej
                  rw [q10] at te
                  simp only [List.set_set] at te ⊢
                  refine ⟨i5, ?_, ⟨ra, rb, rc⟩, q7, hok.sm⟩
                  simp [-x_meth, tk, t_spell, p_names hS1, iN, one, ln, k_MAX_LINES, q4, ca, pk, cb, ch, pk3, cc, an, al, te, sizeLine, Ln.d]
end
end DL

/-! Plain laws: the parser's methods do what the plain functions say, 6: conditions, rules. -/
namespace DL
open PySem PySem.Spec PyProof.Rows L2 TL
/-- the dict of the signs behind a name -/
def sgO (sg : List (List Nat × Int)) : Ob := .dct (sg.map fun x => .inr (sk x.1)) (sg.map fun x => .int x.2)
theorem getK_sg (s : List Nat) : ∀ sg : List (List Nat × Int), getK (sg.map fun x => Sum.inr (sk x.1)) (sg.map fun x => D.int x.2) (.inr (sk s)) = (sg.lookup s).map D.int
  | [] => rfl
  | (a, v) :: sg => by
    have ih := getK_sg s sg
    simp only [List.map_cons, getK, List.lookup_cons]
    by_cases h : s = a
    · subst h
      simp
    · have h1 : ¬ (Sum.inr (sk a) : Key) = .inr (sk s) := fun z => by
        injection z with z
        exact h (sk_inj z).symm
      have h2 : (s == a) = false := by simpa using h
      rw [if_neg h1, h2, ih]
section
variable {p d fd i : Nat} {row : Int} {ns : List Str} {ts : List Tk} {S : Store} {sg : List (List Nat × Int)}
theorem s_nhas (hd : S[d]? = some (sgO sg)) (s : List Nat) : nhasKD (.str (sk s)) (.ref d) S = .ok (.bl (!(sg.lookup s).isSome)) S := by
  simp [nhasKD, hasKD, hd, sgO, keyOf, getK_sg]
theorem s_dget (hd : S[d]? = some (sgO sg)) {s : List Nat} {v : Int} (h : sg.lookup s = some v) : dgetD (.ref d) (.str (sk s)) S = .ok (.int v) S := by
  simp [dgetD, hd, sgO, keyOf, getK_sg, h]
theorem names_of {ρ : Env} {acc : List (Str × Int)} (h2 : ρ[2]? = some (some (.ref fd))) (h6 : 6 < ρ.length) (hf : S[fd]? = some (.lst (acc.map cnd))) (hl : acc.length ≤ 100) :
    mLcS fzL [5, 6] (mVar 2) (gTupM 2 (gConsM (gN 5) (gConsM (gN 6) gNilM))) mYes e_LineParser_conditions_1 ρ S = .ok (.lst ((acc.map (·.1)).map .str)) S := by
  have w : wipeD ρ [5, 6] = (ρ.set 6 none).set 5 none := rfl
  have lc := s_lcs (p := fd) (i := 2) (all := acc.map cnd) (vs := [5, 6]) (gm := gTupM 2 (gConsM (gN 5) (gConsM (gN 6) gNilM))) (te := e_LineParser_conditions_1) (ρ := ρ) (S := S) (f := fun d => match d with
    | .tup [x, _] => x
    | d => d) h2 hf (by rw [List.length_map, show sizeLine = 16777216 from rfl]; omega) (fun d hd => by
    obtain ⟨c, hm, rfl⟩ := List.mem_map.mp hd
    refine ⟨((((ρ.set 6 none).set 5 none).set 5 (some (.str c.1))).set 6 (some (.int c.2))), by simp [cnd, w], ?_⟩
    have h5 : 5 < ρ.length := by omega
    show e_LineParser_conditions_1 _ S = .ok (.str c.1) S
    simp [e_LineParser_conditions_1, h5])
  have em : (acc.map cnd).map (fun d => match d with
    | .tup [x, _] => x
    | d => d) = (acc.map (·.1)).map D.str := by
    rw [List.map_map, List.map_map]; rfl
  rw [em] at lc
  exact lc
theorem conds_loop (T : Toks ts) (hr : row.natAbs < 2 ^ 64) (hn : ∀ x ∈ ns, PyData.strOk x = true) (h1 : p ≠ fd) (h2 : d ≠ p) (h3 : d ≠ fd) : ∀ (f : Nat) (acc : List (Str × Int)) (i : Nat) (S : Store) (x3 x4 x5 x6 : Option D), S[p]? = some (parI row ns ts i) → i < ts.length → ts.length ≤ i + f → S[fd]? = some (.lst (acc.map cnd)) → S[d]? = some (sgO sg) → acc.length ≤ i → (∀ c ∈ acc, c.1 ∈ ns) →
    match condsP ts ns sg f acc i with
    | .ok (cs, _) => ∃ (ρ' : Env) (S' : Store), mWhile t_LineParser_conditions_2 b_LineParser_conditions_3 [some (.ref p), some (.ref d), some (.ref fd), x3, x4, x5, x6] S = .go (.rt (.tup (cs.map cnd))) ρ' S' ∧ Kp [p, fd] S S' ∧ (∃ j, S'[p]? = some (parI row ns ts j)) ∧ (∀ c ∈ cs, c.1 ∈ ns) ∧ cs ≠ []
    | .error c => ∃ (ρ' : Env) (S' : Store), mWhile t_LineParser_conditions_2 b_LineParser_conditions_3 [some (.ref p), some (.ref d), some (.ref fd), x3, x4, x5, x6] S = .go (.ex (syn row (c : Nat))) ρ' S' ∧ Kp [p, fd] S S' := by
  intro f
  induction f with
  | zero => intro acc i S x3 x4 x5 x6 hS hi hf; omega
  | succ f ih =>
    intro acc i S x3 x4 x5 x6 hS hi hf hfd hd hacc hmem
    have hl61 := T.len
    rw [mWhile_eq]
    have tt : t_LineParser_conditions_2 [some (.ref p), some (.ref d), some (.ref fd), x3, x4, x5, x6] S = .ok true S := by simp [t_LineParser_conditions_2]
    rw [tt]
    simp only [R.to_ok, if_true]
    unfold condsP
    have tk := c_take (ρ := [some (.ref p), some (.ref d), some (.ref fd), x3, x4, x5, x6]) (fo := mVar 0) (S0 := S) (k := .name) T hr hS hi rfl lit_name
    cases q1 : takeP ts .name i with
    | error c =>
      rw [q1] at tk
      refine ⟨[some (.ref p), some (.ref d), some (.ref fd), x3, x4, x5, x6], S, ?_, Kp.refl _ _⟩
      simp [-x_meth, b_LineParser_conditions_3, tk]
    | ok tj =>
      obtain ⟨t, i1⟩ := tj
      rw [q1] at tk
      simp only at tk ⊢
      obtain ⟨e1, hj1, hk, hok⟩ := take_ok T hi (by intro z; cases z) q1
      have hS1 := set_at hS (parI row ns ts i1)
      have hf1 := get_ne (x := parI row ns ts i1) hfd (Ne.symm h1)
      have hd1 := get_ne (x := parI row ns ts i1) hd h2
      have kp1 : Kp [p, fd] S (S.set p (parI row ns ts i1)) := Kp.set _ _ (by simp)
      have hstr : PyData.strOk (sk t.sp) = true := Asc.ok hok.sm
      have iN := in_strsL (x := sk t.sp) (l := ns) (S.set p (parI row ns ts i1)) hstr hn
      have iA := in_strsL (x := sk t.sp) (l := acc.map (·.1)) (S.set p (parI row ns ts i1)) hstr (fun y hy => by
        obtain ⟨c, hc, rfl⟩ := List.mem_map.mp hy
        exact hn _ (hmem c hc))
      have nm := names_of (ρ := [some (.ref p), some (.ref d), some (.ref fd), some (tokD t), x4, x5, x6]) rfl (by simp) hf1 (by omega)
      generalize hL : (acc.map (·.1)).map D.str = L at nm iA
      have fl := c_fail (ρ := [some (.ref p), some (.ref d), some (.ref fd), some (tokD t), x4, x5, x6]) (fo := mVar 0) (fe := mVar 3) (t := t) (S0 := S.set p (parI row ns ts i1)) hr hS1 rfl rfl hok.col
      by_cases q2 : sk t.sp ∉ ns ∨ sk t.sp ∈ acc.map (·.1)
      · rw [if_pos q2]
        refine ⟨[some (.ref p), some (.ref d), some (.ref fd), some (tokD t), x4, x5, x6], _, ?_, kp1⟩
        by_cases q3 : sk t.sp ∈ ns
        · rw [decide_eq_true q3] at iN
          have q4 : sk t.sp ∈ acc.map (·.1) := q2.resolve_left (fun z => z q3)
          rw [decide_eq_true q4] at iA
          simp [-x_meth, b_LineParser_conditions_3, tk, t_spell, p_names hS1, niD, iN, nm, iA, fl]
        · rw [decide_eq_false q3] at iN
          simp [-x_meth, b_LineParser_conditions_3, tk, t_spell, p_names hS1, niD, iN, fl]
      · rw [if_neg q2]
        have q3 : sk t.sp ∈ ns := Classical.byContradiction fun z => q2 (.inl z)
        have q4 : ¬ sk t.sp ∈ acc.map (·.1) := fun z => q2 (.inr z)
        rw [decide_eq_true q3] at iN
        rw [decide_eq_false q4] at iA
        have tk2 := c_take (ρ := [some (.ref p), some (.ref d), some (.ref fd), some (tokD t), x4, x5, x6]) (fo := mVar 0) (S0 := S.set p (parI row ns ts i1)) (k := .sym) T hr hS1 hj1 rfl lit_sym
        cases q5 : takeP ts .sym i1 with
        | error c =>
          rw [q5] at tk2
          refine ⟨[some (.ref p), some (.ref d), some (.ref fd), some (tokD t), x4, x5, x6], _, ?_, kp1⟩
          simp [-x_meth, b_LineParser_conditions_3, tk, t_spell, p_names hS1, niD, iN, nm, iA, tk2]
        | ok uj =>
          obtain ⟨u, i2⟩ := uj
          rw [q5] at tk2
          simp only [List.set_set] at tk2 ⊢
          obtain ⟨e2, hj2, hku, hoku⟩ := take_ok T hj1 (by intro z; cases z) q5
          have hS2 := set_at hS (parI row ns ts i2)
          have hf2 := get_ne (x := parI row ns ts i2) hfd (Ne.symm h1)
          have hd2 := get_ne (x := parI row ns ts i2) hd h2
          have kp2 : Kp [p, fd] S (S.set p (parI row ns ts i2)) := Kp.set _ _ (by simp)
          have hh := s_nhas hd2 u.sp
          have fu := c_fail (ρ := [some (.ref p), some (.ref d), some (.ref fd), some (tokD t), some (tokD u), x5, x6]) (fo := mVar 0) (fe := mVar 4) (t := u) (S0 := S.set p (parI row ns ts i2)) hr hS2 rfl rfl hoku.col
          cases q6 : sg.lookup u.sp with
          | none =>
            rw [q6] at hh
            refine ⟨[some (.ref p), some (.ref d), some (.ref fd), some (tokD t), some (tokD u), x5, x6], _, ?_, kp2⟩
            simp [-x_meth, b_LineParser_conditions_3, tk, t_spell, p_names hS1, niD, iN, nm, iA, tk2, hh, fu]
          | some v =>
            rw [q6] at hh
            simp only
            have dg := s_dget hd2 q6
            have il : isL (.ref fd) (S.set p (parI row ns ts i2)) = true := by simp [isL, lstOf, hf2]
            have ap : appendD (.ref fd) [.tup [.str (sk t.sp), .int v]] (S.set p (parI row ns ts i2)) = .ok .non ((S.set p (parI row ns ts i2)).set fd (.lst ((acc ++ [(sk t.sp, v)]).map cnd))) := by
              simp [appendD, hf2, cnd]
              rw [show sizeLine = 16777216 from rfl]; omega
            have hS3 := get_ne (x := Ob.lst ((acc ++ [(sk t.sp, v)]).map cnd)) hS2 h1
            have hf3 := set_at hf2 (.lst ((acc ++ [(sk t.sp, v)]).map cnd))
            have hd3 := get_ne (x := Ob.lst ((acc ++ [(sk t.sp, v)]).map cnd)) hd2 h3
            have kp3 := kp2.trans (Kp.set (us := [p, fd]) (S.set p (parI row ns ts i2)) (.lst ((acc ++ [(sk t.sp, v)]).map cnd)) (u := fd) (by simp))
            generalize (S.set p (parI row ns ts i2)).set fd (.lst ((acc ++ [(sk t.sp, v)]).map cnd)) = S3 at *
            have ac := c_accept (ρ := [some (.ref p), some (.ref d), some (.ref fd), some (tokD t), some (tokD u), x5, x6]) (fo := mVar 0) (S0 := S3) (k := .word) (s := wAnd) hS3 hj2 rfl lit_word lit_and
            have hi3 := acc_lt T hj2 (k := .word) wAnd (by intro z; cases z)
            by_cases q7 : (accP ts .word wAnd i2).1 = true
            · rw [if_pos q7]
              rw [acc_t q7] at hi3
              rw [q7, acc_t q7] at ac
              have hS4 := set_at hS3 (parI row ns ts (i2 + 1))
              have rc := ih (acc ++ [(sk t.sp, v)]) (i2 + 1) (S3.set p (parI row ns ts (i2 + 1))) (some (tokD t)) (some (tokD u)) x5 x6 hS4 hi3 (by omega) (get_ne hf3 (Ne.symm h1)) (get_ne hd3 h2) (by simp; omega) (fun c hc => by
                rcases List.mem_append.mp hc with hc | hc
                · exact hmem c hc
                · rw [List.mem_singleton.mp hc]; exact q3)
              have kp4 := kp3.trans (Kp.set (us := [p, fd]) S3 (parI row ns ts (i2 + 1)) (u := p) (by simp))
              have B : b_LineParser_conditions_3 [some (.ref p), some (.ref d), some (.ref fd), x3, x4, x5, x6] S = .go .nx [some (.ref p), some (.ref d), some (.ref fd), some (tokD t), some (tokD u), x5, x6] (S3.set p (parI row ns ts (i2 + 1))) := by
                simp [-x_meth, b_LineParser_conditions_3, tk, t_spell, p_names hS1, niD, iN, nm, iA, tk2, hh, il, dg, sizeLine, ap, ac]
              rw [B]
              simp only
              cases q8 : condsP ts ns sg f (acc ++ [(sk t.sp, v)]) (i2 + 1) with
              | error c =>
                rw [q8] at rc
                obtain ⟨ρ', S', r1, r2⟩ := rc
                exact ⟨ρ', S', r1, kp4.trans r2⟩
              | ok cj =>
                obtain ⟨cs, j⟩ := cj
                rw [q8] at rc
                obtain ⟨ρ', S', r1, r2, r3⟩ := rc
                exact ⟨ρ', S', r1, kp4.trans r2, r3⟩
            · rw [if_neg q7]
              have q7' : (accP ts .word wAnd i2).1 = false := by simpa using q7
              rw [q7', acc_f q7] at ac
              have hs3 : S3.set p (parI row ns ts i2) = S3 := by
                apply List.ext_getElem?
                intro n
                by_cases hn : p = n
                · subst hn
                  rw [List.getElem?_set_self (List.getElem?_eq_some_iff.mp hS3).1, hS3]
                · rw [List.getElem?_set_ne hn]
              rw [hs3] at ac
              have te := c_takeE (ρ := [some (.ref p), some (.ref d), some (.ref fd), some (tokD t), some (tokD u), x5, x6]) (fo := mVar 0) (S0 := S3) T hr hS3 hj2 rfl
              cases q9 : takeP ts .fin i2 with
              | error c =>
                rw [q9] at te
                refine ⟨[some (.ref p), some (.ref d), some (.ref fd), some (tokD t), some (tokD u), x5, x6], S3, ?_, kp3⟩
                simp [-x_meth, b_LineParser_conditions_3, tk, t_spell, p_names hS1, niD, iN, nm, iA, tk2, hh, il, dg, sizeLine, ap, ac, te]
              | ok ej =>
                obtain ⟨e, i3⟩ := ej
                rw [q9] at te
                simp only at te ⊢
                have hf5 := get_ne (x := parI row ns ts i3) hf3 (Ne.symm h1)
                have tu : tupleD (.ref fd) (S3.set p (parI row ns ts i3)) = .ok (.tup ((acc ++ [(sk t.sp, v)]).map cnd)) (S3.set p (parI row ns ts i3)) := by
                  simp [tupleD, lstOf, hf5]
                refine ⟨[some (.ref p), some (.ref d), some (.ref fd), some (tokD t), some (tokD u), x5, x6], S3.set p (parI row ns ts i3), ?_, kp3.trans (Kp.set _ _ (by simp)), ⟨i3, set_at hS3 _⟩, (fun c hc => by
                  rcases List.mem_append.mp hc with hc | hc
                  · exact hmem c hc
                  · rw [List.mem_singleton.mp hc]; exact q3), by simp⟩
                simp [-x_meth, b_LineParser_conditions_3, tk, t_spell, p_names hS1, niD, iN, nm, iA, tk2, hh, il, dg, sizeLine, ap, ac, te, one, tu]
end
end DL

/-! Plain laws: the parser's methods do what the plain functions say, 7: rules, items. -/
namespace DL
open PySem PySem.Spec PyProof.Rows L2 TL
theorem lit_lt : ("<" : Str) = sk [60] := by decide +kernel
theorem lit_gt : (">" : Str) = sk [62] := by decide +kernel
structure RlS (r : Rl) (ns : List Str) : Prop where
  p : RS 14 r.p
  q : RS 14 r.q
  cs : ∀ c ∈ r.cs, c.1 ∈ ns
section
variable {p i : Nat} {row : Int} {ns : List Str} {ts : List Tk} {S : Store}
theorem s_conds (T : Toks ts) (hr : row.natAbs < 2 ^ 64) (hn : ∀ x ∈ ns, PyData.strOk x = true) (h : S[p]? = some (parI row ns ts i)) (hi : i < ts.length) {d : Nat} {sg : List (List Nat × Int)} (hd : S[d]? = some (sgO sg)) (hpd : d ≠ p) :
    match condsP ts ns sg 61 [] i with
    | .ok (cs, _) => ∃ S', m_LineParser_conditions [.ref p, .ref d] S = .ok (.tup (cs.map cnd)) S' ∧ Kp [p] S S' ∧ (∃ j, S'[p]? = some (parI row ns ts j)) ∧ (∀ c ∈ cs, c.1 ∈ ns) ∧ cs ≠ []
    | .error c => ∃ S', m_LineParser_conditions [.ref p, .ref d] S = .exn (syn row (c : Nat)) S' ∧ Kp [p] S S' := by
  have hp := (List.getElem?_eq_some_iff.mp h).1
  have hdl := (List.getElem?_eq_some_iff.mp hd).1
  have k0 : Kp [p] S (S ++ [.lst []]) := Kp.app _ _ _
  have lp := conds_loop (p := p) (d := d) (fd := S.length) (sg := sg) T hr hn (by omega) hpd (by omega) 61 [] i (S ++ [.lst []]) none none none none
    (by rw [List.getElem?_append_left hp]; exact h) hi (by have := T.len; omega) (by simp) (by rw [List.getElem?_append_left hdl]; exact hd) (by simp) (by simp)
  have hu : ∀ v ∈ [p, S.length], v ∈ [p] ∨ S.length ≤ v := fun v hv => by
    simp at hv
    rcases hv with rfl | rfl
    · exact .inl (by simp)
    · exact .inr (Nat.le_refl _)
  cases q : condsP ts ns sg 61 [] i with
  | error c =>
    rw [q] at lp
    obtain ⟨ρ', S', r1, r2⟩ := lp
    refine ⟨S', ?_, k0.then r2 hu⟩
    unfold m_LineParser_conditions
    simp [sizeLine, r1]
  | ok cj =>
    obtain ⟨cs, j⟩ := cj
    rw [q] at lp
    obtain ⟨ρ', S', r1, r2, r3⟩ := lp
    refine ⟨S', ?_, k0.then r2 hu, r3⟩
    unfold m_LineParser_conditions
    simp [sizeLine, r1]
theorem s_rule (T : Toks ts) (h : S[p]? = some (parI row ns ts i)) (hi : i < ts.length) (hr : row.natAbs < 2 ^ 64) (hn : ∀ x ∈ ns, PyData.strOk x = true) : match ruleP ts ns i with
    | .ok (r, _) => ∃ S', m_LineParser_rule [.ref p] S = .ok r.d S' ∧ Kp [p] S S' ∧ RlS r ns
    | .error c => ∃ S', m_LineParser_rule [.ref p] S = .exn (syn row (c : Nat)) S' ∧ Kp [p] S S' := by
  have sa := s_sf T h hi hr
  have ca := c_sf (ρ := [some (.ref p), none]) (fo := mVar 0) (S0 := S) h rfl
  unfold m_LineParser_rule ruleP
  cases q1 : sfP ts i with
  | error c =>
    rw [q1] at sa
    obtain ⟨j, sa⟩ := sa
    rw [sa] at ca
    refine ⟨_, ?_, Kp.set (u := p) S (parI row ns ts j) (by simp)⟩
    simp [-x_meth, ca]
  | ok aj =>
    obtain ⟨a, i1⟩ := aj
    rw [q1] at sa
    obtain ⟨sa, hi1, ra⟩ := sa
    rw [sa] at ca
    simp only
    have hS1 := set_at h (parI row ns ts i1)
    have sb := s_sf T hS1 hi1 hr
    have cb := c_sf (ρ := [some (.ref p), none]) (fo := mVar 0) (S0 := S.set p (parI row ns ts i1)) hS1 rfl
    cases q2 : sfP ts i1 with
    | error c =>
      rw [q2] at sb
      obtain ⟨j, sb⟩ := sb
      rw [sb, List.set_set] at cb
      refine ⟨_, ?_, Kp.set (u := p) S (parI row ns ts j) (by simp)⟩
      simp [-x_meth, ca, cb]
    | ok bj =>
      obtain ⟨b, i2⟩ := bj
      rw [q2] at sb
      obtain ⟨sb, hi2, rb⟩ := sb
      rw [sb, List.set_set] at cb
      simp only
      have hS2 := set_at h (parI row ns ts i2)
      have ac := c_accept (ρ := [some (.ref p), some (.tup [fr a, fr b])]) (fo := mVar 0) (S0 := S.set p (parI row ns ts i2)) (k := .word) (s := wWhere) hS2 hi2 rfl lit_word lit_where
      have hi3 := acc_lt T hi2 (k := .word) wWhere (by intro z; cases z)
      by_cases q3 : (accP ts .word wWhere i2).1 = true
      · rw [if_pos q3]
        rw [acc_t q3] at hi3
        rw [q3, acc_t q3, List.set_set] at ac
        have hS3 := set_at h (parI row ns ts (i2 + 1))
        have kp3 : Kp [p] S (S.set p (parI row ns ts (i2 + 1))) := Kp.set _ _ (by simp)
        generalize S.set p (parI row ns ts (i2 + 1)) = S3 at *
        have hp3 := (List.getElem?_eq_some_iff.mp hS3).1
        have dct : mDct [.inr "<", .inr ">"] [(mUn negD (mC (.int 1))), (mC (.int 1))] [some (.ref p), some (.tup [fr a, fr b])] S3 = .ok (.ref S3.length) (S3 ++ [sgO sg2]) := by
          simp [mDct, mVals, sgO, sg2, lit_lt, lit_gt]
        have hS4 : (S3 ++ [sgO sg2])[p]? = some (parI row ns ts (i2 + 1)) := by rw [List.getElem?_append_left hp3]; exact hS3
        have cc := s_conds T hr hn hS4 hi3 (d := S3.length) (sg := sg2) (by simp) (by omega)
        have me := meth_at (m := "conditions") (n := 1) (md := m_LineParser_conditions) (fo := mVar 0) (fa := mCons (mDct [.inr "<", .inr ">"] [(mUn negD (mC (.int 1))), (mC (.int 1))]) mNil) (ρ := [some (.ref p), some (.tup [fr a, fr b])]) (S0 := S3) (S1 := S3 ++ [sgO sg2]) (ds := [.ref S3.length]) hS3 no_conds rfl (by simp only [x_cons, dct, R.bind_ok, x_nil]) rfl
        have kp4 : Kp [p] S (S3 ++ [sgO sg2]) := kp3.trans (Kp.app _ _ _)
        cases q4 : condsP ts ns sg2 61 [] (i2 + 1) with
        | error c =>
          rw [q4] at cc
          obtain ⟨S', r1, r2⟩ := cc
          rw [r1] at me
          refine ⟨S', ?_, kp4.trans r2⟩
          simp [-x_meth, ca, cb, sizeLine, ac, me]
        | ok cj =>
          obtain ⟨cs, j⟩ := cj
          rw [q4] at cc
          obtain ⟨S', r1, r2, _, r3, r4⟩ := cc
          rw [r1] at me
          refine ⟨S', ?_, kp4.trans r2, ra, rb, r3⟩
          simp [-x_meth, ca, cb, sizeLine, ac, me, Rl.d]
      · rw [if_neg q3]
        have q3' : (accP ts .word wWhere i2).1 = false := by simpa using q3
        rw [q3', acc_f q3, List.set_set] at ac
        have te := c_takeE (ρ := [some (.ref p), some (.tup [fr a, fr b])]) (fo := mVar 0) (S0 := S.set p (parI row ns ts i2)) T hr hS2 hi2 rfl
        cases q4 : takeP ts .fin i2 with
        | error c =>
          rw [q4] at te
          refine ⟨_, ?_, Kp.set (u := p) S (parI row ns ts i2) (by simp)⟩
          simp [-x_meth, ca, cb, sizeLine, ac, te]
        | ok ej =>
          obtain ⟨e, i3⟩ := ej
          rw [q4] at te
          simp only [List.set_set] at te ⊢
          refine ⟨_, ?_, Kp.set (u := p) S (parI row ns ts i3) (by simp), ra, rb, by simp⟩
          simp [-x_meth, ca, cb, sizeLine, ac, te, Rl.d]
end
end DL

/-! Plain laws: the parser's methods do what the plain functions say, 8: the lines of a plan. -/
namespace DL
open PySem PySem.Spec PyProof.Rows L2 TL
theorem plain_fr' (n : Nat) (q : Rat) : plain (n + 1) (fr q) = true := by simp [fr, plain, plains]
theorem plain_cnds {n : Nat} : ∀ {cs : List (Str × Int)}, (∀ c ∈ cs, PyData.strOk c.1 = true) → plains (n + 1) (cs.map cnd) = true
  | [], _ => rfl
  | c :: cs, h => by
    have h1 := h c List.mem_cons_self
    have h2 := plain_cnds (n := n) (cs := cs) fun x hx => h x (List.mem_cons_of_mem _ hx)
    simp [plains, plain, cnd, h1, h2]
theorem plain_rls {n : Nat} {ns : List Str} (hn : ∀ x ∈ ns, PyData.strOk x = true) : ∀ {rs : List Rl}, (∀ r ∈ rs, RlS r ns) → plains (n + 4) (rs.map Rl.d) = true
  | [], _ => rfl
  | r :: rs, h => by
    have h1 := h r List.mem_cons_self
    have h2 := plain_rls (n := n) hn (rs := rs) fun x hx => h x (List.mem_cons_of_mem _ hx)
    have h3 := plain_cnds (n := n + 1) (cs := r.cs) fun c hc => hn _ (h1.cs c hc)
    simp only [List.map_cons, plains, h2, Bool.and_true]
    simp only [Rl.d, plain, plains, plain_fr', h3, Bool.and_self]
theorem eqB_nil : ∀ (l : List D), eqB (.lst l) (.lst []) = decide (l = []) ∧ eqB (.tup l) (.tup []) = decide (l = [])
  | [] => ⟨rfl, rfl⟩
  | d :: l => ⟨by simp [eqB, eqBs], by simp [eqB, eqBs]⟩
section
variable {R : Nat} {S : Store} {rs : List Rl} {ns : List Str}
theorem der_ref {l : List D} (h : S[R]? = some (.lst l)) : derD (.ref R) S = .lst l := by simp [derD, h]
theorem rules_ne (hR : S[R]? = some (.lst (rs.map Rl.d))) (hn : ∀ x ∈ ns, PyData.strOk x = true) (hs : ∀ r ∈ rs, RlS r ns) : neD (.ref R) (.lst []) S = .ok (.bl (!decide (rs = []))) S := by
  have h1 := plain_rls (n := 59) hn hs
  have h2 := (eqB_nil (rs.map Rl.d)).1
  simp [neD, der_ref hR, plain, h1, plains, h2]
theorem rules_eq (hR : S[R]? = some (.lst (rs.map Rl.d))) (hn : ∀ x ∈ ns, PyData.strOk x = true) (hs : ∀ r ∈ rs, RlS r ns) : eqD (.ref R) (.lst []) S = .ok (.bl (decide (rs = []))) S := by
  have h1 := plain_rls (n := 59) hn hs
  have h2 := (eqB_nil (rs.map Rl.d)).1
  simp [eqD, der_ref hR, plain, h1, plains, h2]
theorem atI_last {α : Type} {l : List α} {x : α} (h : l.getLast? = some x) : atI l (-1) = some x := by
  have hne : l ≠ [] := fun z => by subst z; simp at h
  have hl : 0 < l.length := List.length_pos_iff.mpr hne
  unfold atI ixN
  rw [if_neg (by omega), if_pos (by omega)]
  rw [List.getLast?_eq_getElem?] at h
  have e : ((-1 : Int) + (l.length : Int)).toNat = l.length - 1 := by omega
  show l[((-1 : Int) + (l.length : Int)).toNat]? = some x
  rw [e]; exact h
theorem conds_eq {r : Rl} (hn : ∀ x ∈ ns, PyData.strOk x = true) (hs : RlS r ns) : eqD (.tup (r.cs.map cnd)) (.tup []) S = .ok (.bl r.cs.isEmpty) S := by
  have h1 := plain_cnds (n := 62) (cs := r.cs) fun c hc => hn _ (hs.cs c hc)
  have h2 := (eqB_nil (r.cs.map cnd)).2
  have d1 : derD (.tup (r.cs.map cnd)) S = .tup (r.cs.map cnd) := rfl
  have d2 : derD (.tup []) S = .tup [] := rfl
  have h3 : decide (r.cs.map cnd = []) = r.cs.isEmpty := by cases r.cs <;> rfl
  rw [h3] at h2
  simp only [eqD, d1, d2, plain, h1, plains, Bool.and_self, if_true, h2]
theorem conds_ne {r : Rl} (hn : ∀ x ∈ ns, PyData.strOk x = true) (hs : RlS r ns) : neD (.tup (r.cs.map cnd)) (.tup []) S = .ok (.bl (!r.cs.isEmpty)) S := by
  have h1 := plain_cnds (n := 62) (cs := r.cs) fun c hc => hn _ (hs.cs c hc)
  have h2 := (eqB_nil (r.cs.map cnd)).2
  have d1 : derD (.tup (r.cs.map cnd)) S = .tup (r.cs.map cnd) := rfl
  have d2 : derD (.tup []) S = .tup [] := rfl
  have h3 : decide (r.cs.map cnd = []) = r.cs.isEmpty := by cases r.cs <;> rfl
  rw [h3] at h2
  simp only [neD, d1, d2, plain, h1, plains, Bool.and_self, if_true, h2]
theorem last_cs {r : Rl} (hR : S[R]? = some (.lst (rs.map Rl.d))) (h : rs.getLast? = some r) : ixD (.ref R) (.int (-1)) S = .ok r.d S := by
  have e : (rs.map Rl.d).getLast? = some r.d := by rw [List.getLast?_map, h]; rfl
  simp [ixD, lstOf, hR, atI_last e]
/-- has the last rule no conditions? -/
theorem s_ended {ρ : Env} (hR : S[R]? = some (.lst (rs.map Rl.d))) (hn : ∀ x ∈ ns, PyData.strOk x = true) (hs : ∀ r ∈ rs, RlS r ns) (h2 : ρ[2]? = some (some (.ref R))) :
    mAndV (mOp neD (mVar 2) (mLst mNil)) (mOp eqD (mOp ixD (mOp ixD (mVar 2) (mUn negD (mC (.int 1)))) (mC (.int 1))) (mTup mNil)) ρ S = .ok (.bl (endedP rs)) S := by
  have h1 := rules_ne hR hn hs
  cases q : rs.getLast? with
  | none =>
    have e : rs = [] := List.getLast?_eq_none_iff.mp q
    subst e
    simp [h2, sizeLine, h1, endedP]
  | some r =>
    have hm : r ∈ rs := List.mem_of_getLast? q
    have hne : ¬ rs = [] := fun z => by subst z; simp at q
    rw [decide_eq_false hne] at h1
    have h3 := last_cs hR q
    have h4 := conds_eq (S := S) hn (hs r hm)
    have e : endedP rs = r.cs.isEmpty := by unfold endedP; rw [q]
    rw [e]
    have h5 : ixD r.d (.int 1) S = .ok (.tup (r.cs.map cnd)) S := rfl
    simp [h2, sizeLine, h1, h3, h4, h5]
end
theorem names_lines {L : Nat} {S : Store} {ls : List Ln} {ρ : Env} (h1 : ρ[1]? = some (some (.ref L))) (h : S[L]? = some (.lst (ls.map Ln.d))) (hl : ls.length ≤ 6) (hρ : 12 < ρ.length) :
    mLcS fzL [9, 10, 11, 12] (mVar 1) (gTupM 4 (gConsM (gN 9) (gConsM (gN 10) (gConsM (gN 11) (gConsM (gN 12) gNilM))))) mYes e_parse_plan_1 ρ S = .ok (.lst ((ls.map (·.nm)).map .str)) S := by
  have lc := s_lcs (p := L) (i := 1) (all := ls.map Ln.d) (vs := [9, 10, 11, 12]) (gm := gTupM 4 (gConsM (gN 9) (gConsM (gN 10) (gConsM (gN 11) (gConsM (gN 12) gNilM))))) (te := e_parse_plan_1) (ρ := ρ) (S := S) (f := fun d => match d with
    | .tup (x :: _) => x
    | d => d) h1 h (by rw [List.length_map, show sizeLine = 16777216 from rfl]; omega) (fun d hd => by
    obtain ⟨l, hm, rfl⟩ := List.mem_map.mp hd
    refine ⟨(((((wipeD ρ [9, 10, 11, 12]).set 9 (some (.str l.nm))).set 10 (some (fr l.a))).set 11 (some (fr l.b))).set 12 (some (fr l.c))), by simp [Ln.d], ?_⟩
    have h9 : 9 < ρ.length := by omega
    show e_parse_plan_1 _ S = .ok (.str l.nm) S
    simp [e_parse_plan_1, wipeD, h9])
  have em : (ls.map Ln.d).map (fun d => match d with
    | .tup (x :: _) => x
    | d => d) = (ls.map (·.nm)).map D.str := by
    rw [List.map_map, List.map_map]; rfl
  rw [em] at lc
  exact lc
end DL

/-! Plain laws: the parser's methods do what the plain functions say, 9: one line of a plan. -/
namespace DL
open PySem PySem.Spec PyProof.Rows L2 TL
/-- what is read of a plan -/
structure PlS (ls : List Ln) (rs : List Rl) : Prop where
  hls : ∀ l ∈ ls, LnS l
  hrs : ∀ r ∈ rs, RlS r (ls.map (·.nm))
  hns : ∀ x ∈ ls.map (·.nm), PyData.strOk x = true
  ll : ls.length ≤ 6
  rl : rs.length ≤ 12
theorem lineP_six {ts : List Tk} {ns : List Str} {ls : List Ln} {i j : Nat} {l : Ln} (h : lineP ts ns ls i = .ok (l, j)) : ls.length ≠ 6 := by
  intro z
  unfold lineP at h
  split at h
  · cases h
  · rw [if_pos (.inr z)] at h
    cases h
section
variable {L R n : Nat} {S : Store} {ls : List Ln} {rs : List Rl} {l : List Nat} {t3 t0 : D}
abbrev envP (t0 : D) (L R : Nat) (t3 : D) (n : Nat) (l : List Nat) (x6 x7 x8 x9 x10 x11 x12 : Option D) : Env := [some t0, some (.ref L), some (.ref R), some t3, some (.int (n : Nat)), some (.str (sk l)), x6, x7, x8, x9, x10, x11, x12]
theorem s_itemB (hL : S[L]? = some (.lst (ls.map Ln.d))) (hR : S[R]? = some (.lst (rs.map Rl.d))) (hLR : L ≠ R) (P : PlS ls rs) (hl : l.length < 2 ^ 24) (ha : Asc l) (hn : n < 40) (x6 x7 x8 x9 x10 x11 x12 : Option D) :
    match itemP l ls rs with
    | .ok (ls', rs') => ∃ (y6 y7 y8 : Option D) (S' : Store), b_parse_plan_2 (envP t0 L R t3 n l x6 x7 x8 x9 x10 x11 x12) S = .go .nx (envP t0 L R t3 n l y6 y7 y8 x9 x10 x11 x12) S' ∧ S'[L]? = some (.lst (ls'.map Ln.d)) ∧ S'[R]? = some (.lst (rs'.map Rl.d)) ∧ Kp [L, R] S S' ∧ PlS ls' rs'
    | .error c => ∃ (ρ' : Env) (S' : Store), b_parse_plan_2 (envP t0 L R t3 n l x6 x7 x8 x9 x10 x11 x12) S = .go (.ex (syn ((n : Int) + 1) (c : Nat))) ρ' S' ∧ Kp [L, R] S S' := by
  have hr : ((n : Int) + 1).natAbs < 2 ^ 64 := by omega
  have n40 : ((n : Int) == 40) = false := by rw [beq_eq_false_iff_ne]; omega
  have lLl := (List.getElem?_eq_some_iff.mp hL).1
  have lRl := (List.getElem?_eq_some_iff.mp hR).1
  have nl := names_lines (ρ := envP t0 L R t3 n l x6 x7 x8 x9 x10 x11 x12) rfl hL P.ll (by simp)
  have mk := s_mkParser (l := l) (row := (n : Int) + 1) (ns := ls.map (·.nm)) (fa := mCons (mVar 5) (mCons (mOp addD (mVar 4) (mC (.int 1))) (mCons (mLcS fzL [9, 10, 11, 12] (mVar 1) (gTupM 4 (gConsM (gN 9) (gConsM (gN 10) (gConsM (gN 11) (gConsM (gN 12) gNilM))))) mYes e_parse_plan_1) mNil))) (ρ := envP t0 L R t3 n l x6 x7 x8 x9 x10 x11 x12) (S := S) (S0 := S) hl ha hr (by
    simp [nl, Function.comp_def])
  unfold itemP
  cases q0 : toksP (l.length + 1) l 1 0 with
  | error c =>
    rw [q0] at mk
    obtain ⟨S1, m1, m2⟩ := mk
    refine ⟨envP t0 L R t3 n l x6 x7 x8 x9 x10 x11 x12, S1, ?_, m2.mono (by simp)⟩
    simp [b_parse_plan_2, k_MAX_ITEMS, n40, -x_make, m1]
  | ok ts =>
    rw [q0] at mk
    obtain ⟨T, S1, m1, hp, m2⟩ := mk
    simp only
    have hL1 := m2.get hL (by simp)
    have hR1 := m2.get hR (by simp)
    have pL : S.length ≠ L := by omega
    have pR : S.length ≠ R := by omega
    have hts : 0 < ts.length := by
      obtain ⟨ts0, c, rfl, _⟩ := T.ex
      simp
    have pk := c_peek (ρ := envP t0 L R t3 n l (some (.ref S.length)) x7 x8 x9 x10 x11 x12) (fo := mVar 6) (S0 := S1) hp hts rfl
    have en := s_ended (ρ := envP t0 L R t3 n l (some (.ref S.length)) (some (tokD (tkn ts 0))) x8 x9 x10 x11 x12) hR1 P.hns P.hrs rfl
    have kE : neD (.str (ks (tkn ts 0).kind)) k_END S1 = .ok (.bl (!decide ((tkn ts 0).kind = .fin))) S1 := by
      rw [lit_fin, ← ks_beq]; rfl
    by_cases q1 : (tkn ts 0).kind = .fin
    · rw [if_pos q1]
      rw [decide_eq_true q1] at kE
      refine ⟨some (.ref S.length), some (tokD (tkn ts 0)), some (.bl (endedP rs)), S1, ?_, hL1, hR1, m2.mono (by simp), P⟩
      simp [b_parse_plan_2, k_MAX_ITEMS, n40, -x_make, m1, -x_meth, pk, -x_andV, en, t_kind, kE]
    · rw [if_neg q1]
      rw [decide_eq_false q1] at kE
      have re := rules_eq hR1 P.hns P.hrs
      have ac1 := c_accept (ρ := envP t0 L R t3 n l (some (.ref S.length)) (some (tokD (tkn ts 0))) (some (.bl (endedP rs))) x9 x10 x11 x12) (fo := mVar 6) (S0 := S1) (k := .word) (s := wLine) hp hts rfl lit_word lit_line
      have set_id : S1.set S.length (parI ((n : Int) + 1) (ls.map (·.nm)) ts 0) = S1 := by
        apply List.ext_getElem?
        intro m
        by_cases hm : S.length = m
        · subst hm
          rw [List.getElem?_set_self (List.getElem?_eq_some_iff.mp hp).1, hp]
        · rw [List.getElem?_set_ne hm]
      have kp1 : Kp [L, R] S S1 := m2.mono (by simp)
      by_cases q2 : rs = [] ∧ (accP ts .word wLine 0).1 = true
      · rw [if_pos q2]
        rw [q2.2, acc_t q2.2] at ac1
        rw [decide_eq_true q2.1] at re
        have h1l : 0 + 1 < ts.length := by
          have := acc_lt T hts (k := .word) wLine (by intro z; cases z)
          rw [acc_t q2.2] at this; exact this
        have hp2 := set_at hp (parI ((n : Int) + 1) (ls.map (·.nm)) ts (0 + 1))
        have hL2 := get_ne (x := parI ((n : Int) + 1) (ls.map (·.nm)) ts (0 + 1)) hL1 (Ne.symm pL)
        have hR2 := get_ne (x := parI ((n : Int) + 1) (ls.map (·.nm)) ts (0 + 1)) hR1 (Ne.symm pR)
        have kp2 : Kp [L, R] S (S1.set S.length (parI ((n : Int) + 1) (ls.map (·.nm)) ts (0 + 1))) := kp1.then (Kp.set (u := S.length) (us := [S.length]) S1 _ (by simp)) (fun v hv => .inr (by rw [List.mem_singleton.mp hv]; exact Nat.le_refl _))
        have sl := s_line T hp2 h1l hr hL2 (Ne.symm pL) P.ll P.hls P.hns
        have me := meth_at (m := "straight_line") (n := 1) (md := m_LineParser_straight_line) (fo := mVar 6) (fa := mCons (mVar 1) mNil) (ρ := envP t0 L R t3 n l (some (.ref S.length)) (some (tokD (tkn ts 0))) (some (.bl (endedP rs))) x9 x10 x11 x12) (S0 := S1.set S.length (parI ((n : Int) + 1) (ls.map (·.nm)) ts (0 + 1))) (ds := [.ref L]) hp2 no_line rfl rfl rfl
        have il : isL (.ref L) (S1.set S.length (parI ((n : Int) + 1) (ls.map (·.nm)) ts (0 + 1))) = true := by simp [isL, lstOf, hL2]
        cases q3 : lineP ts (ls.map (·.nm)) ls (0 + 1) with
        | error c =>
          rw [q3] at sl
          obtain ⟨j, sl⟩ := sl
          rw [sl] at me
          refine ⟨envP t0 L R t3 n l (some (.ref S.length)) (some (tokD (tkn ts 0))) (some (.bl (endedP rs))) x9 x10 x11 x12, _, ?_, kp2.then (Kp.set (u := S.length) (us := [S.length]) _ (parI ((n : Int) + 1) (ls.map (·.nm)) ts j) (by simp)) (fun v hv => .inr (by rw [List.mem_singleton.mp hv]; exact Nat.le_refl _))⟩
          simp [b_parse_plan_2, k_MAX_ITEMS, n40, -x_make, m1, -x_meth, pk, -x_andV, en, t_kind, kE, sizeLine, re, ac1, il, me]
        | ok lj =>
          obtain ⟨x, j0⟩ := lj
          rw [q3] at sl
          obtain ⟨j, sl, s1, s2, s3⟩ := sl
          rw [sl, List.set_set] at me
          simp only
          have hL3 := get_ne (x := parI ((n : Int) + 1) (ls.map (·.nm)) ts j) hL1 (Ne.symm pL)
          have hR3 := get_ne (x := parI ((n : Int) + 1) (ls.map (·.nm)) ts j) hR1 (Ne.symm pR)
          have kp3 : Kp [L, R] S (S1.set S.length (parI ((n : Int) + 1) (ls.map (·.nm)) ts j)) := kp1.then (Kp.set (u := S.length) (us := [S.length]) S1 _ (by simp)) (fun v hv => .inr (by rw [List.mem_singleton.mp hv]; exact Nat.le_refl _))
          have l6 := lineP_six q3
          have ll := P.ll
          have ap : appendD (.ref L) [x.d] (S1.set S.length (parI ((n : Int) + 1) (ls.map (·.nm)) ts j)) = .ok .non ((S1.set S.length (parI ((n : Int) + 1) (ls.map (·.nm)) ts j)).set L (.lst ((ls ++ [x]).map Ln.d))) := by
            simp [appendD, hL3]
            rw [show sizeLine = 16777216 from rfl]; omega
          refine ⟨some (.ref S.length), some (tokD (tkn ts 0)), some (.bl (endedP rs)), (S1.set S.length (parI ((n : Int) + 1) (ls.map (·.nm)) ts j)).set L (.lst ((ls ++ [x]).map Ln.d)), ?_, set_at hL3 _, get_ne hR3 (Ne.symm hLR), kp3.trans (Kp.set _ _ (by simp)), ⟨?_, ?_, ?_, ?_, P.rl⟩⟩
          · simp [b_parse_plan_2, k_MAX_ITEMS, n40, -x_make, m1, -x_meth, pk, -x_andV, en, t_kind, kE, sizeLine, re, ac1, il, me, ap]
          · intro y hy
            rcases List.mem_append.mp hy with hy | hy
            · exact P.hls y hy
            · rw [List.mem_singleton.mp hy]; exact s1
          · rw [q2.1]; intro y hy; simp at hy
          · intro y hy
            rw [List.map_append] at hy
            rcases List.mem_append.mp hy with hy | hy
            · exact P.hns y hy
            · simp at hy
              subst hy
              have := Asc.ok s3
              rw [sk_tl] at this
              exact this
          · simp; omega
      · rw [if_neg q2]
        have br1 : mAnd (mB (mOp eqD (mVar 2) (mLst mNil))) (mB (mMeth "LineParser" "accept" 2 m_LineParser_accept (mVar 6) (mCons (mC (.str "word")) (mCons (mC (.str "line")) mNil)))) (envP t0 L R t3 n l (some (.ref S.length)) (some (tokD (tkn ts 0))) (some (.bl (endedP rs))) x9 x10 x11 x12) S1 = .ok false S1 := by
          by_cases z : rs = []
          · have z2 : ¬ (accP ts .word wLine 0).1 = true := fun w => q2 ⟨z, w⟩
            have z3 : (accP ts .word wLine 0).1 = false := by simpa using z2
            rw [z3, acc_f z2, set_id] at ac1
            rw [decide_eq_true z] at re
            simp [-x_meth, sizeLine, re, ac1]
          · rw [decide_eq_false z] at re
            simp [-x_meth, sizeLine, re]
        have lr : lenD (.ref R) S1 = .ok (.int (rs.length : Nat)) S1 := by simp [lenD, lstOf, hR1]
        have ac2 := c_accept (ρ := envP t0 L R t3 n l (some (.ref S.length)) (some (tokD (tkn ts 0))) (some (.bl (endedP rs))) x9 x10 x11 x12) (fo := mVar 6) (S0 := S1) (k := .word) (s := wDrift) hp hts rfl lit_word lit_drift
        by_cases q3 : (endedP rs = false ∧ rs.length < 12) ∧ (accP ts .word wDrift 0).1 = true
        · rw [if_pos q3]
          rw [q3.2, acc_t q3.2] at ac2
          have h12 : (rs.length : Int) < 12 := by omega
          have h1l : 0 + 1 < ts.length := by
            have := acc_lt T hts (k := .word) wDrift (by intro z; cases z)
            rw [acc_t q3.2] at this; exact this
          have hp2 := set_at hp (parI ((n : Int) + 1) (ls.map (·.nm)) ts (0 + 1))
          have hL2 := get_ne (x := parI ((n : Int) + 1) (ls.map (·.nm)) ts (0 + 1)) hL1 (Ne.symm pL)
          have hR2 := get_ne (x := parI ((n : Int) + 1) (ls.map (·.nm)) ts (0 + 1)) hR1 (Ne.symm pR)
          have kp2 : Kp [L, R] S (S1.set S.length (parI ((n : Int) + 1) (ls.map (·.nm)) ts (0 + 1))) := kp1.then (Kp.set (u := S.length) (us := [S.length]) S1 _ (by simp)) (fun v hv => .inr (by rw [List.mem_singleton.mp hv]; exact Nat.le_refl _))
          have sr := s_rule T hp2 h1l hr P.hns
          have me := meth_at (m := "rule") (n := 0) (md := m_LineParser_rule) (fo := mVar 6) (fa := mNil) (ρ := envP t0 L R t3 n l (some (.ref S.length)) (some (tokD (tkn ts 0))) (some (.bl (endedP rs))) x9 x10 x11 x12) (S0 := S1.set S.length (parI ((n : Int) + 1) (ls.map (·.nm)) ts (0 + 1))) (ds := []) hp2 no_rule rfl rfl rfl
          have il : isL (.ref R) (S1.set S.length (parI ((n : Int) + 1) (ls.map (·.nm)) ts (0 + 1))) = true := by simp [isL, lstOf, hR2]
          have hu : ∀ v ∈ [S.length], v ∈ [L, R] ∨ S.length ≤ v := fun v hv => .inr (by rw [List.mem_singleton.mp hv]; exact Nat.le_refl _)
          cases q4 : ruleP ts (ls.map (·.nm)) (0 + 1) with
          | error c =>
            rw [q4] at sr
            obtain ⟨S', sr, sk⟩ := sr
            rw [sr] at me
            rw [q3.1.1] at me ac2
            refine ⟨envP t0 L R t3 n l (some (.ref S.length)) (some (tokD (tkn ts 0))) (some (.bl (endedP rs))) x9 x10 x11 x12, S', ?_, kp2.then sk hu⟩
            simp [b_parse_plan_2, k_MAX_ITEMS, n40, -x_make, m1, -x_meth, pk, -x_andV, en, t_kind, kE, -x_and, br1]
            simp [-x_meth, q3.1.1, one, lr, k_MAX_RULES, h12, ac2, il, me]
          | ok rj =>
            obtain ⟨x, j0⟩ := rj
            rw [q4] at sr
            obtain ⟨S', sr, sk, s1⟩ := sr
            rw [sr] at me
            rw [q3.1.1] at me ac2
            simp only
            have hL3 := sk.get hL2 (by simpa using Ne.symm pL)
            have hR3 := sk.get hR2 (by simpa using Ne.symm pR)
            have ap : appendD (.ref R) [x.d] S' = .ok .non (S'.set R (.lst ((rs ++ [x]).map Rl.d))) := by
              simp [appendD, hR3]
              rw [show sizeLine = 16777216 from rfl]; omega
            refine ⟨some (.ref S.length), some (tokD (tkn ts 0)), some (.bl (endedP rs)), S'.set R (.lst ((rs ++ [x]).map Rl.d)), ?_, get_ne hL3 hLR, set_at hR3 _, (kp2.then sk hu).trans (Kp.set _ _ (by simp)), ⟨P.hls, ?_, P.hns, P.ll, ?_⟩⟩
            · simp [b_parse_plan_2, k_MAX_ITEMS, n40, -x_make, m1, -x_meth, pk, -x_andV, en, t_kind, kE, -x_and, br1]
              simp [-x_meth, q3.1.1, one, lr, k_MAX_RULES, h12, ac2, il, me, ap]
            · intro y hy
              rcases List.mem_append.mp hy with hy | hy
              · exact P.hrs y hy
              · rw [List.mem_singleton.mp hy]; exact s1
            · simp; omega
        · rw [if_neg q3]
          have br2 : mAnd (mNot (mB (mVar 8))) (mAnd (mB (mOp ltD (mCB (one lenD) (mCons (mVar 2) mNil)) (mC k_MAX_RULES))) (mB (mMeth "LineParser" "accept" 2 m_LineParser_accept (mVar 6) (mCons (mC (.str "word")) (mCons (mC (.str "drift")) mNil))))) (envP t0 L R t3 n l (some (.ref S.length)) (some (tokD (tkn ts 0))) (some (.bl (endedP rs))) x9 x10 x11 x12) S1 = .ok false S1 := by
            cases z1 : endedP rs with
            | true => simp [z1]
            | false =>
              by_cases z2 : rs.length < 12
              · have h12 : (rs.length : Int) < 12 := by omega
                have z3 : ¬ (accP ts .word wDrift 0).1 = true := fun w => q3 ⟨⟨z1, z2⟩, w⟩
                have z4 : (accP ts .word wDrift 0).1 = false := by simpa using z3
                rw [z4, acc_f z3, set_id] at ac2
                rw [z1] at ac2
                simp [-x_meth, one, lr, k_MAX_RULES, h12, ac2]
              · have h12 : ¬ (rs.length : Int) < 12 := by omega
                simp [-x_meth, one, lr, k_MAX_RULES, h12]
          have fl := c_fail (ρ := envP t0 L R t3 n l (some (.ref S.length)) (some (tokD (tkn ts 0))) (some (.bl (endedP rs))) x9 x10 x11 x12) (fo := mVar 6) (fe := mVar 7) (t := tkn ts 0) (S0 := S1) hr hp rfl rfl (T.col hts)
          refine ⟨envP t0 L R t3 n l (some (.ref S.length)) (some (tokD (tkn ts 0))) (some (.bl (endedP rs))) x9 x10 x11 x12, S1, ?_, kp1⟩
          simp [b_parse_plan_2, k_MAX_ITEMS, n40, -x_make, m1, -x_meth, pk, -x_andV, en, t_kind, kE, -x_and, br1, br2, fl]
end
end DL

/-! Plain laws: the parser's methods do what the plain functions say, 10: plans. -/
namespace DL
open PySem PySem.Spec PyProof.Rows L2 TL
def loopP : List (List Nat) → Nat → List Ln → List Rl → Except (Nat × Nat) (List Ln × List Rl)
  | [], _, ls, rs => .ok (ls, rs)
  | l :: rest, n, ls, rs => if n = 40 then .error (n + 1, 1) else match itemP l ls rs with
    | .error e => .error (n + 1, e)
    | .ok (ls', rs') => loopP rest (n + 1) ls' rs'
theorem itemsP_loop : ∀ (ts : List (List Nat)) (n : Nat) (ls : List Ln) (rs : List Rl), itemsP ts n ls rs = match loopP ts n ls rs with
    | .error e => .error e
    | .ok (ls', rs') => if endedP rs' = true then .ok (ls', rs') else .error (n + ts.length + 1, 1)
  | [], n, ls, rs => by
    simp only [itemsP, loopP, List.length_nil, Nat.add_zero]
  | l :: ts, n, ls, rs => by
    simp only [itemsP, loopP]
    by_cases h : n = 40
    · rw [if_pos h, if_pos h]
    · rw [if_neg h, if_neg h]
      cases q : itemP l ls rs with
      | error e => rfl
      | ok x =>
        obtain ⟨a, b⟩ := x
        simp only
        rw [itemsP_loop ts (n + 1) a b, List.length_cons, show n + 1 + ts.length = n + (ts.length + 1) by omega]
section
variable {L R : Nat} {t0 t3 : D}
abbrev envQ (t0 : D) (L R : Nat) (t3 : D) (x4 x5 x6 x7 x8 x9 x10 x11 x12 : Option D) : Env := [some t0, some (.ref L), some (.ref R), some t3, x4, x5, x6, x7, x8, x9, x10, x11, x12]
theorem plan_loop (hLR : L ≠ R) (x9 x10 x11 x12 : Option D) : ∀ (ts : List (List Nat)) (n : Nat) (ls : List Ln) (rs : List Rl) (S : Store) (x4 x5 x6 x7 x8 : Option D), S[L]? = some (.lst (ls.map Ln.d)) → S[R]? = some (.lst (rs.map Rl.d)) → PlS ls rs → (∀ l ∈ ts, l.length < 2 ^ 24 ∧ Asc l) → n ≤ 40 →
    match loopP ts n ls rs with
    | .ok (ls', rs') => ∃ (y4 y5 y6 y7 y8 : Option D) (S' : Store), mForL (gTupM 2 (gConsM (gN 4) (gConsM (gN 5) gNilM))) b_parse_plan_2 ((enumL n (ts.map fun l => D.str (sk l))).map D.wt) (envQ t0 L R t3 x4 x5 x6 x7 x8 x9 x10 x11 x12) S = .go .nx (envQ t0 L R t3 y4 y5 y6 y7 y8 x9 x10 x11 x12) S' ∧ S'[L]? = some (.lst (ls'.map Ln.d)) ∧ S'[R]? = some (.lst (rs'.map Rl.d)) ∧ Kp [L, R] S S' ∧ PlS ls' rs'
    | .error (r, c) => ∃ (ρ' : Env) (S' : Store), mForL (gTupM 2 (gConsM (gN 4) (gConsM (gN 5) gNilM))) b_parse_plan_2 ((enumL n (ts.map fun l => D.str (sk l))).map D.wt) (envQ t0 L R t3 x4 x5 x6 x7 x8 x9 x10 x11 x12) S = .go (.ex (syn (r : Nat) (c : Nat))) ρ' S' ∧ Kp [L, R] S S'
  | [], n, ls, rs, S, x4, x5, x6, x7, x8, hL, hR, P, ht, hn => ⟨x4, x5, x6, x7, x8, S, rfl, hL, hR, Kp.refl _ _, P⟩
  | l :: ts, n, ls, rs, S, x4, x5, x6, x7, x8, hL, hR, P, ht, hn => by
    have hl := ht l List.mem_cons_self
    have G : gTupM 2 (gConsM (gN 4) (gConsM (gN 5) gNilM)) (.wt [.int (n : Nat), .str (sk l)]) (envQ t0 L R t3 x4 x5 x6 x7 x8 x9 x10 x11 x12) S = some (envP t0 L R t3 n l x6 x7 x8 x9 x10 x11 x12, S) := by simp
    have F : ∀ o, b_parse_plan_2 (envP t0 L R t3 n l x6 x7 x8 x9 x10 x11 x12) S = o → mForL (gTupM 2 (gConsM (gN 4) (gConsM (gN 5) gNilM))) b_parse_plan_2 ((enumL n ((l :: ts).map fun l => D.str (sk l))).map D.wt) (envQ t0 L R t3 x4 x5 x6 x7 x8 x9 x10 x11 x12) S = match o with
        | .go .nx ρ S => mForL (gTupM 2 (gConsM (gN 4) (gConsM (gN 5) gNilM))) b_parse_plan_2 ((enumL (n + 1) (ts.map fun l => D.str (sk l))).map D.wt) ρ S
        | .go .ct ρ S => mForL (gTupM 2 (gConsM (gN 4) (gConsM (gN 5) gNilM))) b_parse_plan_2 ((enumL (n + 1) (ts.map fun l => D.str (sk l))).map D.wt) ρ S
        | .go .bk ρ S => .go .nx ρ S
        | o => o := fun o ho => by
      subst ho
      simp only [List.map_cons, enumL, mForL, G]
      all_goals rfl
    unfold loopP
    by_cases h40 : n = 40
    · rw [if_pos h40]
      subst h40
      have ex := exc_syn (r := 41) (c := 1) S (by decide) (by decide)
      refine ⟨envP t0 L R t3 40 l x6 x7 x8 x9 x10 x11 x12, S, ?_, Kp.refl _ _⟩
      rw [F _ rfl]
      have B : b_parse_plan_2 (envP t0 L R t3 40 l x6 x7 x8 x9 x10 x11 x12) S = .go (.ex (syn 41 1)) (envP t0 L R t3 40 l x6 x7 x8 x9 x10 x11 x12) S := by
        simp [b_parse_plan_2, k_MAX_ITEMS, ex]
      rw [B]
      rfl
    · rw [if_neg h40]
      have ib := s_itemB (t0 := t0) (t3 := t3) (n := n) hL hR hLR P hl.1 hl.2 (by omega) x6 x7 x8 x9 x10 x11 x12
      cases q : itemP l ls rs with
      | error c =>
        rw [q] at ib
        obtain ⟨ρ', S', r1, r2⟩ := ib
        refine ⟨ρ', S', ?_, r2⟩
        rw [F _ r1]
        simp
      | ok x =>
        obtain ⟨ls', rs'⟩ := x
        rw [q] at ib
        obtain ⟨y6, y7, y8, S', r1, r2, r3, r4, r5⟩ := ib
        simp only
        have rc := plan_loop hLR x9 x10 x11 x12 ts (n + 1) ls' rs' S' (some (.int (n : Nat))) (some (.str (sk l))) y6 y7 y8 r2 r3 r5 (fun m hm => ht m (List.mem_cons_of_mem _ hm)) (by omega)
        cases q2 : loopP ts (n + 1) ls' rs' with
        | error e =>
          obtain ⟨r, c⟩ := e
          rw [q2] at rc
          obtain ⟨ρ2, S2, t1, t2⟩ := rc
          refine ⟨ρ2, S2, ?_, r4.trans t2⟩
          rw [F _ r1]
          exact t1
        | ok y =>
          obtain ⟨ls2, rs2⟩ := y
          rw [q2] at rc
          obtain ⟨y4', y5', y6', y7', y8', S2, t1, t2, t3, t4, t5⟩ := rc
          refine ⟨y4', y5', y6', y7', y8', S2, ?_, t2, t3, r4.trans t4, t5⟩
          rw [F _ r1]
          exact t1
end
/-! ### the texts of the lines -/
theorem spl_mem {Sp : List Nat} : ∀ (l : List Nat) (k : Nat) (acc : List Nat), ∀ p ∈ spl Sp k acc l, p.length ≤ acc.length + l.length ∧ ∀ c ∈ p, c ∈ acc ∨ c ∈ l
  | [], k, acc, p, hp => by
    have : p = acc := by cases k <;> simpa [spl] using hp
    subst this
    exact ⟨by simp, fun c hc => .inl hc⟩
  | c :: r, 0, acc, p, hp => by
    simp only [spl] at hp
    split at hp
    · rcases List.mem_cons.mp hp with rfl | hp
      · exact ⟨by simp, fun c hc => .inl hc⟩
      · obtain ⟨h1, h2⟩ := spl_mem r _ [] p hp
        refine ⟨by simp at h1 ⊢; omega, fun d hd => ?_⟩
        rcases h2 d hd with h | h
        · simp at h
        · exact .inr (List.mem_cons_of_mem _ h)
    · obtain ⟨h1, h2⟩ := spl_mem r 0 (acc ++ [c]) p hp
      refine ⟨by simp at h1 ⊢; omega, fun d hd => ?_⟩
      rcases h2 d hd with h | h
      · rcases List.mem_append.mp h with h | h
        · exact .inl h
        · rw [List.mem_singleton.mp h]; exact .inr List.mem_cons_self
      · exact .inr (List.mem_cons_of_mem _ h)
  | c :: r, k + 1, acc, p, hp => by
    simp only [spl] at hp
    obtain ⟨h1, h2⟩ := spl_mem r k acc p hp
    refine ⟨by simp at h1 ⊢; omega, fun d hd => ?_⟩
    rcases h2 d hd with h | h
    · exact .inl h
    · exact .inr (List.mem_cons_of_mem _ h)
theorem small_kind (a : List Nat) (h : ∀ c ∈ a, c < 256) : (sk a).cps.all (· < 256) = true := by
  rw [Array.all_eq_true_iff_forall_mem]
  intro c hc
  have := h c (by simpa [sk] using hc)
  simpa using this
theorem split_mem {z : Str} {s : Nat} (hs : s < 256) : ∀ x ∈ Txt.split z (sk [s]), (tl x).length ≤ (tl z).length ∧ ∀ c ∈ tl x, c ∈ tl z := fun x hx => by
  have e := split_spl z (sk [s]) (by rw [tl_sk]; simp) (kind_ok (small_kind [s] (by simpa using hs)))
  have hm : tl x ∈ spl [s] 0 [] (tl z) := by
    rw [show ([s] : List Nat) = tl (sk [s]) from rfl, ← e]
    exact List.mem_map_of_mem hx
  obtain ⟨h1, h2⟩ := spl_mem _ _ _ _ hm
  refine ⟨by simpa using h1, fun c hc => ?_⟩
  rcases h2 c hc with h | h
  · simp at h
  · exact h
theorem split_head (z : Str) : (Txt.split z (sk [35]))[0]? = some (sk (headP (tl z))) := by
  have e := split_spl z (sk [35]) (by rw [tl_sk]; simp) (kind_ok (small_kind [35] (by simp)))
  have e2 : (spl [35] 0 [] (tl z))[0]? = some (headP (tl z)) := by
    have h0 : 35 ∉ headP (tl z) := fun h => by
      have := (tw_mem _ h).2
      simp at this
    have h1 : headP (tl z) ++ (tl z).dropWhile (fun c => c != 35) = tl z := List.takeWhile_append_dropWhile
    cases q : (tl z).dropWhile (fun c => c != 35) with
    | nil =>
      rw [q, List.append_nil] at h1
      have := spl_last1 (s := 35) (S := []) (p := headP (tl z)) (acc := []) h0
      rw [h1] at this ⊢
      rw [this]; rfl
    | cons c r =>
      have hc : c = 35 := by
        have := List.head?_dropWhile_not (fun c => c != 35) (tl z)
        rw [q] at this
        simpa using this
      subst hc
      rw [q] at h1
      have := spl_part1 (s := 35) (S := []) (p := headP (tl z)) (rest := r) (acc := []) h0
      have e3 : headP (tl z) ++ (35 :: [] ++ r) = tl z := h1
      rw [e3] at this
      rw [this]; rfl
  rw [show ([35] : List Nat) = tl (sk [35]) from rfl, ← e, List.getElem?_map] at e2
  cases q : (Txt.split z (sk [35]))[0]? with
  | none => rw [q] at e2; cases e2
  | some y =>
    rw [q] at e2
    injection e2 with e2
    rw [← e2, sk_tl]
/-- PARSING A PLAN: what the plain function says -/
theorem s_parsePlan (z : Str) (S : Store) (ha : Asc (tl z)) (hl : (tl z).length < 2 ^ 20) : match planP z with
    | .ok (ls, rs) => ∃ S', m_parse_plan [.str z] S = .ok (planD ls rs) S' ∧ Kp [] S S' ∧ PlS ls rs
    | .error (r, c) => ∃ S', m_parse_plan [.str z] S = .exn (syn (r : Nat) (c : Nat)) S' ∧ Kp [] S S' := by
  have n10 : ("\n" : Str) = sk [10] := by decide +kernel
  have n35 : ("#" : Str) = sk [35] := by decide +kernel
  have zl : z.length + 2 ≤ sizeLine := by rw [len_tl, show sizeLine = 16777216 from rfl]; omega
  have sp : ∀ S, splitD (.str z) (.str "\n") S = .ok (.lst ((Txt.split z (sk [10])).map D.str)) S := fun S => by
    simp only [splitD]
    rw [if_pos ⟨by rw [n10, len_sk]; simp, zl⟩, n10]
  have each : ∀ x ∈ Txt.split z (sk [10]), (headP (tl x)).length < 2 ^ 24 ∧ Asc (headP (tl x)) := fun x hx => by
    obtain ⟨h1, h2⟩ := split_mem (by decide) x hx
    have h3 := tw_le (fun c => c != 35) (tl x)
    exact ⟨by unfold headP; omega, fun c hc => ha c (h2 c (tw_mem _ hc).1)⟩
  let ts : List (List Nat) := (Txt.split z (sk [10])).map fun x => headP (tl x)
  have kq0 : Kp [] S ((S ++ [.lst []]) ++ [.lst []]) := (Kp.app [] S _).trans (Kp.app _ _ _)
  have lc := lc_map (i := 5) (te := e_parse_plan_3) (ρ := [some (.str z), some (.ref S.length), some (.ref (S.length + 1)), none, none, none, none, none, none, none, none, none, none]) (S := (S ++ [.lst []]) ++ [.lst []]) (ds := (Txt.split z (sk [10])).map D.str) (f := fun d => match d with
    | .str x => .str (sk (headP (tl x)))
    | d => d) (fun d hd => by
    obtain ⟨x, hx, rfl⟩ := List.mem_map.mp hd
    obtain ⟨h1, h2⟩ := split_mem (by decide) x hx
    have xl : x.length + 2 ≤ sizeLine := by rw [len_tl, show sizeLine = 16777216 from rfl]; omega
    have sx : splitD (.str x) (.str "#") ((S ++ [.lst []]) ++ [.lst []]) = .ok (.lst ((Txt.split x (sk [35])).map D.str)) ((S ++ [.lst []]) ++ [.lst []]) := by
      simp only [splitD]
      rw [if_pos ⟨by rw [n35, len_sk]; simp, xl⟩, n35]
    have e0 : atI ((Txt.split x (sk [35])).map D.str) 0 = some (.str (sk (headP (tl x)))) := by
      have := atI_nat ((Txt.split x (sk [35])).map D.str) 0
      rw [List.getElem?_map, split_head] at this
      exact this
    show e_parse_plan_3 _ _ = .ok (.str (sk (headP (tl x)))) _
    simp [e_parse_plan_3] at sx ⊢
    simp [sx, e0])
  have em : ((Txt.split z (sk [10])).map D.str).map (fun d => match d with
    | .str x => .str (sk (headP (tl x)))
    | d => d) = ts.map fun l => D.str (sk l) := by
    simp only [ts, List.map_map]
    rfl
  rw [em] at lc
  have lsp : (Txt.split z (sk [10])).length ≤ sizeLine := Nat.le_trans (PyProof.Rows.split_le z (sk [10])) zl
  have lp := plan_loop (L := S.length) (R := S.length + 1) (t0 := .str z) (t3 := .lst (ts.map fun l => D.str (sk l))) (by omega) none none none none ts 0 [] [] ((S ++ [.lst []]) ++ [.lst []]) none none none none none (by rw [List.getElem?_append_left (by simp)]; simp) (by simp) ⟨by simp, by simp, by simp, by simp, by simp⟩ (fun l hl => by
    obtain ⟨x, hx, rfl⟩ := List.mem_map.mp hl
    exact each x hx) (by decide)
  have hu : ∀ v ∈ [S.length, S.length + 1], v ∈ ([] : List Nat) ∨ S.length ≤ v := fun v hv => by
    simp at hv
    rcases hv with rfl | rfl
    · exact .inr (Nat.le_refl _)
    · exact .inr (Nat.le_succ _)
  have ep : planP z = itemsP ts 0 [] [] := rfl
  rw [ep, itemsP_loop]
  have lts : (ts.length : Int) ≤ 2 ^ 30 := by
    simp only [ts, List.length_map]
    rw [show sizeLine = 16777216 from rfl] at lsp
    omega
  have lenT : ∀ S', lenD (.lst (ts.map fun l => D.str (sk l))) S' = .ok (.int (ts.length : Nat)) S' := fun S' => by
    simp [lenD]
  cases q : loopP ts 0 [] [] with
  | error e =>
    obtain ⟨r, c⟩ := e
    rw [q] at lp
    obtain ⟨ρ', S', r1, r2⟩ := lp
    refine ⟨S', ?_, kq0.then r2 hu⟩
    unfold m_parse_plan
    simp [sizeLine, sp] at r1 lc lsp ⊢
    simp [lsp, lc, fzL, wipeD, mEnumQ, r1]
  | ok x =>
    obtain ⟨ls, rs⟩ := x
    rw [q] at lp
    obtain ⟨y4, y5, y6, y7, y8, S', r1, r2, r3, r4, r5⟩ := lp
    have kp := kq0.then r4 hu
    have re := rules_eq r3 r5.hns r5.hrs
    simp only
    have t1 : tupleD (.ref S.length) S' = .ok (.tup (ls.map Ln.d)) S' := by simp [tupleD, lstOf, r2]
    have t2 : tupleD (.ref (S.length + 1)) S' = .ok (.tup (rs.map Rl.d)) S' := by simp [tupleD, lstOf, r3]
    have ex := exc_syn (r := (ts.length : Int) + 1) (c := 1) S' (by omega) (by decide)
    have br : mOr (mB (mOp eqD (mVar 2) (mLst mNil))) (mB (mOp neD (mOp ixD (mOp ixD (mVar 2) (mUn negD (mC (.int 1)))) (mC (.int 1))) (mTup mNil))) (envQ (.str z) S.length (S.length + 1) (.lst (ts.map fun l => D.str (sk l))) y4 y5 y6 y7 y8 none none none none) S' = .ok (!endedP rs) S' := by
      cases q1 : rs.getLast? with
      | none =>
        have e : rs = [] := List.getLast?_eq_none_iff.mp q1
        subst e
        rw [decide_eq_true rfl] at re
        simp [sizeLine, re, endedP]
      | some r =>
        have hm : r ∈ rs := List.mem_of_getLast? q1
        have hne : ¬ rs = [] := fun z => by subst z; simp at q1
        rw [decide_eq_false hne] at re
        have h3 := last_cs r3 q1
        have h4 := conds_ne (S := S') r5.hns (r5.hrs r hm)
        have e : endedP rs = r.cs.isEmpty := by unfold endedP; rw [q1]
        have h5 : ixD r.d (.int 1) S' = .ok (.tup (r.cs.map cnd)) S' := rfl
        simp [sizeLine, re, h3, h5, h4, e]
    by_cases q2 : endedP rs = true
    · rw [if_pos q2]
      rw [q2] at br
      refine ⟨S', ?_, kp, r5⟩
      unfold m_parse_plan
      simp [sizeLine, sp] at r1 lc lsp ⊢
      simp [lsp, lc, fzL, wipeD, mEnumQ, r1, -x_or, br, one, t1, t2, planD, (show 2 ≤ sizeLine by decide)]
    · rw [if_neg q2]
      have q2' : endedP rs = false := by simpa using q2
      rw [q2'] at br
      refine ⟨S', ?_, kp⟩
      unfold m_parse_plan
      simp [sizeLine, sp] at r1 lc lsp ⊢
      simp [lsp, lc, fzL, wipeD, mEnumQ, r1, -x_or, br, one, lenT, ex]
end DL

/-! Plain laws: what is drawn: numbers, and how they are written. -/
namespace DL
open PySem PySem.Spec PyProof.Rows L2 TL
theorem But.kp {u : Nat} {S S' : Store} (h : But u S S') : Kp [u] S S' := ⟨Nat.le_of_eq h.len.symm, fun n _ hu => h.at_ n (by simpa using hu)⟩
/-- a number of four digits over four digits -/
structure Nm (q : Rat) : Prop where
  n : q.num.natAbs ≤ 9999
  d : q.den ≤ 9999
theorem Nm.rs {q : Rat} (h : Nm q) : RS 14 q := ⟨by have := h.n; unfold Sz; omega, by have := h.d; omega⟩
theorem nm_divInt {t b : Int} (hb : b ≠ 0) (ht : t.natAbs ≤ 9999) (h : b.natAbs ≤ 9999) : Nm (Rat.divInt t b) := by
  constructor
  · rw [Rat.num_divInt]
    refine Nat.le_trans ?_ ht
    rw [Int.natAbs_ediv_of_dvd]
    · refine Nat.le_trans (Nat.div_le_self _ _) ?_
      rw [Int.natAbs_mul]
      have : b.sign.natAbs ≤ 1 := by
        rw [Int.natAbs_sign]; split <;> omega
      calc b.sign.natAbs * t.natAbs ≤ 1 * t.natAbs := Nat.mul_le_mul_right _ this
        _ = t.natAbs := Nat.one_mul _
    · exact Int.dvd_mul_of_dvd_right (Int.gcd_dvd_right b t)
  · rw [Rat.den_divInt]
    split
    · decide
    · exact Nat.le_trans (Nat.div_le_self _ _) h
theorem s_number {u k : Nat} {S : Store} (h : Urn u k S) (hk : k < 2 ^ 60) : ∃ (q : Rat) (S' : Store), m_L_number [.ref u] S = .ok (fr q) S' ∧ Nm q ∧ Urn u (k + 4) S' ∧ But u S S' := by
  obtain ⟨d, S1, e1, hd, u1, b1⟩ := s_item (l := [.int 2, .int 4, .int 4, .int 9, .int 9999]) h (by simp) (by simp) (by omega)
  obtain ⟨z, rfl, z0, z1⟩ : ∃ z : Int, d = .int z ∧ 2 ≤ z ∧ z ≤ 9999 := by
    simp at hd
    rcases hd with rfl | rfl | rfl | rfl <;> exact ⟨_, rfl, by decide, by decide⟩
  obtain ⟨r, S2, e2, r0, r1, u2, b2⟩ := s_pull (m := 2 * z + 1) (n := 20) u1 (by omega) (by unfold Sz; omega) (by decide) (by omega)
  obtain ⟨d2, S3, e3, hd2, u3, b3⟩ := s_item (l := [.int 1, .int 1, .int 3, .int z]) u2 (by simp) (by simp) (by omega)
  obtain ⟨y, rfl, y0, y1⟩ : ∃ y : Int, d2 = .int y ∧ 1 ≤ y ∧ y ≤ 9999 := by
    simp at hd2
    rcases hd2 with rfl | rfl | rfl <;> exact ⟨_, rfl, by omega, by omega⟩
  obtain ⟨t, S4, e4, t0, t1, u4, b4⟩ := s_pull (m := y) (n := 20) u3 (by omega) (by unfold Sz; omega) (by decide) (by omega)
  have e5 := s_low (n := 20) (t := r - z) (b := 1 + t) S4 (by omega) (by unfold Sz; omega) (by decide)
  have m1 := mul_ok S1 (sz_lit (n := 2) (z := 2) (by decide)) (show Sz 20 z by unfold Sz; omega) (by decide)
  refine ⟨_, S4, ?_, nm_divInt (t := r - z) (b := 1 + t) (by omega) (by omega) (by omega), u4, ((b1.trans b2).trans b3).trans b4⟩
  unfold m_L_number
  simp [-x_mul, sizeLine, e1, e2, e3, e4, e5, m1]
/-- the texts of tokens -/
def tksD (l : List (List Nat × K)) : List D := l.map fun w => .str (sk w.1)
theorem tksD_app (a b : List (List Nat × K)) : tksD (a ++ b) = tksD a ++ tksD b := List.map_append
theorem s_strN {n : Nat} (S : Store) (h : n < 10 ^ 9) : strD (.int (n : Nat)) S = .ok (.str (sk (numL n))) S := by
  have hl : ((n : Nat) : Int).natAbs.log2 < 1920 := by
    have := Sz.log2 (n := 30) (x := (n : Int)) (by unfold Sz; omega)
    omega
  have e : Str.ofString (toString ((n : Nat) : Int)) = sk (numL n) := ext_tl (by rw [tl_num, tl_sk])
  simp only [strD]
  rw [if_pos hl, e]
theorem numL_head (n : Nat) : n < 10 ∨ ∃ c r, numL n = c :: r ∧ c ≠ 48 := by
  induction n using Nat.strongRecOn with
  | _ n ih =>
    by_cases h : n < 10
    · exact .inl h
    · right
      rw [numL_step (by omega)]
      rcases ih (n / 10) (by omega) with q | ⟨c, r, e, hc⟩
      · rw [numL_lt q]
        exact ⟨48 + n / 10, [48 + n % 10], rfl, by omega⟩
      · rw [e]
        exact ⟨c, r ++ [48 + n % 10], rfl, hc⟩
theorem tv_num {n : Nat} (h : n < 10 ^ 4) : TV (numL n) .num := by
  refine .num (numL_ne n) (fun d hd => ?_) (numL_len (by decide) h) ?_
  · have := numL_digits n d hd
    unfold isDg; simp; omega
  · rcases numL_head n with q | ⟨c, r, e, hc⟩
    · left; rw [numL_lt q]; simp
    · right
      intro r' z
      rw [e] at z
      injection z with z _
      exact hc z
def botT : Option (List Nat) → List (List Nat × K)
  | none => []
  | some b => [([47], K.sym), (b, K.num)]
theorem s_numTok {u k : Nat} {S : Store} {q : Rat} (h : Urn u k S) (hk : k < 2 ^ 60) (hq : Nm q) : ∃ (tks : List (List Nat × K)) (S' : Store), m_L_number_tokens [.ref u, fr q] S = .ok (.lst (tksD tks)) S' ∧ NumT tks q ∧ (∀ w ∈ tks, TV w.1 w.2) ∧ tks.length ≤ 4 ∧ Urn u (k + 4) S' ∧ But u S S' := by
  have hn := hq.n
  have hd := hq.d
  have hd0 := q.den_pos
  have ab : (if q.num < 0 then -q.num else q.num) = (q.num.natAbs : Int) := by split <;> omega
  -- the factor
  let mx : Nat := max q.num.natAbs q.den
  have mx1 : 1 ≤ mx := Nat.le_trans hd0 (Nat.le_max_right _ _)
  have mx2 : mx ≤ 9999 := Nat.max_le.mpr ⟨hn, hd⟩
  have emax : (if (q.den : Int) > (q.num.natAbs : Int) then (q.den : Int) else q.num.natAbs) = (mx : Int) := by
    simp only [mx]
    split <;> omega
  have ediv : Int.fdiv 9999 (mx : Int) = ((9999 / mx : Nat) : Int) := by
    rw [Int.fdiv_eq_ediv_of_nonneg _ (by omega)]; rfl
  have dv1 : 1 ≤ 9999 / mx := (Nat.one_le_div_iff (by omega)).mpr mx2
  have dvm : (9999 / mx) * mx ≤ 9999 := Nat.div_mul_le_self _ _
  have dv2 : 9999 / mx ≤ 9999 := Nat.div_le_self _ _
  generalize 9999 / mx = dv at ediv dv1 dvm dv2
  have emax2 : (if (dv : Int) > 1 then (dv : Int) else 1) = (dv : Int) := by split <;> omega
  obtain ⟨r, S1, e1, r0, r1, u1, b1⟩ := s_pull (m := (dv : Int)) (n := 20) h (by omega) (by unfold Sz; omega) (by decide) (by omega)
  obtain ⟨d, S2, e2, hdd, u2, b2⟩ := s_item (l := [.int 1, .int 1, .int (1 + r)]) u1 (by simp) (by simp) (by omega)
  obtain ⟨m, rfl, m1, m2⟩ : ∃ m : Nat, d = .int (m : Nat) ∧ 1 ≤ m ∧ m ≤ dv := by
    simp at hdd
    rcases hdd with rfl | rfl
    · exact ⟨1, rfl, by decide, dv1⟩
    · exact ⟨(1 + r).toNat, by congr 1; omega, by omega, by omega⟩
  have lim : ∀ x : Nat, x ≤ mx → x * m < 10 ^ 4 := fun x hx => by
    have : x * m ≤ mx * dv := Nat.mul_le_mul hx m2
    rw [Nat.mul_comm mx] at this
    omega
  have l1 := lim q.num.natAbs (Nat.le_max_left _ _)
  have l2 := lim q.den (Nat.le_max_right _ _)
  have mm1 := mul_ok S2 (show Sz 20 (q.num.natAbs : Int) by unfold Sz; omega) (show Sz 20 (m : Int) by unfold Sz; omega) (by decide)
  have mm2 := mul_ok S2 (show Sz 20 (q.den : Int) by unfold Sz; omega) (show Sz 20 (m : Int) by unfold Sz; omega) (by decide)
  have st1 := s_strN (n := q.num.natAbs * m) S2 (by omega)
  rw [Int.natCast_mul] at st1
  have fd : fdivD (.int 9999) (.int (mx : Int)) S = .ok (.int (dv : Int)) S := by
    rw [fdiv_ok (n := 20) S (by unfold Sz; omega) (by decide) (by omega), ediv]
  have hmax : maxD (.int (q.num.natAbs : Int)) (.int (q.den : Int)) S = .ok (.int (mx : Int)) S := by
    simp only [maxD]; rw [emax]
  have hmax2 : maxD (.int 1) (.int (dv : Int)) S = .ok (.int (dv : Int)) S := by
    simp only [maxD]; rw [emax2]
  -- the second part
  have tail : ∃ (b : Option (List Nat)) (S3 : Store), (mIfS (mOr (mB (mOp gtD (mOp mulD (mVar 3) (mVar 4)) (mC (.int 1)))) (mB (mOp eqD (mCall 2 m_L_pull (mCons (mVar 0) (mCons (mC (.int 3)) mNil))) (mC (.int 0))))) (mAsg (mOp addD (mVar 5) (mLst (mCons (mC (.str "/")) (mCons (mCB (one strD) (mCons (mOp mulD (mVar 3) (mVar 4)) mNil)) mNil)))) (gN 5)) mNext)
      [some (.ref u), some (fr q), some (.int (q.num.natAbs : Int)), some (.int (q.den : Int)), some (.int (m : Int)), some (.lst [.str (sk (numL (q.num.natAbs * m)))])] S2
        = .go .nx [some (.ref u), some (fr q), some (.int (q.num.natAbs : Int)), some (.int (q.den : Int)), some (.int (m : Int)), some (.lst (tksD ((numL (q.num.natAbs * m), K.num) :: botT b)))] S3 ∧ (b = none ∧ q.den = 1 ∧ m = 1 ∨ b = some (numL (q.den * m))) ∧ Urn u (k + 3) S3 ∧ But u S2 S3 := by
    have lit : ("/" : Str) = sk [47] := by decide +kernel
    have st2 : ∀ S3 : Store, strD (.int ((q.den : Int) * m)) S3 = .ok (.str (sk (numL (q.den * m)))) S3 := fun S3 => by
      have := s_strN (n := q.den * m) S3 (by omega)
      rw [Int.natCast_mul] at this
      exact this
    by_cases c1 : q.den * m > 1
    · have c1' : (1 : Int) < (q.den : Int) * m := by
        have : ((1 : Nat) : Int) < ((q.den * m : Nat) : Int) := by omega
        rw [Int.natCast_mul] at this
        exact this
      refine ⟨some (numL (q.den * m)), S2, ?_, .inr rfl, u2.mono (by omega), But.refl _ _⟩
      simp [-x_mul, mm2, c1', one, st2, addD, tksD, sizeLine, lit, botT]
    · have c1' : ¬ (1 : Int) < (q.den : Int) * m := by
        intro z
        have : ((1 : Nat) : Int) < ((q.den * m : Nat) : Int) := by rw [Int.natCast_mul]; exact z
        omega
      have dm : 1 ≤ q.den * m := Nat.mul_pos hd0 m1
      obtain ⟨v, S3, e3, v0, v1, u3, b3⟩ := s_pull (m := 3) (n := 20) u2 (by decide) (by unfold Sz; decide) (by decide) (by omega)
      by_cases c2 : v = 0
      · subst c2
        have mm3 := mul_ok S3 (show Sz 20 (q.den : Int) by unfold Sz; omega) (show Sz 20 (m : Int) by unfold Sz; omega) (by decide)
        refine ⟨some (numL (q.den * m)), S3, ?_, .inr rfl, u3, b3⟩
        simp [-x_mul, mm2, mm3, c1', one, st2, addD, tksD, sizeLine, lit, e3, botT]
      · have c2' : (v == 0) = false := by rw [beq_eq_false_iff_ne]; exact c2
        have hdm : q.den * m = 1 := by omega
        refine ⟨none, S3, ?_, .inl ⟨rfl, Nat.eq_one_of_mul_eq_one_right hdm, Nat.eq_one_of_mul_eq_one_left hdm⟩, u3, b3⟩
        simp [-x_mul, mm2, c1', e3, c2', tksD, botT]
  obtain ⟨b, S3, e3, hb, u3, b3⟩ := tail
  have b03 : But u S S3 := (b1.trans b2).trans b3
  have sgnv : ∃ (neg : Bool) (S4 : Store), mIf (mOr (mB (mOp ltD (mOp ixD (mVar 1) (mC (.int 0))) (mC (.int 0)))) (mAnd (mB (mOp eqD (mOp ixD (mVar 1) (mC (.int 0))) (mC (.int 0)))) (mB (mOp eqD (mCall 2 m_L_pull (mCons (mVar 0) (mCons (mC (.int 4)) mNil))) (mC (.int 0)))))) (mLst (mCons (mC (.str "-")) mNil)) (mLst mNil)
      [some (.ref u), some (fr q), some (.int (q.num.natAbs : Int)), some (.int (q.den : Int)), some (.int (m : Int)), some (.lst (tksD ((numL (q.num.natAbs * m), K.num) :: botT b)))] S3 = .ok (.lst (tksD (if neg = true then [([45], K.sym)] else []))) S4 ∧ (if neg = true then -(q.num.natAbs : Int) else q.num.natAbs) = q.num ∧ Urn u (k + 4) S4 ∧ But u S S4 := by
    have lit : ("-" : Str) = sk [45] := by decide +kernel
    generalize (D.lst (tksD ((numL (q.num.natAbs * m), K.num) :: botT b))) = T5
    by_cases c1 : q.num < 0
    · refine ⟨true, S3, ?_, by simp; omega, u3.mono (by omega), b03⟩
      simp [c1, sizeLine, tksD, lit]
    · by_cases c2 : q.num = 0
      · obtain ⟨v, S4, e4, v0, v1, u4, b4⟩ := s_pull (m := 4) (n := 20) u3 (by decide) (by unfold Sz; decide) (by decide) (by omega)
        have c2' : (q.num == 0) = true := by rw [c2]; rfl
        have c3' : decide (q.num < 0) = false := by rw [c2]; rfl
        by_cases c4 : v = 0
        · subst c4
          refine ⟨true, S4, ?_, by simp [c2], u4, b03.trans b4⟩
          simp [c3', c2', e4, sizeLine, tksD, lit]
        · have c4' : (v == 0) = false := by rw [beq_eq_false_iff_ne]; exact c4
          refine ⟨false, S4, ?_, by simp [c2], u4, b03.trans b4⟩
          simp [c3', c2', e4, c4', sizeLine, tksD]
      · have c2' : (q.num == 0) = false := by rw [beq_eq_false_iff_ne]; exact c2
        have c3' : decide (q.num < 0) = false := by simpa using c1
        refine ⟨false, S3, ?_, by simp; omega, u3.mono (by omega), b03⟩
        simp [c3', c2', sizeLine, tksD]
  obtain ⟨neg, S4, e4, hneg, u4, b4⟩ := sgnv
  let rest : List (List Nat × K) := (numL (q.num.natAbs * m), K.num) :: botT b
  have hv : (if neg = true then -(NumText.digitsVal (numL (q.num.natAbs * m)) : Int) else NumText.digitsVal (numL (q.num.natAbs * m))) = q.num * m := by
    rw [numL_val, Int.natCast_mul]
    rw [← hneg]
    cases neg <;> simp [Int.neg_mul, hneg]
  refine ⟨(if neg = true then [([45], K.sym)] else []) ++ rest, S4, ?_, ⟨neg, numL (q.num.natAbs * m), b, by cases b <;> rfl, ?_⟩, ?_, ?_, u4, b4⟩
  · have rl : rest.length ≤ 3 := by
      simp only [rest]
      cases b <;> simp [botT]
    have ad : addD (.lst (tksD (if neg = true then [([45], K.sym)] else []))) (.lst (tksD rest)) S4 = .ok (.lst (tksD ((if neg = true then [([45], K.sym)] else []) ++ rest))) S4 := by
      have : (tksD (if neg = true then [([45], K.sym)] else [])).length ≤ 1 := by cases neg <;> simp [tksD]
      have h2 : (tksD rest).length ≤ 3 := by simpa [tksD] using rl
      simp only [addD, lstOf_lst]
      rw [if_pos (by rw [show sizeLine = 16777216 from rfl]; omega), tksD_app]
    unfold m_L_number_tokens
    have e3r : (D.lst (tksD ((numL (q.num.natAbs * m), K.num) :: botT b))) = .lst (tksD rest) := rfl
    rw [e3r] at e3 e4
    simp [ab, hmax, fd, hmax2, two, e1, e2, sizeLine, -x_mul, mm1, one, st1, -x_ifS, e3, -x_if, e4, ad]
  · rcases hb with ⟨rfl, h1, h2⟩ | rfl
    · show q = Rat.divInt (if neg = true then -(NumText.digitsVal (numL (q.num.natAbs * m)) : Int) else NumText.digitsVal (numL (q.num.natAbs * m))) 1
      rw [hv, h2]
      have := Rat.num_divInt_den q
      rw [h1] at this
      simpa using this.symm
    · show NumText.digitsVal (numL (q.den * m)) ≠ 0 ∧ q = Rat.divInt (if neg = true then -(NumText.digitsVal (numL (q.num.natAbs * m)) : Int) else NumText.digitsVal (numL (q.num.natAbs * m))) (NumText.digitsVal (numL (q.den * m)))
      rw [hv, numL_val, Int.natCast_mul]
      refine ⟨Nat.ne_of_gt (Nat.mul_pos hd0 m1), ?_⟩
      rw [Rat.divInt_mul_right (by omega), Rat.num_divInt_den]
  · intro w hw
    have t1 : TV (numL (q.num.natAbs * m)) K.num := tv_num l1
    have t2 : TV [45] K.sym := .sym (by decide)
    have t3 : TV [47] K.sym := .sym (by decide)
    rcases List.mem_append.mp hw with hw | hw
    · cases neg with
      | false => simp at hw
      | true =>
        have : w = ([45], K.sym) := by simpa using hw
        rw [this]; exact t2
    · rcases hb with ⟨rfl, h1, h2⟩ | rfl
      · have : w = (numL (q.num.natAbs * m), K.num) := by simpa [rest, botT] using hw
        rw [this]; exact t1
      · have : w = (numL (q.num.natAbs * m), K.num) ∨ w = ([47], K.sym) ∨ w = (numL (q.den * m), K.num) := by simpa [rest, botT] using hw
        rcases this with e | e | e <;> rw [e]
        · exact t1
        · exact t3
        · exact tv_num l2
  · simp only [rest, List.length_append, List.length_cons]
    cases neg <;> cases b <;> simp [botT]
end DL

/-! Plain laws: what is drawn: names. -/
namespace DL
open PySem PySem.Spec PyProof.Rows L2 TL
/-- a comprehension over numbers whose turns pull at the urn -/
theorem lc_pull {u i : Nat} {te : EM} {ρ : Env} {P : D → Prop} (c : Nat) : ∀ (ds : List D) (k : Nat) (S : Store), Urn u k S → k + c * ds.length < 2 ^ 60 → (∀ (d : D) (k' : Nat) (S' : Store), d ∈ ds → k' < 2 ^ 60 → Urn u k' S' → But u S S' → ∃ (y : D) (S2 : Store), te (ρ.set i (some d)) S' = .ok y S2 ∧ P y ∧ Urn u (k' + c) S2 ∧ But u S' S2) →
    ∃ (ys : List D) (S' : Store), mLcL (gN i) mYes te ρ ds S = .ok ys S' ∧ ys.length = ds.length ∧ (∀ y ∈ ys, P y) ∧ Urn u (k + c * ds.length) S' ∧ But u S S'
  | [], k, S, hu, hk, h => ⟨[], S, rfl, rfl, by simp, by simpa using hu, But.refl _ _⟩
  | d :: ds, k, S, hu, hk, h => by
    rw [List.length_cons, Nat.mul_add, Nat.mul_one] at hk
    obtain ⟨y, S1, e1, p1, u1, b1⟩ := h d k S List.mem_cons_self (by omega) hu (But.refl _ _)
    obtain ⟨ys, S2, e2, l2, p2, u2, b2⟩ := lc_pull c ds (k + c) S1 u1 (by omega) fun d' k' S' hd hk' hu' hb' => h d' k' S' (List.mem_cons_of_mem _ hd) hk' hu' (b1.trans hb')
    refine ⟨y :: ys, S2, ?_, by simp [l2], fun z hz => ?_, ?_, b1.trans b2⟩
    · simp [mLcL, e1, e2]
    · rcases List.mem_cons.mp hz with rfl | hz
      · exact p1
      · exact p2 z hz
    · rw [List.length_cons, show k + c * (ds.length + 1) = k + c + c * ds.length by rw [Nat.mul_add]; omega]
      exact u2
theorem rangeL_len (n : Nat) : (rangeL 0 n).length = n := by simp [rangeL]
theorem x_range {fa : EM} {ρ : Env} {S S' : Store} {j : Int} (h : fa ρ S = .ok (.int j) S') (h0 : 0 ≤ j) (h1 : j < 1000000) : mRange1 fa ρ S = .ok (rangeL 0 j.toNat) S' := by
  unfold mRange1
  rw [h]
  exact if_pos ⟨by omega, by omega⟩
theorem seq_asg {f : EM} {i : Nat} {K : SM} {ρ : Env} {S S' : Store} {d : D} (h : f ρ S = .ok d S') : mSeq (mAsg f (gN i)) K ρ S = K (ρ.set i (some d)) S' := by simp [h]
theorem seq_ifF {c : BM} {f K : SM} {ρ : Env} {S S' : Store} (h : c ρ S = .ok false S') : mSeq (mIfS c f mNext) K ρ S = K ρ S' := by simp [h]
theorem ret_ok {f : EM} {ρ : Env} {S S' : Store} {d : D} (h : f ρ S = .ok d S') : mRet f ρ S = .go (.rt d) ρ S' := by simp [h]
/-- joined signs -/
theorem s_join0 {ys : List D} {p : Nat → Bool} (S : Store) (h : ∀ y ∈ ys, ∃ c, p c = true ∧ y = .str (sk [c])) (hl : ys.length ≤ 1000) : ∃ w : List Nat, joinD (.str "") (.lst ys) S = .ok (.str (sk w)) S ∧ w.length = ys.length ∧ ∀ c ∈ w, p c = true := by
  have : ∃ w : List Nat, ys = w.map (fun c => D.str (sk [c])) ∧ ∀ c ∈ w, p c = true := by
    clear hl S
    induction ys with
    | nil => exact ⟨[], rfl, by simp⟩
    | cons y ys ih =>
      obtain ⟨c, hc, rfl⟩ := h y List.mem_cons_self
      obtain ⟨w, rfl, hw⟩ := ih fun z hz => h z (List.mem_cons_of_mem _ hz)
      exact ⟨c :: w, rfl, fun d hd => by
        rcases List.mem_cons.mp hd with rfl | hd
        · exact hc
        · exact hw d hd⟩
  obtain ⟨w, rfl, hw⟩ := this
  have st : ∀ w : List Nat, strsD (w.map fun c => D.str (sk [c])) = some (w.map fun c => sk [c]) := fun w => by
    induction w with
    | nil => rfl
    | cons c w ih => simp [strsD, ih]
  have sm : ∀ w : List Nat, ((w.map fun c => sk [c]).map (·.length)).sum = w.length := fun w => by
    induction w with
    | nil => rfl
    | cons c w ih => simp at ih ⊢; omega
  have jl : ∀ l : List (List Nat), joinL [] l = l.flatten := fun l => by
    induction l with
    | nil => rfl
    | cons a l ih =>
      cases l with
      | nil => simp [joinL]
      | cons b l => simp only [joinL, List.nil_append, ih, List.flatten_cons]
  have fl : ∀ w : List Nat, (w.map fun c => [c]).flatten = w := fun w => by
    induction w with
    | nil => rfl
    | cons c w ih => simp [ih]
  have e : Txt.join "" (w.map fun c => sk [c]) = sk w := by
    refine ext_tl ?_
    rw [join_eq, tl_join, List.map_map]
    rw [show tl ("" : Str) = [] by decide +kernel, jl]
    show (w.map fun c => [c]).flatten = _
    rw [fl, tl_sk]
  refine ⟨w, ?_, by simp, hw⟩
  simp only [joinD, seqOf_lst, st]
  rw [if_pos (by
    rw [sm]
    rw [show ("" : Str).length = 0 by decide +kernel]
    simp at hl
    omega), e]
/-- a text as the list of its signs -/
theorem s_listT {z : Str} (S : Store) (h : (tl z).length ≤ 10000) : listT (.str z) S = .ok (.lst ((tl z).map fun c => D.str (sk [c]))) S := by
  simp only [listT]
  rw [if_pos (by simpa using h)]
  rfl
def isName (w : List Nat) : Bool := (match w with
  | c :: _ => isSm c
  | [] => false) && w.all isW && !decide (w ∈ kws) && decide (w.length ≤ 8)
theorem tv_name {w : List Nat} (h : isName w = true) : TV w .name := by
  unfold isName at h
  cases w with
  | nil => simp at h
  | cons c r =>
    simp only [Bool.and_eq_true, decide_eq_true_eq, Bool.not_eq_true', decide_eq_false_iff_not] at h
    exact .name h.1.1.1 (fun d hd => List.all_eq_true.mp h.1.1.2 d hd) h.1.2 h.2
/-- names that may stand in a plan -/
structure NmsOk (ns : List Str) : Prop where
  nd : ns.Nodup
  tv : ∀ n ∈ ns, TV (tl n) .name
  l6 : ns.length ≤ 6
theorem NmsOk.take {ns : List Str} (h : ns.Nodup) (ht : ∀ n ∈ ns, TV (tl n) .name) {m : Nat} (hm : m ≤ 6) : NmsOk (ns.take m) :=
  ⟨h.sublist (List.take_sublist _ _), fun n hn => ht n (List.mem_of_mem_take hn), by rw [List.length_take]; omega⟩
def own1 : List Str := ["x", "y", "x1", "x12", "z", "u"]
def own2 : List Str := ["lines", "drifted", "where1", "andy", "l", "d"]
theorem own1_ok : own1.Nodup ∧ (own1.all fun n => isName (tl n)) = true := ⟨by decide +kernel, by decide +kernel⟩
theorem own2_ok : own2.Nodup ∧ (own2.all fun n => isName (tl n)) = true := ⟨by decide +kernel, by decide +kernel⟩
theorem cut_take (l : List D) (m : Nat) : cutD l none (some (m : Int)) = l.take m := by
  unfold cutD
  rw [HT.sIx_none, HT.sIx_nat, List.drop_zero, Nat.sub_zero]
  apply List.ext_getElem?
  intro k
  simp only [List.getElem?_take]
  by_cases h1 : k < m
  · by_cases h2 : k < l.length
    · rw [if_pos (by omega), if_pos h1]
    · rw [if_neg (by omega), if_pos h1, List.getElem?_eq_none (by omega)]
  · rw [if_neg (by omega), if_neg h1]
theorem isW_sm {c : Nat} (h : isSm c = true) : isW c = true := by unfold isW; rw [h]; rfl
/-- a drawn name -/
def nameL (h t : List Nat) (f : Nat) (k : Nat) : List Nat := h ++ [97 + (f + 5 * k) % 26] ++ t ++ [113]
theorem nameL_ok {h t : List Nat} {f : Nat} (hh : ∀ c ∈ h, isSm c = true) (ht : ∀ c ∈ t, isW c = true) (lh : h.length ≤ 3) (lt : t.length ≤ 3) (k : Nat) : TV (nameL h t f k) .name := by
  have sm : isSm (97 + (f + 5 * k) % 26) = true := by
    unfold isSm
    have := Nat.mod_lt (f + 5 * k) (show 0 < 26 by decide)
    simp; omega
  have all : ∀ d ∈ nameL h t f k, isW d = true := fun d hd => by
    unfold nameL at hd
    simp only [List.mem_append, List.mem_singleton] at hd
    rcases hd with ((hd | hd) | hd) | hd
    · exact isW_sm (hh d hd)
    · rw [hd]; exact isW_sm sm
    · exact ht d hd
    · rw [hd]; decide
  have len : (nameL h t f k).length ≤ 8 := by unfold nameL; simp; omega
  have nk : nameL h t f k ∉ kws := fun z => by
    have : (nameL h t f k).getLast? = some 113 := by unfold nameL; exact List.getLast?_concat
    have hk : ∀ w ∈ kws, w.getLast? ≠ some 113 := by decide
    exact hk _ z this
  have first : ∃ c r, nameL h t f k = c :: r ∧ isSm c = true := by
    unfold nameL
    cases h with
    | nil => exact ⟨_, _, rfl, sm⟩
    | cons c r => exact ⟨c, _, rfl, hh c List.mem_cons_self⟩
  obtain ⟨c, r, e, hc⟩ := first
  rw [e] at all len nk ⊢
  exact .name hc all nk len
theorem nameL_inj {h t : List Nat} {f i j : Nat} (hi : i < 6) (hj : j < 6) (e : nameL h t f i = nameL h t f j) : i = j := by
  unfold nameL at e
  rw [List.append_left_inj, List.append_left_inj, List.append_right_inj] at e
  injection e with e _
  omega
def ownD : D := .lst [.lst [.str "x", .str "y", .str "x1", .str "x12", .str "z", .str "u"], .lst [.str "lines", .str "drifted", .str "where1", .str "andy", .str "l", .str "d"]]
theorem names_e {u m fn j : Nat} {hd t : List Nat} {x6 x7 : Option D} (S6 : Store) (lh : hd.length ≤ 3) (lt : t.length ≤ 3) (hj6 : j < 6) : e_L_names_1 [some (.ref u), some (.int (m : Nat)), some (.str "abcdefghijklmnopqrstuvwxyz"), some (.str (sk hd)), some (.str (sk t)), some (.int (fn : Nat)), x6, some (.int (j : Nat))] S6 = .ok (.str (sk (nameL hd t fn j))) S6 := by
  have r26 : tl ("abcdefghijklmnopqrstuvwxyz" : Str) = List.range' 97 26 := by decide +kernel
  have hq : ("q" : Str) = sk [113] := by decide +kernel
  have em := mul_ok S6 (show Sz 3 (5 : Int) by unfold Sz; decide) (show Sz 3 (j : Int) by unfold Sz; omega) (by decide)
  have fm : Int.fmod ((fn : Int) + 5 * (j : Int)) 26 = (((fn + 5 * j) % 26 : Nat) : Int) := by
    rw [Int.fmod_eq_emod_of_nonneg _ (by decide)]
    omega
  have lt26 := Nat.mod_lt (fn + 5 * j) (show 0 < 26 by decide)
  have ix : ixD (.str "abcdefghijklmnopqrstuvwxyz") (.int (((fn + 5 * j) % 26 : Nat) : Int)) S6 = .ok (.str (sk [97 + (fn + 5 * j) % 26])) S6 := by
    have := ix_str (l := List.range' 97 26) (i := (fn + 5 * j) % 26) (c := 97 + (fn + 5 * j) % 26) S6 (by
      rw [List.getElem?_range' lt26]; simp) (by decide)
    rw [← r26, sk_tl] at this
    exact this
  have a1 := add_str (a := hd) (b := [97 + (fn + 5 * j) % 26]) S6 (by rw [show sizeLine = 16777216 from rfl]; simp; omega)
  have a2 := add_str (a := hd ++ [97 + (fn + 5 * j) % 26]) (b := t) S6 (by rw [show sizeLine = 16777216 from rfl]; simp; omega)
  have a3 := add_str (a := hd ++ [97 + (fn + 5 * j) % 26] ++ t) (b := [113]) S6 (by rw [show sizeLine = 16777216 from rfl]; simp; omega)
  have nm : nameL hd t fn j = hd ++ [97 + (fn + 5 * j) % 26] ++ t ++ [113] := rfl
  generalize (fn + 5 * j) % 26 = v at *
  simp only [List.append_assoc, List.cons_append, List.nil_append] at a1 a2 a3 nm
  rw [nm]
  simp only [e_L_names_1, x_op, x_var, x_c, R.bind_ok, List.getElem?_cons_zero, List.getElem?_cons_succ, em, x_add, x_mod, fm]
  simp [ix, a1, a2, a3, hq]
theorem names_lc {u m fn : Nat} {hd t : List Nat} (S6 : Store) (lh : hd.length ≤ 3) (lt : t.length ≤ 3) (hm : m ≤ 6) : mLc [7] (mRange1 (mVar 1)) (gN 7) mYes e_L_names_1 [some (.ref u), some (.int (m : Nat)), some (.str "abcdefghijklmnopqrstuvwxyz"), some (.str (sk hd)), some (.str (sk t)), some (.int (fn : Nat)), some ownD, none] S6 = .ok (.lst (((List.range m).map fun j => sk (nameL hd t fn j)).map .str)) S6 := by
  have lc := lc_map (i := 7) (te := e_L_names_1) (ρ := [some (.ref u), some (.int (m : Nat)), some (.str "abcdefghijklmnopqrstuvwxyz"), some (.str (sk hd)), some (.str (sk t)), some (.int (fn : Nat)), some ownD, none]) (S := S6) (ds := rangeL 0 m) (f := fun d => match d with
    | .int j => .str (sk (nameL hd t fn j.toNat))
    | d => d) (fun d hd' => by
    unfold rangeL at hd'
    obtain ⟨j, hj, rfl⟩ := List.mem_map.mp hd'
    have hj6 : j < 6 := by have := List.mem_range.mp hj; omega
    have := names_e (u := u) (m := m) (fn := fn) (x6 := some ownD) (x7 := none) S6 lh lt hj6
    rw [show ((0 : Int) + (j : Nat)) = (j : Int) by omega]
    show e_L_names_1 _ S6 = .ok (.str (sk (nameL hd t fn ((j : Int)).toNat))) S6
    rw [show ((j : Int)).toNat = j by omega]
    exact this)
  have em : (rangeL 0 m).map (fun d => match d with
    | .int j => .str (sk (nameL hd t fn j.toNat))
    | d => d) = (((List.range m).map fun j => sk (nameL hd t fn j)).map D.str) := by
    unfold rangeL
    rw [List.map_map, List.map_map]
    apply List.map_congr_left
    intro j _
    show D.str (sk (nameL hd t fn (0 + (j : Int)).toNat)) = .str (sk (nameL hd t fn j))
    rw [show (0 + (j : Int)).toNat = j by omega]
  rw [em] at lc
  have rg := x_range (fa := mVar 1) (ρ := [some (.ref u), some (.int (m : Nat)), some (.str "abcdefghijklmnopqrstuvwxyz"), some (.str (sk hd)), some (.str (sk t)), some (.int (fn : Nat)), some ownD, none]) (S := S6) (S' := S6) (j := (m : Int)) rfl (by omega) (by omega)
  have zm : (rangeL 0 m).length ≤ sizeLine := by rw [rangeL_len, show sizeLine = 16777216 from rfl]; omega
  show mLcF fzL [7] _ _ _ _ _ _ = _
  unfold mLcF
  rw [rg]
  simp only [R.bind_ok]
  rw [Int.toNat_natCast, if_pos zm]
  show (mLcL (gN 7) mYes e_L_names_1 [some (.ref u), some (.int (m : Nat)), some (.str "abcdefghijklmnopqrstuvwxyz"), some (.str (sk hd)), some (.str (sk t)), some (.int (fn : Nat)), some ownD, none] (rangeL 0 m) S6).bind fzL = _
  rw [lc]
  rfl
theorem s_names {u k : Nat} {S : Store} {m : Nat} (h : Urn u k S) (hk : k < 2 ^ 59) (hm : m ≤ 6) : ∃ (ns : List Str) (S' : Store), m_L_names [.ref u, .int (m : Nat)] S = .ok (.lst (ns.map .str)) S' ∧ NmsOk ns ∧ Urn u (k + 20) S' ∧ But u S S' := by
  have letters : ∀ c ∈ tl ("abcdefghijklmnopqrstuvwxyz" : Str), isSm c = true := fun c hc => by rw [← mem_small]; simpa using hc
  have both : ∀ c ∈ tl (("abcdefghijklmnopqrstuvwxyz" : Str) ++ ("0123456789" : Str)), isW c = true := fun c hc => by rw [← mem_both]; simpa using hc
  have ad : ∀ S, addD (.str "abcdefghijklmnopqrstuvwxyz") (.str "0123456789") S = .ok (.str (("abcdefghijklmnopqrstuvwxyz" : Str) ++ ("0123456789" : Str))) S := fun S => by
    simp only [addD]
    rw [if_pos (by decide +kernel)]
  have l1 : (tl ("abcdefghijklmnopqrstuvwxyz" : Str)).length = 26 := by decide +kernel
  have l2 : (tl (("abcdefghijklmnopqrstuvwxyz" : Str) ++ ("0123456789" : Str))).length = 36 := by decide +kernel
  obtain ⟨r1, S1, e1, r10, r11, u1, b1⟩ := s_pull (m := 4) (n := 20) h (by decide) (by unfold Sz; decide) (by decide) (by omega)
  obtain ⟨ys, S2, e2, ly, py, u2, b2⟩ := lc_pull (i := 7) (te := e_L_names_3) (ρ := [some (.ref u), some (.int (m : Nat)), some (.str "abcdefghijklmnopqrstuvwxyz"), none, none, none, none, none]) (P := fun y => ∃ c, isSm c = true ∧ y = .str (sk [c])) 1 (rangeL 0 r1.toNat) (k + 1) S1 u1 (by rw [rangeL_len]; omega) (fun d k' S' hd hk' hu' hb' => by
    obtain ⟨y, S3, e, hy, u3, b3⟩ := s_item (l := (tl ("abcdefghijklmnopqrstuvwxyz" : Str)).map fun c => D.str (sk [c])) hu' (by intro z; rw [List.map_eq_nil_iff] at z; rw [z] at l1; simp at l1) (by rw [List.length_map, l1]; decide) (by omega)
    obtain ⟨c, hc, rfl⟩ := List.mem_map.mp hy
    refine ⟨_, S3, ?_, ⟨c, letters c hc, rfl⟩, u3, b3⟩
    have lt := s_listT (z := "abcdefghijklmnopqrstuvwxyz") S' (by rw [l1]; decide)
    simp only [e_L_names_3, x_call, x_cons, x_cb, x_var, x_nil, R.bind_ok, List.set, List.getElem?_cons_zero, List.getElem?_cons_succ, one, lt]
    simp [e])
  rw [rangeL_len, Nat.one_mul] at u2
  rw [rangeL_len] at ly
  obtain ⟨hd, ej, lh, ph⟩ := s_join0 S2 py (by omega)
  obtain ⟨r3, S3, e3, r30, r31, u3, b3⟩ := s_pull (m := 4) (n := 20) u2 (by decide) (by unfold Sz; decide) (by decide) (by omega)
  obtain ⟨zs, S4, e4, lz, pz, u4, b4⟩ := lc_pull (i := 7) (te := e_L_names_2) (ρ := [some (.ref u), some (.int (m : Nat)), some (.str "abcdefghijklmnopqrstuvwxyz"), some (.str (sk hd)), none, none, none, none]) (P := fun y => ∃ c, isW c = true ∧ y = .str (sk [c])) 1 (rangeL 0 r3.toNat) (k + 1 + r1.toNat + 1) S3 u3 (by rw [rangeL_len]; omega) (fun d k' S' hd' hk' hu' hb' => by
    obtain ⟨y, S5, e, hy, u5, b5⟩ := s_item (l := (tl (("abcdefghijklmnopqrstuvwxyz" : Str) ++ ("0123456789" : Str))).map fun c => D.str (sk [c])) hu' (by intro z; rw [List.map_eq_nil_iff] at z; rw [z] at l2; simp at l2) (by rw [List.length_map, l2]; decide) (by omega)
    obtain ⟨c, hc, rfl⟩ := List.mem_map.mp hy
    refine ⟨_, S5, ?_, ⟨c, both c hc, rfl⟩, u5, b5⟩
    have lt := s_listT (z := ("abcdefghijklmnopqrstuvwxyz" : Str) ++ ("0123456789" : Str)) S' (by rw [l2]; decide)
    simp only [e_L_names_2, x_call, x_cons, x_cb, x_var, x_nil, x_op, x_c, R.bind_ok, List.set, List.getElem?_cons_zero, List.getElem?_cons_succ, one, ad, lt]
    simp [e])
  rw [rangeL_len, Nat.one_mul] at u4
  rw [rangeL_len] at lz
  obtain ⟨t, ek, lt, pt⟩ := s_join0 S4 pz (by omega)
  obtain ⟨f, S5, e5, f0, f1, u5, b5⟩ := s_pull (m := 26) (n := 20) u4 (by decide) (by unfold Sz; decide) (by decide) (by omega)
  obtain ⟨w, S6, e6, w0, w1, u6, b6⟩ := s_pull (m := 3) (n := 20) u5 (by decide) (by unfold Sz; decide) (by decide) (by omega)
  have b06 : But u S S6 := ((((b1.trans b2).trans b3).trans b4).trans b5).trans b6
  have g1 : -4611686018427387904 ≤ r1 ∧ r1 < 4611686018427387904 := by omega
  have g3 : -4611686018427387904 ≤ r3 ∧ r3 < 4611686018427387904 := by omega
  have z1 : r1.toNat ≤ sizeLine := by rw [show sizeLine = 16777216 from rfl]; omega
  have z3 : r3.toNat ≤ sizeLine := by rw [show sizeLine = 16777216 from rfl]; omega
  have A : ∀ (K : SM), mSeq (mAsg (mC (.str "abcdefghijklmnopqrstuvwxyz")) (gN 2))
    (mSeq (mAsg (mStr1 joinD (mC (.str "")) (mLc [7] (mRange1 (mCall 2 m_L_pull (mCons (mVar 0) (mCons (mC (.int 4)) mNil)))) (gN 7) mYes e_L_names_3)) (gN 3))
    (mSeq (mAsg (mStr1 joinD (mC (.str "")) (mLc [7] (mRange1 (mCall 2 m_L_pull (mCons (mVar 0) (mCons (mC (.int 4)) mNil)))) (gN 7) mYes e_L_names_2)) (gN 4))
    (mSeq (mAsg (mCall 2 m_L_pull (mCons (mVar 0) (mCons (mC (.int 26)) mNil))) (gN 5)) K))) (start0 8 [.ref u, .int (m : Nat)]) S = K [some (.ref u), some (.int (m : Nat)), some (.str "abcdefghijklmnopqrstuvwxyz"), some (.str (sk hd)), some (.str (sk t)), some (.int f), none, none] S5 := fun K => by
    simp [mRange1, e1, g1, rangeL_len, z1, wipeD, e2, fzL, ej, e3, g3, z3, e4, ek, e5]
  have own : (D.lst [.lst (own1.map .str), .lst (own2.map .str)]) = .lst [.lst [.str "x", .str "y", .str "x1", .str "x12", .str "z", .str "u"], .lst [.str "lines", .str "drifted", .str "where1", .str "andy", .str "l", .str "d"]] := rfl
  by_cases hw : w = 0
  · subst hw
    obtain ⟨d, S7, e7, hd7, u7, b7⟩ := s_item (l := [.lst (own1.map .str), .lst (own2.map .str)]) u6 (by simp) (by simp) (by omega)
    rw [own] at e7
    obtain ⟨ns, rfl, n1, n2⟩ : ∃ ns : List Str, d = .lst (ns.map .str) ∧ ns.Nodup ∧ (ns.all fun n => isName (tl n)) = true := by
      simp only [List.mem_cons, List.not_mem_nil, or_false] at hd7
      rcases hd7 with rfl | rfl
      · exact ⟨own1, rfl, own1_ok.1, own1_ok.2⟩
      · exact ⟨own2, rfl, own2_ok.1, own2_ok.2⟩
    refine ⟨ns.take m, S7, ?_, NmsOk.take n1 (fun n hn => tv_name (List.all_eq_true.mp n2 n hn)) hm, u7.mono (by omega), b06.trans b7⟩
    have ct := cut_take (ns.map D.str) m
    unfold m_L_names
    rw [x_fun, A]
    rw [List.map_take, ← ct]
    simp [sizeLine, e6, e7, slD, mPart]
  · have hw' : (w == 0) = false := by rw [beq_eq_false_iff_ne]; exact hw
    obtain ⟨fn, rfl⟩ := Int.eq_ofNat_of_zero_le f0
    have lc := names_lc (u := u) (m := m) (fn := fn) (hd := hd) (t := t) S6 (by omega) (by omega) hm
    refine ⟨(List.range m).map fun j => sk (nameL hd t fn j), S6, ?_, ⟨?_, fun n hn => ?_, by simpa using hm⟩, u6.mono (by omega), b06⟩
    · obtain ⟨out, hout⟩ : ∃ out, out = (((List.range m).map fun j => sk (nameL hd t fn j)).map D.str) := ⟨_, rfl⟩
      rw [← hout] at lc ⊢
      have o1 : mLst (mCons (mLst (mCons (mC (.str "x")) (mCons (mC (.str "y")) (mCons (mC (.str "x1")) (mCons (mC (.str "x12")) (mCons (mC (.str "z")) (mCons (mC (.str "u")) mNil))))))) (mCons (mLst (mCons (mC (.str "lines")) (mCons (mC (.str "drifted")) (mCons (mC (.str "where1")) (mCons (mC (.str "andy")) (mCons (mC (.str "l")) (mCons (mC (.str "d")) mNil))))))) mNil)) [some (.ref u), some (.int (m : Nat)), some (.str "abcdefghijklmnopqrstuvwxyz"), some (.str (sk hd)), some (.str (sk t)), some (.int (fn : Nat)), none, none] S5 = .ok ownD S5 := by
        simp [sizeLine, ownD]
      generalize ownD = od at lc o1
      have B := A (mSeq (mAsg (mLst (mCons (mLst (mCons (mC (.str "x")) (mCons (mC (.str "y")) (mCons (mC (.str "x1")) (mCons (mC (.str "x12")) (mCons (mC (.str "z")) (mCons (mC (.str "u")) mNil))))))) (mCons (mLst (mCons (mC (.str "lines")) (mCons (mC (.str "drifted")) (mCons (mC (.str "where1")) (mCons (mC (.str "andy")) (mCons (mC (.str "l")) (mCons (mC (.str "d")) mNil))))))) mNil))) (gN 6))
  (mSeq (mIfS (mB (mOp eqD (mCall 2 m_L_pull (mCons (mVar 0) (mCons (mC (.int 3)) mNil))) (mC (.int 0)))) (mRet (mSl (mCall 2 m_L_item (mCons (mVar 0) (mCons (mVar 6) mNil))) mNoP (mPart (mVar 1)))) mNext)
  (mRet (mLc [7] (mRange1 (mVar 1)) (gN 7) mYes e_L_names_1))))
      have C : (mSeq (mAsg (mLst (mCons (mLst (mCons (mC (.str "x")) (mCons (mC (.str "y")) (mCons (mC (.str "x1")) (mCons (mC (.str "x12")) (mCons (mC (.str "z")) (mCons (mC (.str "u")) mNil))))))) (mCons (mLst (mCons (mC (.str "lines")) (mCons (mC (.str "drifted")) (mCons (mC (.str "where1")) (mCons (mC (.str "andy")) (mCons (mC (.str "l")) (mCons (mC (.str "d")) mNil))))))) mNil))) (gN 6))
  (mSeq (mIfS (mB (mOp eqD (mCall 2 m_L_pull (mCons (mVar 0) (mCons (mC (.int 3)) mNil))) (mC (.int 0)))) (mRet (mSl (mCall 2 m_L_item (mCons (mVar 0) (mCons (mVar 6) mNil))) mNoP (mPart (mVar 1)))) mNext)
  (mRet (mLc [7] (mRange1 (mVar 1)) (gN 7) mYes e_L_names_1)))) [some (.ref u), some (.int (m : Nat)), some (.str "abcdefghijklmnopqrstuvwxyz"), some (.str (sk hd)), some (.str (sk t)), some (.int (fn : Nat)), none, none] S5 = .go (.rt (.lst out)) [some (.ref u), some (.int (m : Nat)), some (.str "abcdefghijklmnopqrstuvwxyz"), some (.str (sk hd)), some (.str (sk t)), some (.int (fn : Nat)), some od, none] S6 := by
        have p3 : mB (mOp eqD (mCall 2 m_L_pull (mCons (mVar 0) (mCons (mC (.int 3)) mNil))) (mC (.int 0))) [some (.ref u), some (.int (m : Nat)), some (.str "abcdefghijklmnopqrstuvwxyz"), some (.str (sk hd)), some (.str (sk t)), some (.int (fn : Nat)), some od, none] S5 = .ok false S6 := by
          simp [e6, hw']
        exact (seq_asg o1).trans ((seq_ifF p3).trans (ret_ok lc))
      rw [C] at B
      show mFun 8 _ _ _ = _
      rw [x_fun, B]
    · rw [List.nodup_iff_pairwise_ne, List.pairwise_map]
      refine List.Pairwise.imp_of_mem ?_ (List.nodup_iff_pairwise_ne.mp List.nodup_range)
      intro i j hi hj hne z
      have hi' := List.mem_range.mp hi
      have hj' := List.mem_range.mp hj
      exact hne (nameL_inj (by omega) (by omega) (sk_inj z))
    · obtain ⟨j, _, rfl⟩ := List.mem_map.mp hn
      rw [tl_sk]
      exact nameL_ok ph pt (by omega) (by omega) j
end DL

/-! Plain laws: what is drawn: lines. -/
namespace DL
open PySem PySem.Spec PyProof.Rows L2 TL
theorem seq_asgG {f : EM} {g : GM} {K : SM} {ρ ρ' : Env} {S S' S2 : Store} {d : D} (h : f ρ S = .ok d S') (hg : g d ρ S' = some (ρ', S2)) : mSeq (mAsg f g) K ρ S = K ρ' S2 := by simp [h, hg]
theorem seq_ifT {c : BM} {f g K : SM} {ρ : Env} {S S' : Store} (h : c ρ S = .ok true S') : mSeq (mIfS c f g) K ρ S = mSeq f K ρ S' := by simp [h]
theorem if_t {c : BM} {f g : SM} {ρ : Env} {S S' : Store} (h : c ρ S = .ok true S') : mIfS c f g ρ S = f ρ S' := by simp [h]
theorem if_f {c : BM} {f g : SM} {ρ : Env} {S S' : Store} (h : c ρ S = .ok false S') : mIfS c f g ρ S = g ρ S' := by simp [h]
theorem seq_nx {f K : SM} {ρ ρ' : Env} {S S' : Store} (h : f ρ S = .go .nx ρ' S') : mSeq f K ρ S = K ρ' S' := by simp [h]
theorem Urn.set {u k p : Nat} {S : Store} (h : Urn u k S) (hp : p ≠ u) (o : Ob) : Urn u k (S.set p o) := by
  obtain ⟨ns, a, v, h1, h2⟩ := h.ex
  exact ⟨ns, a, v, by rw [List.getElem?_set_ne hp]; exact h1, h2⟩
theorem Urn.kp {u k : Nat} {us : List Nat} {S S' : Store} (h : Urn u k S) (b : Kp us S S') (hu : u ∉ us) : Urn u k S' := by
  obtain ⟨ns, a, v, h1, h2⟩ := h.ex
  exact ⟨ns, a, v, b.get h1 hu, h2⟩
theorem s_Lsame {n : Nat} {a b c : Rat} {l : Ln} (S : Store) (h1 : RS n a) (h2 : RS n b) (h3 : RS n c) (h4 : RS n l.a) (h5 : RS n l.b) (h6 : RS n l.c) (hn : n < 4000) : m_L_same_place [.tup [fr a, fr b, fr c], .tup [fr l.a, fr l.b, fr l.c]] S = .ok (.bl (sameP a b c l)) S := by
  have p1 := s_Lproduct S h1 h5 (by omega)
  have p2 := s_Lproduct S h2 h4 (by omega)
  have p3 := s_Lproduct S h1 h6 (by omega)
  have p4 := s_Lproduct S h3 h4 (by omega)
  have p5 := s_Lproduct S h2 h6 (by omega)
  have p6 := s_Lproduct S h3 h5 (by omega)
  unfold m_L_same_place sameP
  by_cases q1 : a * l.b = b * l.a
  · by_cases q2 : a * l.c = c * l.a
    · by_cases q3 : b * l.c = c * l.b
      · simp [sizeLine, mForL, p1, p2, p3, p4, p5, p6, q1, q2, q3]
      · simp [sizeLine, mForL, p1, p2, p3, p4, p5, p6, q1, q2, q3]
    · simp [sizeLine, mForL, p1, p2, p3, p4, q1, q2]
  · simp [sizeLine, mForL, p1, p2, q1]
/-- a drawn line -/
structure LnN (l : Ln) : Prop where
  a : Nm l.a
  b : Nm l.b
  c : Nm l.c
theorem same_loop {p : Nat} {S : Store} {all : List Ln} {a b c : Rat} (ha : RS 14 a) (hb : RS 14 b) (hc : RS 14 c) (hS : S[p]? = some (.lst (all.map Ln.d))) (ρ : Env) (h8 : ρ[8]? = some (some (.tup [fr a, fr b, fr c]))) (h10 : 10 < ρ.length) : ∀ ls : List Ln, (∀ l ∈ ls, LnN l) →
    ∃ ys : List D, mLcLS p (all.map Ln.d) (gN 10) t_L_lines_2 e_L_lines_1 ρ (ls.map Ln.d) S = .ok ys S ∧ (∀ y ∈ ys, y = .int 1) ∧ (ys = [] ↔ ls.any (sameP a b c) = false)
  | [], _ => ⟨[], by simp [mLcLS, hS], by simp, by simp⟩
  | l :: ls, h => by
    obtain ⟨ys, e, hy, hi⟩ := same_loop ha hb hc hS ρ h8 h10 ls fun m hm => h m (List.mem_cons_of_mem _ hm)
    have hl := h l List.mem_cons_self
    have e1 := s_Lsame S ha hb hc hl.a.rs hl.b.rs hl.c.rs (by decide)
    have c1 : cutD [.str l.nm, fr l.a, fr l.b, fr l.c] (some 1) none = [fr l.a, fr l.b, fr l.c] := rfl
    have p1 := x_part (ρ.set 10 (some (.tup [.str l.nm, fr l.a, fr l.b, fr l.c]))) S (mC (.int 1)) 1 S rfl (by decide)
    have g8 : (ρ.set 10 (some (.tup [.str l.nm, fr l.a, fr l.b, fr l.c])))[8]? = some (some (.tup [fr a, fr b, fr c])) := by rw [List.getElem?_set_ne (by decide)]; exact h8
    have g10 : (ρ.set 10 (some (.tup [.str l.nm, fr l.a, fr l.b, fr l.c])))[10]? = some (some (.tup [.str l.nm, fr l.a, fr l.b, fr l.c])) := by rw [List.getElem?_set_self h10]
    have T : t_L_lines_2 (ρ.set 10 (some l.d)) S = .ok (sameP a b c l) S := by
      simp only [t_L_lines_2, Ln.d, x_b, x_call, x_cons, x_var, g8, g10, R.bind_ok, x_sl, p1, x_noP, slD, c1, x_nil, List.length, e1, x_toB, if_pos]
    cases q : sameP a b c l with
    | true =>
      rw [q] at T
      refine ⟨.int 1 :: ys, ?_, fun y m => ?_, by simp [q]⟩
      · simp only [List.map_cons, mLcLS, hS, if_pos, x_gN, T, R.nx_ok, R.bind_ok, e_L_lines_1, x_c, e]
        simp only [e_L_lines_1] at e
        simp [e]
      · rcases List.mem_cons.mp m with rfl | m
        · rfl
        · exact hy y m
    | false =>
      rw [q] at T
      refine ⟨ys, ?_, hy, by simp [q, hi]⟩
      simp only [List.map_cons, mLcLS, hS, if_pos, x_gN, T, R.nx_ok, R.bind_ok, e, Bool.false_eq_true, if_false]
theorem ones_nil {ys : List D} (h : ∀ y ∈ ys, y = .int 1) (S : Store) : eqD (.lst ys) (.lst []) S = .ok (.bl (decide (ys = []))) S := by
  have hp : plains 63 ys = true := by
    clear S
    induction ys with
    | nil => rfl
    | cons y ys ih =>
      rw [h y List.mem_cons_self]
      simp only [plains, plain, Bool.true_and]
      exact ih fun z m => h z (List.mem_cons_of_mem _ m)
  have := (eqB_nil ys).1
  simp [eqD, plain, plains, hp, this]
theorem fr_01 : D.tup [.int 0, .int 1] = fr 0 := rfl
theorem fr_11 : D.tup [.int 1, .int 1] = fr 1 := rfl
theorem nm_0 : Nm 0 := ⟨by decide, by decide⟩
theorem nm_1 : Nm 1 := ⟨by decide, by decide⟩
theorem lines_turn {u p k : Nat} {S : Store} {ls : List Ln} {nm : Str} {x1 : Option D} (h : Urn u k S) (hk : k < 2 ^ 59) (hp : S[p]? = some (.lst (ls.map Ln.d))) (hpu : p ≠ u) (hs : ∀ l ∈ ls, LnN l) (hl : ls.length ≤ 6) (x4 x5 x6 x7 x8 x9 x10 : Option D) :
    ∃ (ls' : List Ln) (y4 y5 y6 y7 y8 y9 y10 : Option D) (S' : Store), b_L_lines_4 [some (.ref u), x1, some (.ref p), some (.str nm), x4, x5, x6, x7, x8, x9, x10] S = .go .nx [some (.ref u), x1, some (.ref p), some (.str nm), y4, y5, y6, y7, y8, y9, y10] S' ∧
      S'[p]? = some (.lst (ls'.map Ln.d)) ∧ (ls' = ls ∨ ∃ x : Ln, ls' = ls ++ [x] ∧ x.nm = nm ∧ LnN x ∧ ¬ (x.a = 0 ∧ x.b = 0) ∧ ls.any (sameP x.a x.b x.c) = false) ∧ Urn u (k + 20) S' ∧ Kp [u, p] S S' := by
  obtain ⟨ys, S1, e1, ly, py, u1, b1⟩ := lc_pull (i := 9) (te := e_L_lines_3) (ρ := [some (.ref u), x1, some (.ref p), some (.str nm), x4, x5, x6, x7, x8, none, x10]) (P := fun y => ∃ q, y = fr q ∧ Nm q) 4 (rangeL 0 3) k S h (by rw [rangeL_len]; omega) (fun d k' S' hd hk' hu' hb' => by
    obtain ⟨q, S2, e, hq, u2, b2⟩ := s_number hu' (by omega)
    refine ⟨fr q, S2, ?_, ⟨q, rfl, hq⟩, u2, b2⟩
    simp [e_L_lines_3, e])
  rw [rangeL_len] at u1 ly
  obtain ⟨a0, b0, c0, rfl, ha0, hb0, hc0⟩ : ∃ a0 b0 c0 : Rat, ys = [fr a0, fr b0, fr c0] ∧ Nm a0 ∧ Nm b0 ∧ Nm c0 := by
    match ys, ly, py with
    | [y1, y2, y3], _, py =>
      obtain ⟨q1, rfl, h1⟩ := py y1 (by simp)
      obtain ⟨q2, rfl, h2⟩ := py y2 (by simp)
      obtain ⟨q3, rfl, h3⟩ := py y3 (by simp)
      exact ⟨q1, q2, q3, rfl, h1, h2, h3⟩
  obtain ⟨kd, S2, e2, k0, k1, u2, b2⟩ := s_pull (m := 6) (n := 20) u1 (by decide) (by unfold Sz; decide) (by decide) (by omega)
  obtain ⟨w, S3, e3, w0, w1, u3, b3⟩ := s_pull (m := 2) (n := 20) u2 (by decide) (by unfold Sz; decide) (by decide) (by omega)
  have L1 : mLc [9] (mRange1 (mC (.int 3))) (gN 9) mYes e_L_lines_3 [some (.ref u), x1, some (.ref p), some (.str nm), x4, x5, x6, x7, x8, x9, x10] S = .ok (.lst [fr a0, fr b0, fr c0]) S1 := by
    have rg := x_range (fa := mC (.int 3)) (ρ := [some (.ref u), x1, some (.ref p), some (.str nm), x4, x5, x6, x7, x8, x9, x10]) (S := S) (S' := S) (j := 3) rfl (by decide) (by decide)
    show mLcF fzL [9] _ _ _ _ _ _ = _
    unfold mLcF
    rw [rg]
    simp only [R.bind_ok]
    rw [if_pos (by decide)]
    show (mLcL (gN 9) mYes e_L_lines_3 [some (.ref u), x1, some (.ref p), some (.str nm), x4, x5, x6, x7, x8, none, x10] (rangeL 0 3) S).bind fzL = _
    rw [e1]
    rfl
  obtain ⟨a, b, ha, hb, AB⟩ : ∃ a b : Rat, Nm a ∧ Nm b ∧ mIf (mB (mOp eqD (mVar 7) (mC (.int 0)))) (mTup (mCons (mTup (mCons (mC (.int 1)) (mCons (mC (.int 1)) mNil))) (mCons (mTup (mCons (mC (.int 0)) (mCons (mC (.int 1)) mNil))) mNil))) (mIf (mB (mOp eqD (mVar 7) (mC (.int 1)))) (mTup (mCons (mTup (mCons (mC (.int 0)) (mCons (mC (.int 1)) mNil))) (mCons (mTup (mCons (mC (.int 1)) (mCons (mC (.int 1)) mNil))) mNil))) (mTup (mCons (mVar 4) (mCons (mVar 5) mNil)))) [some (.ref u), x1, some (.ref p), some (.str nm), some (fr a0), some (fr b0), some (fr c0), some (.int kd), x8, x9, x10] S2 = .ok (.tup [fr a, fr b]) S2 := by
    by_cases q1 : kd = 0
    · subst q1
      refine ⟨1, 0, nm_1, nm_0, ?_⟩
      simp [sizeLine, fr_01, fr_11]
    · have q1' : (kd == 0) = false := by rw [beq_eq_false_iff_ne]; exact q1
      by_cases q2 : kd = 1
      · subst q2
        refine ⟨0, 1, nm_0, nm_1, ?_⟩
        simp [sizeLine, fr_01, fr_11]
      · have q2' : (kd == 1) = false := by rw [beq_eq_false_iff_ne]; exact q2
        refine ⟨a0, b0, ha0, hb0, ?_⟩
        simp [sizeLine, q1', q2']
  obtain ⟨c, hc, CC⟩ : ∃ c : Rat, Nm c ∧ mIf (mB (mOp eqD (mCall 2 m_L_pull (mCons (mVar 0) (mCons (mC (.int 2)) mNil))) (mC (.int 0)))) (mTup (mCons (mC (.int 0)) (mCons (mC (.int 1)) mNil))) (mVar 6) [some (.ref u), x1, some (.ref p), some (.str nm), some (fr a), some (fr b), some (fr c0), some (.int kd), x8, x9, x10] S2 = .ok (fr c) S3 := by
    by_cases q1 : w = 0
    · subst q1
      refine ⟨0, nm_0, ?_⟩
      simp [sizeLine, e3, fr_01]
    · have q1' : (w == 0) = false := by rw [beq_eq_false_iff_ne]; exact q1
      refine ⟨c0, hc0, ?_⟩
      simp [e3, q1']
  have b03 : But u S S3 := (b1.trans b2).trans b3
  have hp3 : S3[p]? = some (.lst (ls.map Ln.d)) := by rw [b03.at_ p hpu]; exact hp
  have kp3 : Kp [u, p] S S3 := b03.kp.mono (by simp)
  obtain ⟨zs, e4, hz, hzi⟩ := same_loop ha.rs hb.rs hc.rs hp3 [some (.ref u), x1, some (.ref p), some (.str nm), some (fr a), some (fr b), some (fr c), some (.int kd), some (.tup [fr a, fr b, fr c]), x9, none] rfl (by simp) ls hs
  have LS : mLcS fzL [10] (mVar 2) (gN 10) t_L_lines_2 e_L_lines_1 [some (.ref u), x1, some (.ref p), some (.str nm), some (fr a), some (fr b), some (fr c), some (.int kd), some (.tup [fr a, fr b, fr c]), x9, x10] S3 = .ok (.lst zs) S3 := by
    have hz' : (ls.map Ln.d).length ≤ sizeLine := by rw [List.length_map, show sizeLine = 16777216 from rfl]; omega
    simp only [mLcS, x_var, List.getElem?_cons_zero, List.getElem?_cons_succ, R.bind_ok, placeD, hp3]
    rw [if_pos hz']
    simp only [wipeD, List.set, e4, fzL, R.bind_ok]
  have EQ := ones_nil hz S3
  have NE := x_neFr2 a b 0 0 S3
  rw [← fr_01] at NE
  -- the turn, up to the question
  have U : ∀ K : SM, mSeq (mAsg (mLc [9] (mRange1 (mC (.int 3))) (gN 9) mYes e_L_lines_3) (gTupM 3 (gConsM (gN 4) (gConsM (gN 5) (gConsM (gN 6) gNilM)))))
      (mSeq (mAsg (mCall 2 m_L_pull (mCons (mVar 0) (mCons (mC (.int 6)) mNil))) (gN 7))
      (mSeq (mAsg (mIf (mB (mOp eqD (mVar 7) (mC (.int 0)))) (mTup (mCons (mTup (mCons (mC (.int 1)) (mCons (mC (.int 1)) mNil))) (mCons (mTup (mCons (mC (.int 0)) (mCons (mC (.int 1)) mNil))) mNil))) (mIf (mB (mOp eqD (mVar 7) (mC (.int 1)))) (mTup (mCons (mTup (mCons (mC (.int 0)) (mCons (mC (.int 1)) mNil))) (mCons (mTup (mCons (mC (.int 1)) (mCons (mC (.int 1)) mNil))) mNil))) (mTup (mCons (mVar 4) (mCons (mVar 5) mNil))))) (gTupM 2 (gConsM (gN 4) (gConsM (gN 5) gNilM))))
      (mSeq (mAsg (mIf (mB (mOp eqD (mCall 2 m_L_pull (mCons (mVar 0) (mCons (mC (.int 2)) mNil))) (mC (.int 0)))) (mTup (mCons (mC (.int 0)) (mCons (mC (.int 1)) mNil))) (mVar 6)) (gN 6))
      (mSeq (mAsg (mTup (mCons (mVar 4) (mCons (mVar 5) (mCons (mVar 6) mNil)))) (gN 8)) K)))) [some (.ref u), x1, some (.ref p), some (.str nm), x4, x5, x6, x7, x8, x9, x10] S
      = K [some (.ref u), x1, some (.ref p), some (.str nm), some (fr a), some (fr b), some (fr c), some (.int kd), some (.tup [fr a, fr b, fr c]), x9, x10] S3 := fun K => by
    refine (seq_asgG L1 (ρ' := [some (.ref u), x1, some (.ref p), some (.str nm), some (fr a0), some (fr b0), some (fr c0), x7, x8, x9, x10]) (S2 := S1) (by simp)).trans ?_
    refine (seq_asg (d := .int kd) (S' := S2) (by simp [e2])).trans ?_
    refine (seq_asgG (ρ' := [some (.ref u), x1, some (.ref p), some (.str nm), some (fr a), some (fr b), some (fr c0), some (.int kd), x8, x9, x10]) (S2 := S2) AB (by simp)).trans ?_
    refine (seq_asg CC).trans ?_
    exact seq_asg (d := .tup [fr a, fr b, fr c]) (S' := S3) (by simp [sizeLine])
  have W : b_L_lines_4 [some (.ref u), x1, some (.ref p), some (.str nm), x4, x5, x6, x7, x8, x9, x10] S = _ := U _
  by_cases q : ¬ (a = 0 ∧ b = 0) ∧ ls.any (sameP a b c) = false
  · have qz : zs = [] := hzi.mpr q.2
    subst qz
    have qn : (!(decide (a = 0) && decide (b = 0))) = true := by
      rw [← Bool.decide_and, decide_eq_false q.1]; rfl
    rw [qn] at NE
    have cnd : mAnd (mB (mOp neD (mTup (mCons (mVar 4) (mCons (mVar 5) mNil))) (mTup (mCons (mTup (mCons (mC (.int 0)) (mCons (mC (.int 1)) mNil))) (mCons (mTup (mCons (mC (.int 0)) (mCons (mC (.int 1)) mNil))) mNil))))) (mB (mOp eqD (mLcS fzL [10] (mVar 2) (gN 10) t_L_lines_2 e_L_lines_1) (mLst mNil))) [some (.ref u), x1, some (.ref p), some (.str nm), some (fr a), some (fr b), some (fr c), some (.int kd), some (.tup [fr a, fr b, fr c]), x9, x10] S3 = .ok true S3 := by
      simp [sizeLine, NE, LS, EQ]
    let x : Ln := ⟨nm, a, b, c⟩
    have il : isL (.ref p) S3 = true := by simp [isL, lstOf, hp3]
    have ad : addD (.tup [.str nm]) (.tup [fr a, fr b, fr c]) S3 = .ok x.d S3 := by
      simp [addD, sizeLine, x, Ln.d]
    have ap : appendD (.ref p) [x.d] S3 = .ok .non (S3.set p (.lst ((ls ++ [x]).map Ln.d))) := by
      simp [appendD, hp3]
      rw [show sizeLine = 16777216 from rfl]; omega
    refine ⟨ls ++ [x], some (fr a), some (fr b), some (fr c), some (.int kd), some (.tup [fr a, fr b, fr c]), x9, x10, S3.set p (.lst ((ls ++ [x]).map Ln.d)), ?_, set_at hp3 _, .inr ⟨x, rfl, rfl, ⟨ha, hb, hc⟩, q.1, q.2⟩, (u3.mono (by omega)).set hpu _, kp3.trans (Kp.set _ _ (by simp))⟩
    rw [W, if_t cnd]
    simp [il, sizeLine, ad, ap]
  · have cnd : mAnd (mB (mOp neD (mTup (mCons (mVar 4) (mCons (mVar 5) mNil))) (mTup (mCons (mTup (mCons (mC (.int 0)) (mCons (mC (.int 1)) mNil))) (mCons (mTup (mCons (mC (.int 0)) (mCons (mC (.int 1)) mNil))) mNil))))) (mB (mOp eqD (mLcS fzL [10] (mVar 2) (gN 10) t_L_lines_2 e_L_lines_1) (mLst mNil))) [some (.ref u), x1, some (.ref p), some (.str nm), some (fr a), some (fr b), some (fr c), some (.int kd), some (.tup [fr a, fr b, fr c]), x9, x10] S3 = .ok false S3 := by
      by_cases q0 : a = 0 ∧ b = 0
      · have qn : (!(decide (a = 0) && decide (b = 0))) = false := by
          rw [← Bool.decide_and, decide_eq_true q0]; rfl
        rw [qn] at NE
        simp [sizeLine, NE]
      · have qn : (!(decide (a = 0) && decide (b = 0))) = true := by
          rw [← Bool.decide_and, decide_eq_false q0]; rfl
        rw [qn] at NE
        have qz : ¬ zs = [] := fun z => q ⟨q0, hzi.mp z⟩
        rw [decide_eq_false qz] at EQ
        simp [sizeLine, NE, LS, EQ]
    refine ⟨ls, some (fr a), some (fr b), some (fr c), some (.int kd), some (.tup [fr a, fr b, fr c]), x9, x10, S3, ?_, hp3, .inl rfl, u3.mono (by omega), kp3⟩
    rw [W, if_f cnd]
    rfl
end DL

/-! Plain laws: what is drawn: lines of a plan, mixed lists. -/
namespace DL
open PySem PySem.Spec PyProof.Rows L2 TL
structure LsOk (ls : List Ln) : Prop where
  n : ∀ l ∈ ls, LnN l
  ab : ∀ l ∈ ls, ¬ (l.a = 0 ∧ l.b = 0)
  same : ls.Pairwise fun x y => sameP y.a y.b y.c x = false
  nd : (ls.map (·.nm)).Nodup
  tv : ∀ l ∈ ls, TV (tl l.nm) .name
  l6 : ls.length ≤ 6
theorem lines_fold {u p : Nat} {x1 : Option D} (hpu : p ≠ u) : ∀ (rest : List Str) (ls : List Ln) (k : Nat) (S : Store) (x3 x4 x5 x6 x7 x8 x9 x10 : Option D), Urn u k S → k + 20 * rest.length < 2 ^ 58 → S[p]? = some (.lst (ls.map Ln.d)) → LsOk ls → (ls.map (·.nm) ++ rest).Nodup → (∀ n ∈ rest, TV (tl n) .name) → ls.length + rest.length ≤ 6 →
    ∃ (ls' : List Ln) (y3 y4 y5 y6 y7 y8 y9 y10 : Option D) (S' : Store), mForL (gN 3) b_L_lines_4 (rest.map D.str) [some (.ref u), x1, some (.ref p), x3, x4, x5, x6, x7, x8, x9, x10] S = .go .nx [some (.ref u), x1, some (.ref p), y3, y4, y5, y6, y7, y8, y9, y10] S' ∧ S'[p]? = some (.lst (ls'.map Ln.d)) ∧ LsOk ls' ∧ Urn u (k + 20 * rest.length) S' ∧ Kp [u, p] S S'
  | [], ls, k, S, x3, x4, x5, x6, x7, x8, x9, x10, hu, hk, hp, P, hn, ht, hl => ⟨ls, x3, x4, x5, x6, x7, x8, x9, x10, S, rfl, hp, P, by simpa using hu, Kp.refl _ _⟩
  | nm :: rest, ls, k, S, x3, x4, x5, x6, x7, x8, x9, x10, hu, hk, hp, P, hn, ht, hl => by
    simp only [List.length_cons] at hk hl
    obtain ⟨ls1, y4, y5, y6, y7, y8, y9, y10, S1, e1, p1, q1, u1, k1⟩ := lines_turn (nm := nm) (x1 := x1) hu (by omega) hp hpu P.n P.l6 x4 x5 x6 x7 x8 x9 x10
    have P1 : LsOk ls1 ∧ (ls1.map (·.nm) ++ rest).Nodup ∧ ls1.length + rest.length ≤ 6 := by
      rcases q1 with rfl | ⟨x, rfl, hx, hN, hab, hsm⟩
      · refine ⟨P, hn.sublist ?_, by omega⟩
        exact List.Sublist.append_left (List.sublist_cons_self nm rest) _
      · have hn' : ((ls ++ [x]).map (·.nm) ++ rest).Nodup := by
          rw [List.map_append, List.append_assoc]
          simpa [hx] using hn
        refine ⟨⟨fun l hl => ?_, fun l hl => ?_, ?_, hn'.sublist (List.sublist_append_left _ _), fun l hl => ?_, by simp; omega⟩, hn', by simp; omega⟩
        · rcases List.mem_append.mp hl with h | h
          · exact P.n l h
          · rw [List.mem_singleton.mp h]; exact hN
        · rcases List.mem_append.mp hl with h | h
          · exact P.ab l h
          · rw [List.mem_singleton.mp h]; exact hab
        · rw [List.pairwise_append]
          refine ⟨P.same, by simp, fun a ha b hb => ?_⟩
          rw [List.mem_singleton.mp hb]
          have := List.any_eq_false.mp hsm a ha
          simpa using this
        · rcases List.mem_append.mp hl with h | h
          · exact P.tv l h
          · rw [List.mem_singleton.mp h, hx]; exact ht nm List.mem_cons_self
    obtain ⟨ls', z3, z4, z5, z6, z7, z8, z9, z10, S2, e2, p2, q2, u2, k2⟩ := lines_fold hpu rest ls1 (k + 20) S1 (some (.str nm)) y4 y5 y6 y7 y8 y9 y10 u1 (by omega) p1 P1.1 P1.2.1 (fun n hn => ht n (List.mem_cons_of_mem _ hn)) P1.2.2
    refine ⟨ls', z3, z4, z5, z6, z7, z8, z9, z10, S2, ?_, p2, q2, ?_, k1.trans k2⟩
    · simp only [List.map_cons, mForL, x_gN, List.set, e1]
      exact e2
    · rw [List.length_cons, show k + 20 * (rest.length + 1) = k + 20 + 20 * rest.length by omega]; exact u2
theorem s_lines {u k m : Nat} {S : Store} (h : Urn u k S) (hk : k < 2 ^ 57) (hm : m ≤ 6) (hu : u < S.length) : ∃ (ls : List Ln) (S' : Store), m_L_lines [.ref u, .int (m : Nat)] S = .ok (.tup (ls.map Ln.d)) S' ∧ LsOk ls ∧ Urn u (k + 200) S' ∧ Kp [u] S S' := by
  have k0 : Kp [u] S (S ++ [.lst []]) := Kp.app _ _ _
  obtain ⟨ns, S1, e1, hn, u1, b1⟩ := s_names (h.kp (Kp.app [] S [.lst []]) (by simp)) (by omega) hm
  have hp : S1[S.length]? = some (.lst (([] : List Ln).map Ln.d)) := by rw [b1.at_ _ (by omega)]; simp
  obtain ⟨ls, y3, y4, y5, y6, y7, y8, y9, y10, S2, e2, p2, P, u2, k2⟩ := lines_fold (x1 := some (.int (m : Nat))) (p := S.length) (by omega) ns [] (k + 20) S1 none none none none none none none none u1 (by have := hn.l6; omega) hp ⟨by simp, by simp, by simp, by simp, by simp, by simp⟩ (by simpa using hn.nd) hn.tv (by simpa using hn.l6)
  refine ⟨ls, S2, ?_, P, u2.mono (by have := hn.l6; omega), (k0.trans b1.kp).then k2 fun v hv => ?_⟩
  · have t : tupleD (.ref S.length) S2 = .ok (.tup (ls.map Ln.d)) S2 := by simp [tupleD, lstOf, p2]
    unfold m_L_lines
    simp [sizeLine, e1, e2, one, t]
  · simp at hv
    rcases hv with rfl | rfl
    · exact .inl (by simp)
    · exact .inr (Nat.le_refl _)
/-! ### mixed lists -/
theorem cnds_eqnil {cs : List (Str × Int)} {R : Nat} {S : Store} (hR : S[R]? = some (.lst (cs.map cnd))) (hn : ∀ c ∈ cs, PyData.strOk c.1 = true) : neD (.ref R) (.lst []) S = .ok (.bl (!decide (cs = []))) S := by
  have h1 := plain_cnds (n := 62) hn
  have h2 := (eqB_nil (cs.map cnd)).1
  simp [neD, der_ref hR, plain, h1, plains, h2]
theorem map_erase {α β : Type} (f : α → β) (l : List α) (j : Nat) : (l.map f).eraseIdx j = (l.eraseIdx j).map f := by
  simp [List.eraseIdx_eq_take_drop_succ, List.map_take, List.map_drop]
theorem perm_erase {α : Type} : ∀ (l : List α) (j : Nat) (h : j < l.length), (l[j] :: l.eraseIdx j).Perm l
  | [], j, h => absurd h (Nat.not_lt_zero j)
  | a :: l, 0, h => List.Perm.refl _
  | a :: l, j + 1, h => by
    have hj : j < l.length := by simpa using h
    have ih := perm_erase l j hj
    show (l[j] :: a :: l.eraseIdx j).Perm (a :: l)
    exact (List.Perm.swap a l[j] _).trans (ih.cons a)
theorem seqIx {j n : Nat} (h : j < n) : seqIndex? ((j : Nat) : Int) n = some j := by
  unfold seqIndex?
  simp
  omega
theorem mixed_loop {u r f : Nat} {d1 : Option D} (hru : r ≠ u) (hfu : f ≠ u) (hrf : r ≠ f) : ∀ (n : Nat) (cs acc : List (Str × Int)) (k : Nat) (S : Store), cs.length = n → Urn u k S → k + n < 2 ^ 58 → S[r]? = some (.lst (cs.map cnd)) → S[f]? = some (.lst (acc.map cnd)) → (∀ c ∈ cs, PyData.strOk c.1 = true) → cs.length + acc.length ≤ 100 →
    ∃ (out : List (Str × Int)) (S' : Store), mWhile t_L_mixed_1 b_L_mixed_2 [some (.ref u), d1, some (.ref r), some (.ref f)] S = .go .nx [some (.ref u), d1, some (.ref r), some (.ref f)] S' ∧ S'[f]? = some (.lst (out.map cnd)) ∧ out.Perm (acc ++ cs) ∧ Urn u (k + n) S' ∧ Kp [u, r, f] S S'
  | 0, cs, acc, k, S, hn, hu, hk, hr, hf, hs, hl => by
    have : cs = [] := List.eq_nil_of_length_eq_zero hn
    subst this
    have ne := cnds_eqnil hr hs
    refine ⟨acc, S, ?_, hf, by simp, hu, Kp.refl _ _⟩
    rw [mWhile_eq]
    simp at ne
    simp [t_L_mixed_1, sizeLine, ne]
  | n + 1, cs, acc, k, S, hn, hu, hk, hr, hf, hs, hl => by
    have hne : ¬ cs = [] := fun z => by subst z; simp at hn
    have ne := cnds_eqnil hr hs
    rw [decide_eq_false hne] at ne
    obtain ⟨j0, S1, e1, j1, j2, u1, b1⟩ := s_pull (m := (cs.length : Int)) (n := 20) hu (by omega) (by unfold Sz; omega) (by decide) (by omega)
    obtain ⟨j, rfl⟩ := Int.eq_ofNat_of_zero_le j1
    have hj : j < cs.length := by omega
    have hr1 : S1[r]? = some (.lst (cs.map cnd)) := by rw [b1.at_ r hru]; exact hr
    have hf1 : S1[f]? = some (.lst (acc.map cnd)) := by rw [b1.at_ f hfu]; exact hf
    have ln : lenD (.ref r) S = .ok (.int (cs.length : Nat)) S := by simp [lenD, lstOf, hr]
    have il1 : isL (.ref r) S = true := by simp [isL, lstOf, hr]
    have il2 : isL (.ref f) S = true := by simp [isL, lstOf, hf]
    have pp : popD (.ref r) [.int (j : Nat)] S1 = .ok (cnd cs[j]) (S1.set r (.lst ((cs.eraseIdx j).map cnd))) := by
      have g : (cs.map cnd)[j]? = some (cnd cs[j]) := by rw [List.getElem?_map, List.getElem?_eq_getElem hj]; rfl
      simp only [popD, hr1, List.length_map, seqIx hj, g]
      rw [if_pos (by omega)]
      rw [map_erase]
    have hr2 := set_at hr1 (.lst ((cs.eraseIdx j).map cnd))
    have hf2 := get_ne (x := Ob.lst ((cs.eraseIdx j).map cnd)) hf1 (Ne.symm hrf)
    have ap : appendD (.ref f) [cnd cs[j]] (S1.set r (.lst ((cs.eraseIdx j).map cnd))) = .ok .non ((S1.set r (.lst ((cs.eraseIdx j).map cnd))).set f (.lst ((acc ++ [cs[j]]).map cnd))) := by
      simp [appendD, hf2]
      rw [show sizeLine = 16777216 from rfl]; omega
    have hl' : (cs.eraseIdx j).length = n := by rw [List.length_eraseIdx, if_pos hj]; omega
    have hr3 := get_ne (x := Ob.lst ((acc ++ [cs[j]]).map cnd)) hr2 hrf
    have hf3 := set_at hf2 (.lst ((acc ++ [cs[j]]).map cnd))
    have kp : Kp [u, r, f] S ((S1.set r (.lst ((cs.eraseIdx j).map cnd))).set f (.lst ((acc ++ [cs[j]]).map cnd))) := ((b1.kp.mono (by simp)).trans (Kp.set (us := [u, r, f]) _ _ (by simp))).trans (Kp.set _ _ (by simp))
    have u3 := (u1.set hru (.lst ((cs.eraseIdx j).map cnd))).set hfu (.lst ((acc ++ [cs[j]]).map cnd))
    obtain ⟨out, S', e4, f4, pm, u4, k4⟩ := mixed_loop (d1 := d1) hru hfu hrf n (cs.eraseIdx j) (acc ++ [cs[j]]) (k + 1) _ hl' u3 (by omega) hr3 hf3 (fun c hc => hs c (List.mem_of_mem_eraseIdx hc)) (by simp; omega)
    refine ⟨out, S', ?_, f4, pm.trans ?_, by rw [show k + (n + 1) = k + 1 + n by omega]; exact u4, kp.trans k4⟩
    · rw [mWhile_eq]
      have T : t_L_mixed_1 [some (.ref u), d1, some (.ref r), some (.ref f)] S = .ok true S := by simp [t_L_mixed_1, sizeLine, ne]
      have B : b_L_mixed_2 [some (.ref u), d1, some (.ref r), some (.ref f)] S = .go .nx [some (.ref u), d1, some (.ref r), some (.ref f)] ((S1.set r (.lst ((cs.eraseIdx j).map cnd))).set f (.lst ((acc ++ [cs[j]]).map cnd))) := by
        simp [b_L_mixed_2, il1, il2, one, ln, e1, pp, -List.map_append]
        simp at ap
        simp [ap]
      rw [T]
      simp only [R.to_ok, if_true]
      rw [B]
      exact e4
    · rw [List.append_assoc]
      refine List.Perm.append_left acc ?_
      exact perm_erase cs j hj
theorem s_mixed {u c k : Nat} {S : Store} {cs : List (Str × Int)} (h : Urn u k S) (hk : k < 2 ^ 57) (hu : u < S.length) (hc : S[c]? = some (.lst (cs.map cnd))) (hs : ∀ c ∈ cs, PyData.strOk c.1 = true) (hl : cs.length ≤ 6) : ∃ (out : List (Str × Int)) (S' : Store), m_L_mixed [.ref u, .ref c] S = .ok (.lst (out.map cnd)) S' ∧ out.Perm cs ∧ Urn u (k + 6) S' ∧ Kp [u] S S' := by
  have ln : listN (.ref c) S = .ok (.ref S.length) (S ++ [.lst (cs.map cnd)]) := by simp [listN, lstOf, hc]
  have k0 : Kp [u] S ((S ++ [.lst (cs.map cnd)]) ++ [.lst []]) := (Kp.app _ _ _).trans (Kp.app _ _ _)
  obtain ⟨out, S', e1, f1, pm, u1, k1⟩ := mixed_loop (d1 := some (.ref c)) (r := S.length) (f := S.length + 1) (by omega) (by omega) (by omega) cs.length cs [] k ((S ++ [.lst (cs.map cnd)]) ++ [.lst []]) rfl ((h.kp (Kp.app [] S _) (by simp)).kp (Kp.app [] _ _) (by simp)) (by omega) (by rw [List.getElem?_append_left (by simp)]; simp) (by simp) hs (by simp; omega)
  have fz : frzD (.ref (S.length + 1)) S' = .ok (.lst (out.map cnd)) (S'.set (S.length + 1) .dead) := by simp [frzD, f1]
  refine ⟨out, S'.set (S.length + 1) .dead, ?_, by simpa using pm, (u1.mono (by omega)).set (by omega) _, ((k0.then k1 ?_).then (Kp.set (us := [S.length + 1]) S' .dead (by simp)) ?_)⟩
  · unfold m_L_mixed
    simp [one, ln, sizeLine] at e1 ⊢
    simp [e1, fz]
  · intro v hv
    simp at hv
    rcases hv with rfl | rfl | rfl
    · exact .inl (by simp)
    · exact .inr (Nat.le_refl _)
    · exact .inr (Nat.le_succ _)
  · intro v hv
    exact .inr (by rw [List.mem_singleton.mp hv]; exact Nat.le_succ _)
end DL

/-! Plain laws: what is drawn: plans. -/
namespace DL
open PySem PySem.Spec PyProof.Rows L2 TL
theorem conds_fold {u c : Nat} {d1 d2 d3 d4 x7 : Option D} (hcu : c ≠ u) : ∀ (ls : List Ln) (cs : List (Str × Int)) (k : Nat) (S : Store) (x6 : Option D), Urn u k S → k + 2 * ls.length < 2 ^ 58 → S[c]? = some (.lst (cs.map cnd)) → cs.length + ls.length ≤ 100 →
    ∃ (ds : List (Str × Int)) (y6 : Option D) (S' : Store), mForL (gN 6) b_L_plan_1 (ls.map Ln.d) [some (.ref u), d1, d2, d3, d4, some (.ref c), x6, x7] S = .go .nx [some (.ref u), d1, d2, d3, d4, some (.ref c), y6, x7] S' ∧ S'[c]? = some (.lst ((cs ++ ds).map cnd)) ∧ (ds.map (·.1)).Sublist (ls.map (·.nm)) ∧ (∀ c ∈ ds, c.2 = 1 ∨ c.2 = -1) ∧ Urn u (k + 2 * ls.length) S' ∧ Kp [u, c] S S'
  | [], cs, k, S, x6, hu, hk, hc, hl => ⟨[], x6, S, rfl, by simpa using hc, by simp, by simp, by simpa using hu, Kp.refl _ _⟩
  | l :: ls, cs, k, S, x6, hu, hk, hc, hl => by
    simp only [List.length_cons] at hk hl
    obtain ⟨w, S1, e1, w0, w1, u1, b1⟩ := s_pull (m := 2) (n := 20) hu (by decide) (by unfold Sz; decide) (by decide) (by omega)
    have hc1 : S1[c]? = some (.lst (cs.map cnd)) := by rw [b1.at_ c hcu]; exact hc
    by_cases q : w = 0
    · subst q
      obtain ⟨d, S2, e2, hd, u2, b2⟩ := s_item (l := [.int 1, .int (-1)]) u1 (by simp) (by simp) (by omega)
      obtain ⟨v, rfl, hv⟩ : ∃ v : Int, d = .int v ∧ (v = 1 ∨ v = -1) := by
        simp at hd
        rcases hd with rfl | rfl <;> exact ⟨_, rfl, by simp⟩
      have hc2 : S2[c]? = some (.lst (cs.map cnd)) := by rw [b2.at_ c hcu]; exact hc1
      have il : isL (.ref c) S1 = true := by simp [isL, lstOf, hc1]
      have ap : appendD (.ref c) [.tup [.str l.nm, .int v]] S2 = .ok .non (S2.set c (.lst ((cs ++ [(l.nm, v)]).map cnd))) := by
        simp [appendD, hc2, cnd]
        rw [show sizeLine = 16777216 from rfl]; omega
      have hc3 := set_at hc2 (.lst ((cs ++ [(l.nm, v)]).map cnd))
      obtain ⟨ds, y6, S3, e3, c3, sb, hs, u3, k3⟩ := conds_fold (d1 := d1) (d2 := d2) (d3 := d3) (d4 := d4) (x7 := x7) hcu ls (cs ++ [(l.nm, v)]) (k + 2) _ (some l.d) ((u2.set hcu _).mono (by omega)) (by omega) hc3 (by simp; omega)
      refine ⟨(l.nm, v) :: ds, y6, S3, ?_, by simpa using c3, by simpa using sb.cons₂ l.nm, fun c hc => ?_, by rw [List.length_cons, show k + 2 * (ls.length + 1) = k + 2 + 2 * ls.length by omega]; exact u3, (((b1.trans b2).kp.mono (by simp)).trans (Kp.set (us := [u, c]) _ _ (by simp))).trans k3⟩
      · have B : b_L_plan_1 [some (.ref u), d1, d2, d3, d4, some (.ref c), some l.d, x7] S = .go .nx [some (.ref u), d1, d2, d3, d4, some (.ref c), some l.d, x7] (S2.set c (.lst ((cs ++ [(l.nm, v)]).map cnd))) := by
          have i0 : ixD l.d (.int 0) S1 = .ok (.str l.nm) S1 := rfl
          simp [b_L_plan_1, e1, il, i0, sizeLine, e2, ap, -List.map_append]
        simp only [List.map_cons, mForL, x_gN, List.set, B]
        exact e3
      · rcases List.mem_cons.mp hc with rfl | hc
        · exact hv
        · exact hs c hc
    · have q' : (w == 0) = false := by rw [beq_eq_false_iff_ne]; exact q
      obtain ⟨ds, y6, S3, e3, c3, sb, hs, u3, k3⟩ := conds_fold (d1 := d1) (d2 := d2) (d3 := d3) (d4 := d4) (x7 := x7) hcu ls cs (k + 1) S1 (some l.d) u1 (by omega) hc1 (by omega)
      refine ⟨ds, y6, S3, ?_, c3, sb.cons _, hs, u3.mono (by rw [List.length_cons]; omega), (b1.kp.mono (by simp)).trans k3⟩
      have B : b_L_plan_1 [some (.ref u), d1, d2, d3, d4, some (.ref c), some l.d, x7] S = .go .nx [some (.ref u), d1, d2, d3, d4, some (.ref c), some l.d, x7] S1 := by
        simp [b_L_plan_1, e1, q']
      simp only [List.map_cons, mForL, x_gN, List.set, B]
      exact e3
/-- a drawn rule -/
structure RlN (r : Rl) (ls : List Ln) : Prop where
  p : Nm r.p
  q : Nm r.q
  cs : ∀ c ∈ r.cs, c.1 ∈ ls.map (·.nm) ∧ (c.2 = 1 ∨ c.2 = -1)
  nd : (r.cs.map (·.1)).Nodup
  l6 : r.cs.length ≤ 6
theorem tv_str {n : Str} (h : TV (tl n) .name) : PyData.strOk n = true := by
  have asc : Asc (tl n) := by
    have : ∀ (w : List Nat) (k : K), TV w k → k = .name → Asc w := fun w k h => by
      cases h with
      | name h1 h2 h3 h4 =>
        intro _ d hd
        have := h2 d hd
        unfold isW isSm isDg at this
        simp at this
        omega
      | word => intro z; cases z
      | num => intro z; cases z
      | sym => intro z; cases z
    exact this _ _ h rfl
  have := asc.ok
  rw [sk_tl] at this
  exact this
theorem plan_turn {u R k : Nat} {S : Store} {ls : List Ln} {rs : List Rl} {d2 : Option D} (h : Urn u k S) (hk : k < 2 ^ 56) (hu : u < S.length) (hR : S[R]? = some (.lst (rs.map Rl.d))) (hRu : R ≠ u) (P : LsOk ls) (hrl : rs.length < 100) (x4 x5 x6 x7 : Option D) :
    ∃ (rs' : List Rl) (y5 y6 y7 : Option D) (S' : Store), b_L_plan_2 [some (.ref u), some (.tup (ls.map Ln.d)), d2, some (.ref R), x4, x5, x6, x7] S = .go .nx [some (.ref u), some (.tup (ls.map Ln.d)), d2, some (.ref R), x4, y5, y6, y7] S' ∧ S'[R]? = some (.lst (rs'.map Rl.d)) ∧ (rs' = rs ∨ ∃ x, rs' = rs ++ [x] ∧ RlN x ls ∧ x.cs ≠ []) ∧ Urn u (k + 30) S' ∧ Kp [u, R] S S' := by
  have Rl0 := (List.getElem?_eq_some_iff.mp hR).1
  have k0 : Kp [u, R] S (S ++ [.lst []]) := Kp.app _ _ _
  have hu0 := h.kp (Kp.app [] S [.lst []]) (by simp)
  obtain ⟨cs, y6, S1, e1, c1, sb, hs, u1, k1⟩ := conds_fold (d1 := some (.tup (ls.map Ln.d))) (d2 := d2) (d3 := some (.ref R)) (d4 := x4) (x7 := x7) (c := S.length) (by omega) ls [] k (S ++ [.lst []]) x6 hu0 (by have := P.l6; omega) (by simp) (by have := P.l6; simp; omega)
  rw [List.nil_append] at c1
  have hR1 : S1[R]? = some (.lst (rs.map Rl.d)) := k1.get (by rw [List.getElem?_append_left Rl0]; exact hR) (by simp; omega)
  obtain ⟨p, S2, e2, hp, u2, b2⟩ := s_number u1 (by have := P.l6; omega)
  obtain ⟨q, S3, e3, hq, u3, b3⟩ := s_number u2 (by have := P.l6; omega)
  have b13 := b2.trans b3
  have c3 : S3[S.length]? = some (.lst (cs.map cnd)) := by rw [b13.at_ _ (by omega)]; exact c1
  have hR3 : S3[R]? = some (.lst (rs.map Rl.d)) := by rw [b13.at_ _ hRu]; exact hR1
  have cl : cs.length ≤ 6 := by
    have := sb.length_le
    simp at this
    have := P.l6
    omega
  have cn : ∀ c ∈ cs, c.1 ∈ ls.map (·.nm) := fun c hc => sb.subset (List.mem_map_of_mem hc)
  have cstr : ∀ c ∈ cs, PyData.strOk c.1 = true := fun c hc => by
    obtain ⟨l, hl, e⟩ := List.mem_map.mp (cn c hc)
    rw [← e]; exact tv_str (P.tv l hl)
  have nd : (cs.map (·.1)).Nodup := P.nd.sublist sb
  have ne := cnds_eqnil c3 cstr
  have hu' : ∀ v ∈ [u, S.length], v ∈ [u, R] ∨ S.length ≤ v := fun v hv => by
    simp at hv
    rcases hv with rfl | rfl
    · exact .inl (by simp)
    · exact .inr (Nat.le_refl _)
  have k3 : Kp [u, R] S S3 := (k0.then k1 hu').trans (b13.kp.mono (by simp))
  have W : ∀ K : SM, mSeq (mAsg (mNew mNil) (gN 5)) (mSeq (mFor (mIt (mVar 1)) (gN 6) b_L_plan_1) (mSeq (mAsg (mTup (mCons (mCall 1 m_L_number (mCons (mVar 0) mNil)) (mCons (mCall 1 m_L_number (mCons (mVar 0) mNil)) mNil))) (gN 7)) K)) [some (.ref u), some (.tup (ls.map Ln.d)), d2, some (.ref R), x4, x5, x6, x7] S = K [some (.ref u), some (.tup (ls.map Ln.d)), d2, some (.ref R), x4, some (.ref S.length), y6, some (.tup [fr p, fr q])] S3 := fun K => by
    refine (seq_asg (d := .ref S.length) (S' := S ++ [.lst []]) (by simp [sizeLine])).trans ?_
    refine (seq_nx (ρ' := [some (.ref u), some (.tup (ls.map Ln.d)), d2, some (.ref R), x4, some (.ref S.length), y6, x7]) (S' := S1) ?_).trans ?_
    · simp only [x_for, x_it, x_var, List.set, List.getElem?_cons_zero, List.getElem?_cons_succ, DL.R.bind_ok, x_itT, DL.R.to_ok]
      exact e1
    · exact seq_asg (d := .tup [fr p, fr q]) (S' := S3) (by simp [e2, e3, sizeLine])
  by_cases q0 : cs = []
  · rw [decide_eq_true q0] at ne
    refine ⟨rs, some (.ref S.length), y6, some (.tup [fr p, fr q]), S3, ?_, hR3, .inl rfl, u3.mono (by have := P.l6; omega), k3⟩
    unfold b_L_plan_2
    rw [W]
    exact if_f (by simp [sizeLine, ne])
  · rw [decide_eq_false q0] at ne
    have hu3 : u < S3.length := by
      have := k3.len
      omega
    obtain ⟨out, S4, e4, pm, u4, k4⟩ := s_mixed u3 (by have := P.l6; omega) hu3 c3 cstr cl
    let x : Rl := ⟨p, q, out⟩
    have hR4 : S4[R]? = some (.lst (rs.map Rl.d)) := k4.get hR3 (by simpa using hRu)
    have il : isL (.ref R) S3 = true := by simp [isL, lstOf, hR3]
    have ap : appendD (.ref R) [x.d] S4 = .ok .non (S4.set R (.lst ((rs ++ [x]).map Rl.d))) := by
      simp [appendD, hR4]
      rw [show sizeLine = 16777216 from rfl]; omega
    refine ⟨rs ++ [x], some (.ref S.length), y6, some (.tup [fr p, fr q]), S4.set R (.lst ((rs ++ [x]).map Rl.d)), ?_, set_at hR4 _, .inr ⟨x, rfl, ⟨hp, hq, fun c hc => ⟨cn c (pm.mem_iff.mp hc), hs c (pm.mem_iff.mp hc)⟩, (pm.map (·.1)).nodup_iff.mpr nd, by have := pm.length_eq; show out.length ≤ 6; omega⟩, fun z => q0 (by
      have z' : out = [] := z
      rw [z'] at pm
      exact pm.symm.eq_nil)⟩, (u4.mono (by have := P.l6; omega)).set hRu _, (k3.trans (k4.mono (by simp))).trans (Kp.set _ _ (by simp))⟩
    unfold b_L_plan_2
    rw [W]
    refine (if_t (S' := S3) (by simp [sizeLine, ne])).trans ?_
    have xd : D.tup [.tup [fr p, fr q], .tup (out.map cnd)] = x.d := rfl
    simp [il, e4, one, sizeLine, xd, ap, -List.map_append]
theorem plan_fold {u R : Nat} {ls : List Ln} {d2 : Option D} (hRu : R ≠ u) (P : LsOk ls) : ∀ (ds : List D) (rs : List Rl) (k : Nat) (S : Store) (x4 x5 x6 x7 : Option D), Urn u k S → k + 30 * ds.length < 2 ^ 55 → u < S.length → S[R]? = some (.lst (rs.map Rl.d)) → rs.length + ds.length < 100 → (∀ r ∈ rs, RlN r ls ∧ r.cs ≠ []) →
    ∃ (rs' : List Rl) (y4 y5 y6 y7 : Option D) (S' : Store), mForL (gN 4) b_L_plan_2 ds [some (.ref u), some (.tup (ls.map Ln.d)), d2, some (.ref R), x4, x5, x6, x7] S = .go .nx [some (.ref u), some (.tup (ls.map Ln.d)), d2, some (.ref R), y4, y5, y6, y7] S' ∧ S'[R]? = some (.lst (rs'.map Rl.d)) ∧ (∀ r ∈ rs', RlN r ls ∧ r.cs ≠ []) ∧ rs'.length ≤ rs.length + ds.length ∧ Urn u (k + 30 * ds.length) S' ∧ Kp [u, R] S S'
  | [], rs, k, S, x4, x5, x6, x7, hu, hk, hul, hR, hl, hP => ⟨rs, x4, x5, x6, x7, S, rfl, hR, hP, Nat.le_refl _, by simpa using hu, Kp.refl _ _⟩
  | d :: ds, rs, k, S, x4, x5, x6, x7, hu, hk, hul, hR, hl, hP => by
    simp only [List.length_cons] at hk hl
    obtain ⟨rs1, y5, y6, y7, S1, e1, R1, q1, u1, k1⟩ := plan_turn (d2 := d2) hu (by omega) hul hR hRu P (by omega) (some d) x5 x6 x7
    have P1 : (∀ r ∈ rs1, RlN r ls ∧ r.cs ≠ []) ∧ rs1.length ≤ rs.length + 1 := by
      rcases q1 with rfl | ⟨x, rfl, hx⟩
      · exact ⟨hP, by omega⟩
      · refine ⟨fun r hr => ?_, by simp⟩
        rcases List.mem_append.mp hr with h | h
        · exact hP r h
        · rw [List.mem_singleton.mp h]; exact hx
    obtain ⟨rs', z4, z5, z6, z7, S2, e2, R2, P2, l2, u2, k2⟩ := plan_fold (d2 := d2) hRu P ds rs1 (k + 30) S1 (some d) y5 y6 y7 u1 (by omega) (by have := k1.len; omega) R1 (by have := P1.2; omega) P1.1
    refine ⟨rs', z4, z5, z6, z7, S2, ?_, R2, P2, by rw [List.length_cons]; have := P1.2; omega, by rw [List.length_cons, show k + 30 * (ds.length + 1) = k + 30 + 30 * ds.length by omega]; exact u2, k1.trans k2⟩
    simp only [mForL, x_gN, List.set, e1]
    exact e2
/-- a drawn plan -/
structure PlN (ls : List Ln) (rs : List Rl) : Prop where
  hls : LsOk ls
  hrs : ∃ rs1 r, rs = rs1 ++ [r] ∧ rs1.length ≤ 11 ∧ (∀ x ∈ rs1, RlN x ls ∧ x.cs ≠ []) ∧ RlN r ls ∧ r.cs = []
theorem s_plan {u k m : Nat} {S : Store} {ls : List Ln} (h : Urn u k S) (hk : k < 2 ^ 54) (hu : u < S.length) (P : LsOk ls) (hm : m ≤ 11) : ∃ (rs : List Rl) (S' : Store), m_L_plan [.ref u, .tup (ls.map Ln.d), .int (m : Nat)] S = .ok (planD ls rs) S' ∧ PlN ls rs ∧ Urn u (k + 500) S' ∧ Kp [u] S S' := by
  have k0 : Kp [u] S (S ++ [.lst []]) := Kp.app _ _ _
  obtain ⟨rs1, y4, y5, y6, y7, S1, e1, R1, P1, l1, u1, k1⟩ := plan_fold (u := u) (R := S.length) (d2 := some (.int (m : Nat))) (by omega) P (rangeL 0 m) [] k (S ++ [.lst []]) none none none none (h.kp (Kp.app [] S _) (by simp)) (by rw [rangeL_len]; omega) (by simp; omega) (by simp) (by rw [rangeL_len]; simp; omega) (by simp)
  rw [rangeL_len] at l1 u1
  obtain ⟨p, S2, e2, hp, u2, b2⟩ := s_number u1 (by omega)
  obtain ⟨q, S3, e3, hq, u3, b3⟩ := s_number u2 (by omega)
  have b13 := b2.trans b3
  have hu1 : ∀ v ∈ [u, S.length], v ∈ [u] ∨ S.length ≤ v := fun v hv => by
    simp at hv
    rcases hv with rfl | rfl
    · exact .inl (by simp)
    · exact .inr (Nat.le_refl _)
  have k3 : Kp [u] S S3 := (k0.then k1 hu1).trans (b13.kp)
  let r : Rl := ⟨p, q, []⟩
  refine ⟨rs1 ++ [r], S3, ?_, ⟨P, rs1, r, rfl, by simp at l1; omega, P1, ⟨hp, hq, by simp [r], by simp [r], by simp [r]⟩, rfl⟩, u3.mono (by omega), k3⟩
  have t1 : tupleD (.ref S.length) S1 = .ok (.tup (rs1.map Rl.d)) S1 := by simp [tupleD, lstOf, R1]
  have ad : addD (.tup (rs1.map Rl.d)) (.tup [.tup [.tup [fr p, fr q], .tup []]]) S3 = .ok (.tup ((rs1 ++ [r]).map Rl.d)) S3 := by
    simp only [addD]
    rw [if_pos (by simp at l1 ⊢; rw [show sizeLine = 16777216 from rfl]; omega)]
    simp [r, Rl.d]
  have rg := x_range (fa := mVar 2) (ρ := [some (.ref u), some (.tup (ls.map Ln.d)), some (.int (m : Nat)), some (.ref S.length), none, none, none, none]) (S := S ++ [.lst []]) (S' := S ++ [.lst []]) (j := (m : Int)) rfl (by omega) (by omega)
  have W : mFun 8 (mSeq (mAsg (mNew mNil) (gN 3)) (mSeq (mFor (mRange1 (mVar 2)) (gN 4) b_L_plan_2) (mRet (mTup (mCons (mVar 1) (mCons (mOp addD (mCB (one tupleD) (mCons (mVar 3) mNil)) (mTup (mCons (mTup (mCons (mTup (mCons (mCall 1 m_L_number (mCons (mVar 0) mNil)) (mCons (mCall 1 m_L_number (mCons (mVar 0) mNil)) mNil))) (mCons (mTup mNil) mNil))) mNil))) mNil)))))) [.ref u, .tup (ls.map Ln.d), .int (m : Nat)] S = .ok (planD ls (rs1 ++ [r])) S3 := by
    rw [x_fun]
    rw [show start0 8 [.ref u, .tup (ls.map Ln.d), .int (m : Nat)] = [some (.ref u), some (.tup (ls.map Ln.d)), some (.int (m : Nat)), none, none, none, none, none] from rfl]
    rw [seq_asg (d := .ref S.length) (S' := S ++ [.lst []]) (by simp [sizeLine])]
    rw [seq_nx (ρ' := [some (.ref u), some (.tup (ls.map Ln.d)), some (.int (m : Nat)), some (.ref S.length), y4, y5, y6, y7]) (S' := S1) (by
      show mFor _ _ _ _ _ = _
      rw [x_for]
      simp only [List.set]
      rw [rg]
      simp only [R.to_ok, Int.toNat_natCast]
      exact e1)]
    simp [e2, e3, sizeLine, one, t1, -List.map_append, planD]
    rw [ad]
    simp
  exact W
end DL

/-! Plain laws: the tokens of a plan. -/
namespace DL
open PySem PySem.Spec PyProof.Rows L2 TL
def fullT (cs : List (Str × Int)) : List (List Nat × K) := cs.flatMap fun c => [(wAnd, K.word), (tl c.1, K.name), ([sgc c.2], K.sym)]
theorem fullT_cons : ∀ (c : Str × Int) (cs : List (Str × Int)), fullT (c :: cs) = (wAnd, K.word) :: condT (c :: cs)
  | c, [] => rfl
  | c, d :: cs => by
    have ih := fullT_cons d cs
    show (wAnd, K.word) :: (tl c.1, K.name) :: ([sgc c.2], K.sym) :: fullT (d :: cs) = _
    rw [ih]
    rfl
theorem condT_len : ∀ (c : Str × Int) (cs : List (Str × Int)), (condT (c :: cs)).length = 3 * cs.length + 2
  | c, [] => rfl
  | c, d :: cs => by
    show (condT (d :: cs)).length + 3 = _
    rw [condT_len d cs, List.length_cons]; omega
theorem condT_tv : ∀ (cs : List (Str × Int)), (∀ c ∈ cs, TV (tl c.1) .name) → ∀ w ∈ condT cs, TV w.1 w.2
  | [], _, w, hw => by simp [condT] at hw
  | [c], h, w, hw => by
    simp only [condT, List.mem_cons, List.not_mem_nil, or_false] at hw
    rcases hw with rfl | rfl
    · exact h c List.mem_cons_self
    · refine .sym ?_
      unfold sgc
      split <;> decide
  | c :: d :: cs, h, w, hw => by
    simp only [condT, List.mem_cons] at hw
    rcases hw with rfl | rfl | rfl | hw
    · exact h c List.mem_cons_self
    · refine .sym ?_
      unfold sgc
      split <;> decide
    · exact .word (by decide) (by decide) (by decide)
    · exact condT_tv (d :: cs) (fun x hx => h x (List.mem_cons_of_mem _ hx)) w hw
theorem sides_ix {v : Int} (S : Store) (h : v = 1 ∨ v = -1) : ixD (.str "<=>") (.int (v + 1)) S = .ok (.str (sk [sgc v])) S := by
  have e : ("<=>" : Str) = sk [60, 61, 62] := by decide +kernel
  rw [e]
  rcases h with rfl | rfl
  · exact ix_str (l := [60, 61, 62]) (i := 2) (c := 62) S rfl (by decide)
  · exact ix_str (l := [60, 61, 62]) (i := 0) (c := 60) S rfl (by decide)
theorem cond_fold (d0 : Option D) : ∀ (cs : List (Str × Int)) (acc : List (List Nat × K)) (S : Store) (x2 x3 : Option D), (∀ c ∈ cs, c.2 = 1 ∨ c.2 = -1) → acc.length + 3 * cs.length ≤ 1000 →
    ∃ y2 y3, mForL (gTupM 2 (gConsM (gN 2) (gConsM (gN 3) gNilM))) b_L_condition_tokens_1 (cs.map cnd) [d0, some (.lst (tksD acc)), x2, x3] S = .go .nx [d0, some (.lst (tksD (acc ++ fullT cs))), y2, y3] S
  | [], acc, S, x2, x3, _, _ => ⟨x2, x3, by simp [mForL, fullT]⟩
  | c :: cs, acc, S, x2, x3, h, hl => by
    simp only [List.length_cons] at hl
    obtain ⟨y2, y3, e⟩ := cond_fold d0 cs (acc ++ [(wAnd, K.word), (tl c.1, K.name), ([sgc c.2], K.sym)]) S (some (.str c.1)) (some (.int c.2)) (fun x hx => h x (List.mem_cons_of_mem _ hx)) (by simp; omega)
    refine ⟨y2, y3, ?_⟩
    have ix := sides_ix S (h c List.mem_cons_self)
    have ad : addD (.lst (tksD acc)) (.lst [.str "and", .str c.1, .str (sk [sgc c.2])]) S = .ok (.lst (tksD (acc ++ [(wAnd, K.word), (tl c.1, K.name), ([sgc c.2], K.sym)]))) S := by
      have hz : (tksD acc).length + 3 ≤ sizeLine := by rw [show sizeLine = 16777216 from rfl]; simp [tksD]; omega
      simp only [addD, lstOf_lst, List.length_cons, List.length_nil]
      rw [if_pos hz, tksD_app]
      have : tksD [(wAnd, K.word), (tl c.1, K.name), ([sgc c.2], K.sym)] = [.str "and", .str c.1, .str (sk [sgc c.2])] := by
        simp only [tksD, List.map, sk_tl]
        rw [← lit_and]
      rw [this]
    have ef : acc ++ fullT (c :: cs) = (acc ++ [(wAnd, K.word), (tl c.1, K.name), ([sgc c.2], K.sym)]) ++ fullT cs := by simp [fullT]
    rw [ef, ← e]
    have G : gTupM 2 (gConsM (gN 2) (gConsM (gN 3) gNilM)) (cnd c) [d0, some (.lst (tksD acc)), x2, x3] S = some ([d0, some (.lst (tksD acc)), some (.str c.1), some (.int c.2)], S) := by simp [cnd]
    have B : b_L_condition_tokens_1 [d0, some (.lst (tksD acc)), some (.str c.1), some (.int c.2)] S = .go .nx [d0, some (.lst (tksD (acc ++ [(wAnd, K.word), (tl c.1, K.name), ([sgc c.2], K.sym)]))), some (.str c.1), some (.int c.2)] S := by
      simp [b_L_condition_tokens_1, sizeLine, ix, ad]
    simp only [List.map_cons, mForL, G, B]
theorem s_condTok {cs : List (Str × Int)} (S : Store) (hne : cs ≠ []) (h : ∀ c ∈ cs, c.2 = 1 ∨ c.2 = -1) (hl : cs.length ≤ 100) : m_L_condition_tokens [.tup (cs.map cnd)] S = .ok (.lst (tksD (condT cs))) S := by
  obtain ⟨y2, y3, e⟩ := cond_fold (some (.tup (cs.map cnd))) cs [] S none none h (by simp; omega)
  rw [List.nil_append] at e
  have e1 : tksD [] = [] := rfl
  rw [e1] at e
  have ct : cutD (tksD (fullT cs)) (some 1) none = tksD (condT cs) := by
    cases cs with
    | nil => exact absurd rfl hne
    | cons c cs =>
      rw [fullT_cons]
      show cutD (_ :: tksD (condT (c :: cs))) (some 1) none = _
      unfold cutD
      rw [show ((1 : Int)) = ((1 : Nat) : Int) from rfl, HT.sIx_nat, HT.sIx_none]
      rw [List.length_cons, Nat.min_eq_left (by omega)]
      simp
  unfold m_L_condition_tokens
  simp [sizeLine, e, mPart, slD, ct]
/-! ### the token lists of a plan -/
theorem last_ix {α : Type} (l : List α) (x : α) : atI (l ++ [x]) (-1) = some x := atI_last (by simp)
theorem set_last {α : Type} (l : List α) (x y : α) : (l ++ [x]).set l.length y = l ++ [y] := by
  rw [List.set_append_right _ _ (Nat.le_refl _)]
  simp
theorem ixN_last {n : Nat} (h : 0 < n) : ixN n (-1) = some (n - 1) := by
  unfold ixN
  rw [if_neg (by omega), if_pos (by omega)]
  congr 1
  omega
/-- numbers behind a line's name -/
theorem nums_fold {u p : Nat} {d1 x3 x4 x5 x6 x8 x9 x10 : Option D} (hpu : p ≠ u) {acc : List D} : ∀ (qs : List Rat) (t : List (List Nat × K)) (k : Nat) (S : Store) (x7 : Option D), Urn u k S → k + 4 * qs.length < 2 ^ 58 → S[p]? = some (.lst (acc ++ [.lst (tksD t)])) → (∀ q ∈ qs, Nm q) → t.length + 4 * qs.length ≤ 1000 →
    ∃ (us : List (List (List Nat × K))) (y7 : Option D) (S' : Store), mForL (gN 7) b_L_plan_lines_2 (qs.map fr) [some (.ref u), d1, some (.ref p), x3, x4, x5, x6, x7, x8, x9, x10] S = .go .nx [some (.ref u), d1, some (.ref p), x3, x4, x5, x6, y7, x8, x9, x10] S' ∧ S'[p]? = some (.lst (acc ++ [.lst (tksD (t ++ us.flatten))])) ∧ us.length = qs.length ∧ (∀ (i : Nat) (a : List (List Nat × K)) (q : Rat), us[i]? = some a → qs[i]? = some q → NumT a q ∧ (∀ w ∈ a, TV w.1 w.2) ∧ a.length ≤ 4) ∧ Urn u (k + 4 * qs.length) S' ∧ Kp [u, p] S S'
  | [], t, k, S, x7, hu, hk, hp, hq, hl => ⟨[], x7, S, rfl, by simpa using hp, rfl, by simp, by simpa using hu, Kp.refl _ _⟩
  | q :: qs, t, k, S, x7, hu, hk, hp, hq, hl => by
    simp only [List.length_cons] at hk hl
    obtain ⟨a, S1, e1, h1, h2, h3, u1, b1⟩ := s_numTok hu (by omega) (hq q List.mem_cons_self)
    have hp1 : S1[p]? = some (.lst (acc ++ [.lst (tksD t)])) := by rw [b1.at_ p hpu]; exact hp
    have hp2 := set_at hp1 (.lst (acc ++ [.lst (tksD (t ++ a))]))
    obtain ⟨us, y7, S2, e2, p2, l2, f2, u2, k2⟩ := nums_fold (d1 := d1) (x3 := x3) (x4 := x4) (x5 := x5) (x6 := x6) (x8 := x8) (x9 := x9) (x10 := x10) hpu (acc := acc) qs (t ++ a) (k + 4) _ (some (fr q)) (u1.set hpu _) (by omega) hp2 (fun x hx => hq x (List.mem_cons_of_mem _ hx)) (by simp; omega)
    refine ⟨a :: us, y7, S2, ?_, by simpa using p2, by simp [l2], fun i b r hb hr => ?_, by rw [List.length_cons, show k + 4 * (qs.length + 1) = k + 4 + 4 * qs.length by omega]; exact u2, ((b1.kp.mono (by simp)).trans (Kp.set (us := [u, p]) _ _ (by simp))).trans k2⟩
    · have ix : ixD (.ref p) (.int (-1)) S = .ok (.lst (tksD t)) S := by simp [ixD, lstOf, hp, last_ix]
      have ad : addD (.lst (tksD t)) (.lst (tksD a)) S1 = .ok (.lst (tksD (t ++ a))) S1 := by
        simp only [addD, lstOf_lst]
        rw [if_pos (by rw [show sizeLine = 16777216 from rfl]; simp [tksD]; omega), tksD_app]
      have gs : setIx (.ref p) (.int (-1)) (.lst (tksD (t ++ a))) S1 = some (S1.set p (.lst (acc ++ [.lst (tksD (t ++ a))]))) := by
        have hn : ixN (acc ++ [D.lst (tksD t)]).length (-1) = some acc.length := by
          rw [ixN_last (by simp)]; simp
        simp only [setIx, hp1, hn, set_last]
      have B : b_L_plan_lines_2 [some (.ref u), d1, some (.ref p), x3, x4, x5, x6, some (fr q), x8, x9, x10] S = .go .nx [some (.ref u), d1, some (.ref p), x3, x4, x5, x6, some (fr q), x8, x9, x10] (S1.set p (.lst (acc ++ [.lst (tksD (t ++ a))]))) := by
        simp [b_L_plan_lines_2, ix, e1, ad, gSubM, gs]
      simp only [List.map_cons, mForL, x_gN, List.set, B]
      exact e2
    · cases i with
      | zero => simp at hb hr; subst hb hr; exact ⟨h1, h2, h3⟩
      | succ i => exact f2 i b r (by simpa using hb) (by simpa using hr)
/-- a token list as it is told -/
def TkL (t : List (List Nat × K)) : Prop := (∀ w ∈ t, TV w.1 w.2) ∧ t.length ≤ 60
theorem lines_tok {u p : Nat} {d1 x8 x9 x10 : Option D} (hpu : p ≠ u) : ∀ (ls : List Ln) (acc : List D) (k : Nat) (S : Store) (x3 x4 x5 x6 x7 : Option D), Urn u k S → k + 12 * ls.length < 2 ^ 57 → S[p]? = some (.lst acc) → (∀ l ∈ ls, LnN l ∧ TV (tl l.nm) .name) → acc.length + ls.length ≤ 1000 →
    ∃ (ts : List (List (List Nat × K))) (y3 y4 y5 y6 y7 : Option D) (S' : Store), mForL (gTupM 4 (gConsM (gN 3) (gConsM (gN 4) (gConsM (gN 5) (gConsM (gN 6) gNilM))))) b_L_plan_lines_3 (ls.map Ln.d) [some (.ref u), d1, some (.ref p), x3, x4, x5, x6, x7, x8, x9, x10] S = .go .nx [some (.ref u), d1, some (.ref p), y3, y4, y5, y6, y7, x8, x9, x10] S' ∧ S'[p]? = some (.lst (acc ++ ts.map fun t => .lst (tksD t))) ∧ Its ts ls [] ∧ (∀ t ∈ ts, TkL t) ∧ ts.length = ls.length ∧ Urn u (k + 12 * ls.length) S' ∧ Kp [u, p] S S'
  | [], acc, k, S, x3, x4, x5, x6, x7, hu, hk, hp, hq, hl => ⟨[], x3, x4, x5, x6, x7, S, rfl, by simpa using hp, .nil, by simp, rfl, by simpa using hu, Kp.refl _ _⟩
  | l :: ls, acc, k, S, x3, x4, x5, x6, x7, hu, hk, hp, hq, hl => by
    simp only [List.length_cons] at hk hl
    obtain ⟨hN, hT⟩ := hq l List.mem_cons_self
    let t0 : List (List Nat × K) := [(wLine, K.word), (tl l.nm, K.name)]
    have t0d : tksD t0 = [.str "line", .str l.nm] := by
      simp only [t0, tksD, List.map, sk_tl]
      rw [← lit_line]
    have hp1 := set_at hp (.lst (acc ++ [.lst (tksD t0)]))
    obtain ⟨us, y7, S2, e2, p2, l2, f2, u2, k2⟩ := nums_fold (d1 := d1) (x3 := some (.str l.nm)) (x4 := some (fr l.a)) (x5 := some (fr l.b)) (x6 := some (fr l.c)) (x8 := x8) (x9 := x9) (x10 := x10) hpu (acc := acc) [l.a, l.b, l.c] t0 k _ x7 (hu.set hpu _) (by simp; omega) hp1 (by simp [hN.a, hN.b, hN.c]) (by simp [t0])
    obtain ⟨an, bn, cn, rfl⟩ : ∃ an bn cn, us = [an, bn, cn] := by
      match us, l2 with
      | [a, b, c], _ => exact ⟨a, b, c, rfl⟩
    obtain ⟨fa, ta, la⟩ := f2 0 an l.a rfl rfl
    obtain ⟨fb, tb, lb⟩ := f2 1 bn l.b rfl rfl
    obtain ⟨fc, tc, lc⟩ := f2 2 cn l.c rfl rfl
    have ef : t0 ++ [an, bn, cn].flatten = (wLine, K.word) :: (tl l.nm, K.name) :: (an ++ (bn ++ cn)) := by simp [t0]
    rw [ef] at p2
    obtain ⟨ts, z3, z4, z5, z6, z7, S3, e3, p3, i3, t3, n3, u3, k3⟩ := lines_tok (d1 := d1) (x8 := x8) (x9 := x9) (x10 := x10) hpu ls (acc ++ [.lst (tksD ((wLine, K.word) :: (tl l.nm, K.name) :: (an ++ (bn ++ cn))))]) (k + 12) S2 (some (.str l.nm)) (some (fr l.a)) (some (fr l.b)) (some (fr l.c)) y7 (by simpa using u2) (by omega) p2 (fun x hx => hq x (List.mem_cons_of_mem _ hx)) (by simp; omega)
    refine ⟨((wLine, K.word) :: (tl l.nm, K.name) :: (an ++ (bn ++ cn))) :: ts, z3, z4, z5, z6, z7, S3, ?_, by simpa using p3, .line ⟨an, bn, cn, rfl, fa, fb, fc⟩ (by simp; omega) i3, fun t ht => ?_, by simp [n3], by rw [List.length_cons, show k + 12 * (ls.length + 1) = k + 12 + 12 * ls.length by omega]; exact u3, ((Kp.set (us := [u, p]) S _ (by simp)).trans k2).trans k3⟩
    · have il : isL (.ref p) S = true := by simp [isL, lstOf, hp]
      have ap : appendD (.ref p) [.lst [.str "line", .str l.nm]] S = .ok .non (S.set p (.lst (acc ++ [.lst (tksD t0)]))) := by
        simp [appendD, hp, t0d]
        rw [show sizeLine = 16777216 from rfl]; omega
      have G : gTupM 4 (gConsM (gN 3) (gConsM (gN 4) (gConsM (gN 5) (gConsM (gN 6) gNilM)))) l.d [some (.ref u), d1, some (.ref p), x3, x4, x5, x6, x7, x8, x9, x10] S = some ([some (.ref u), d1, some (.ref p), some (.str l.nm), some (fr l.a), some (fr l.b), some (fr l.c), x7, x8, x9, x10], S) := by simp [Ln.d]
      have B : b_L_plan_lines_3 [some (.ref u), d1, some (.ref p), some (.str l.nm), some (fr l.a), some (fr l.b), some (fr l.c), x7, x8, x9, x10] S = .go .nx [some (.ref u), d1, some (.ref p), some (.str l.nm), some (fr l.a), some (fr l.b), some (fr l.c), y7, x8, x9, x10] S2 := by
        simp [b_L_plan_lines_3, il, sizeLine, ap]
        exact e2
      simp only [List.map_cons, mForL, G, B]
      exact e3
    · rcases List.mem_cons.mp ht with rfl | ht
      · refine ⟨fun w hw => ?_, by simp; omega⟩
        simp only [List.mem_cons, List.mem_append] at hw
        rcases hw with rfl | rfl | hw | hw | hw
        · exact .word (by decide) (by decide) (by decide)
        · exact hT
        · exact ta w hw
        · exact tb w hw
        · exact tc w hw
      · exact t3 t ht
end DL

/-! Plain laws: the tokens of a plan, 2. -/
namespace DL
open PySem PySem.Spec PyProof.Rows L2 TL
theorem cnds_ne {cs : List (Str × Int)} (S : Store) (hn : ∀ c ∈ cs, PyData.strOk c.1 = true) : neD (.tup (cs.map cnd)) (.tup []) S = .ok (.bl (!decide (cs = []))) S := by
  have h1 := plain_cnds (n := 62) hn
  have h2 := (eqB_nil (cs.map cnd)).2
  have d1 : derD (.tup (cs.map cnd)) S = .tup (cs.map cnd) := rfl
  have d2 : derD (.tup []) S = .tup [] := rfl
  simp only [neD, d1, d2, plain, h1, plains, Bool.and_self, if_true, h2]
  simp
/-- the tokens of a rule -/
def ruleT (pn qn : List (List Nat × K)) (cs : List (Str × Int)) : List (List Nat × K) := (wDrift, K.word) :: (pn ++ (qn ++ (if cs = [] then [] else (wWhere, K.word) :: condT cs)))
theorem rules_tok {u p : Nat} {d1 x3 x4 x5 x6 x7 : Option D} {ls : List Ln} (hpu : p ≠ u) (P : LsOk ls) : ∀ (rs : List Rl) (acc : List D) (k : Nat) (S : Store) (x8 x9 x10 : Option D), Urn u k S → k + 8 * rs.length < 2 ^ 57 → S[p]? = some (.lst acc) → (∀ r ∈ rs, RlN r ls) → acc.length + rs.length ≤ 1000 →
    ∃ (ts : List (List (List Nat × K))) (y8 y9 y10 : Option D) (S' : Store), mForL (gTupM 2 (gConsM (gN 8) (gConsM (gN 9) gNilM))) b_L_plan_lines_1 (rs.map Rl.d) [some (.ref u), d1, some (.ref p), x3, x4, x5, x6, x7, x8, x9, x10] S = .go .nx [some (.ref u), d1, some (.ref p), x3, x4, x5, x6, x7, y8, y9, y10] S' ∧ S'[p]? = some (.lst (acc ++ ts.map fun t => .lst (tksD t))) ∧ Its ts [] rs ∧ (∀ t ∈ ts, TkL t) ∧ ts.length = rs.length ∧ Urn u (k + 8 * rs.length) S' ∧ Kp [u, p] S S'
  | [], acc, k, S, x8, x9, x10, hu, hk, hp, hq, hl => ⟨[], x8, x9, x10, S, rfl, by simpa using hp, .nil, by simp, rfl, by simpa using hu, Kp.refl _ _⟩
  | r :: rs, acc, k, S, x8, x9, x10, hu, hk, hp, hq, hl => by
    simp only [List.length_cons] at hk hl
    have hN := hq r List.mem_cons_self
    obtain ⟨pn, S1, e1, f1, t1, l1, u1, b1⟩ := s_numTok hu (by omega) hN.p
    obtain ⟨qn, S2, e2, f2, t2, l2, u2, b2⟩ := s_numTok u1 (by omega) hN.q
    have hp2 : S2[p]? = some (.lst acc) := by rw [(b1.trans b2).at_ p hpu]; exact hp
    have ctv : ∀ c ∈ r.cs, TV (tl c.1) .name := fun c hc => by
      obtain ⟨l, hl, e⟩ := List.mem_map.mp (hN.cs c hc).1
      rw [← e]; exact P.tv l hl
    have cstr : ∀ c ∈ r.cs, PyData.strOk c.1 = true := fun c hc => tv_str (ctv c hc)
    have ne := cnds_ne S2 cstr
    let T : List (List Nat × K) := ruleT pn qn r.cs
    have cl : (if r.cs = [] then [] else (wWhere, K.word) :: condT r.cs : List (List Nat × K)).length ≤ 20 := by
      have := hN.l6
      cases h : r.cs with
      | nil => simp
      | cons c cs =>
        rw [h] at this
        simp only [List.length_cons] at this
        rw [if_neg (by simp), List.length_cons, condT_len]; omega
    have Tl : T.length ≤ 29 := by
      simp only [T, ruleT, List.length_cons, List.length_append]; omega
    have d0 : tksD [(wDrift, K.word)] = [.str "drift"] := by
      simp only [tksD, List.map]
      rw [← lit_drift]
    have a1 : addD (.lst [.str "drift"]) (.lst (tksD pn)) S1 = .ok (.lst (tksD ((wDrift, K.word) :: pn))) S1 := by
      rw [← d0]
      simp only [addD, lstOf_lst]
      rw [if_pos (by rw [show sizeLine = 16777216 from rfl]; simp [tksD]; omega), ← tksD_app]
      rfl
    have a2 : addD (.lst (tksD ((wDrift, K.word) :: pn))) (.lst (tksD qn)) S2 = .ok (.lst (tksD ((wDrift, K.word) :: pn ++ qn))) S2 := by
      simp only [addD, lstOf_lst]
      rw [if_pos (by rw [show sizeLine = 16777216 from rfl]; simp [tksD]; omega), ← tksD_app]
    have tail : mIf (mB (mOp neD (mVar 9) (mTup mNil))) (mOp addD (mLst (mCons (mC (.str "where")) mNil)) (mCall 1 m_L_condition_tokens (mCons (mVar 9) mNil))) (mLst mNil) [some (.ref u), d1, some (.ref p), x3, x4, x5, x6, x7, some (.tup [fr r.p, fr r.q]), some (.tup (r.cs.map cnd)), some (.lst (tksD ((wDrift, K.word) :: pn ++ qn)))] S2 = .ok (.lst (tksD (if r.cs = [] then [] else (wWhere, K.word) :: condT r.cs))) S2 := by
      by_cases q : r.cs = []
      · rw [decide_eq_true q] at ne
        rw [if_pos q]
        simp [sizeLine, ne, tksD]
      · rw [decide_eq_false q] at ne
        rw [if_neg q]
        have ct := s_condTok S2 q (fun c hc => (hN.cs c hc).2) (by have := hN.l6; omega)
        have w0 : tksD ((wWhere, K.word) :: condT r.cs) = [.str "where"] ++ tksD (condT r.cs) := by
          show D.str (sk wWhere) :: _ = _
          rw [← lit_where]; rfl
        have ad : addD (.lst [.str "where"]) (.lst (tksD (condT r.cs))) S2 = .ok (.lst (tksD ((wWhere, K.word) :: condT r.cs))) S2 := by
          rw [if_neg q, List.length_cons] at cl
          simp only [addD, lstOf_lst]
          rw [if_pos (by rw [show sizeLine = 16777216 from rfl]; simp [tksD]; omega), w0]
        simp [sizeLine, ne, ct, ad]
    have a3 : addD (.lst (tksD ((wDrift, K.word) :: pn ++ qn))) (.lst (tksD (if r.cs = [] then [] else (wWhere, K.word) :: condT r.cs))) S2 = .ok (.lst (tksD T)) S2 := by
      simp only [addD, lstOf_lst]
      rw [if_pos (by rw [show sizeLine = 16777216 from rfl]; simp [tksD] at cl ⊢; omega), ← tksD_app]
      simp [T, ruleT]
    generalize D.lst (tksD ((wDrift, K.word) :: pn ++ qn)) = V at a2 tail a3
    have il : isL (.ref p) S2 = true := by simp [isL, lstOf, hp2]
    have ap : appendD (.ref p) [.lst (tksD T)] S2 = .ok .non (S2.set p (.lst (acc ++ [.lst (tksD T)]))) := by
      simp [appendD, hp2]
      rw [show sizeLine = 16777216 from rfl]; omega
    have hp3 := set_at hp2 (.lst (acc ++ [.lst (tksD T)]))
    obtain ⟨ts, z8, z9, z10, S3, e3, p3, i3, t3, n3, u3, k3⟩ := rules_tok (d1 := d1) (x3 := x3) (x4 := x4) (x5 := x5) (x6 := x6) (x7 := x7) hpu P rs (acc ++ [.lst (tksD T)]) (k + 8) _ (some (.tup [fr r.p, fr r.q])) (some (.tup (r.cs.map cnd))) (some V) (u2.set hpu _) (by omega) hp3 (fun x hx => hq x (List.mem_cons_of_mem _ hx)) (by simp; omega)
    refine ⟨T :: ts, z8, z9, z10, S3, ?_, by simpa using p3, .rule ⟨pn, qn, rfl, f1, f2⟩ (by omega) i3, fun t ht => ?_, by simp [n3], by rw [List.length_cons, show k + 8 * (rs.length + 1) = k + 8 + 8 * rs.length by omega]; exact u3, (((b1.trans b2).kp.mono (by simp)).trans (Kp.set (us := [u, p]) _ _ (by simp))).trans k3⟩
    · have G : gTupM 2 (gConsM (gN 8) (gConsM (gN 9) gNilM)) r.d [some (.ref u), d1, some (.ref p), x3, x4, x5, x6, x7, x8, x9, x10] S = some ([some (.ref u), d1, some (.ref p), x3, x4, x5, x6, x7, some (.tup [fr r.p, fr r.q]), some (.tup (r.cs.map cnd)), x10], S) := by simp [Rl.d]
      have B : b_L_plan_lines_1 [some (.ref u), d1, some (.ref p), x3, x4, x5, x6, x7, some (.tup [fr r.p, fr r.q]), some (.tup (r.cs.map cnd)), x10] S = .go .nx [some (.ref u), d1, some (.ref p), x3, x4, x5, x6, x7, some (.tup [fr r.p, fr r.q]), some (.tup (r.cs.map cnd)), some V] (S2.set p (.lst (acc ++ [.lst (tksD T)]))) := by
        unfold b_L_plan_lines_1
        refine (seq_asg (d := V) (S' := S2) (by simp [sizeLine, e1, a1, e2]; exact a2)).trans ?_
        have F : mOp addD (mVar 10) (mIf (mB (mOp neD (mVar 9) (mTup mNil))) (mOp addD (mLst (mCons (mC (.str "where")) mNil)) (mCall 1 m_L_condition_tokens (mCons (mVar 9) mNil))) (mLst mNil)) [some (.ref u), d1, some (.ref p), x3, x4, x5, x6, x7, some (.tup [fr r.p, fr r.q]), some (.tup (r.cs.map cnd)), some V] S2 = .ok (.lst (tksD T)) S2 := by
          have v10 : mVar 10 [some (.ref u), d1, some (.ref p), x3, x4, x5, x6, x7, some (.tup [fr r.p, fr r.q]), some (.tup (r.cs.map cnd)), some V] S2 = .ok V S2 := rfl
          rw [x_op, v10, DL.R.bind_ok, tail, DL.R.bind_ok, a3]
        show mDrop _ [some (.ref u), d1, some (.ref p), x3, x4, x5, x6, x7, some (.tup [fr r.p, fr r.q]), some (.tup (r.cs.map cnd)), some V] S2 = _
        simp [-x_op, F, il, ap]
      simp only [List.map_cons, mForL, G, B]
      exact e3
    · rcases List.mem_cons.mp ht with rfl | ht
      · refine ⟨fun w hw => ?_, by omega⟩
        simp only [T, ruleT, List.mem_cons, List.mem_append] at hw
        rcases hw with rfl | hw | hw | hw
        · exact .word (by decide) (by decide) (by decide)
        · exact t1 w hw
        · exact t2 w hw
        · split at hw
          · simp at hw
          · rcases List.mem_cons.mp hw with rfl | hw
            · exact .word (by decide) (by decide) (by decide)
            · exact condT_tv r.cs ctv w hw
      · exact t3 t ht
theorem s_planLines {u k : Nat} {S : Store} {ls : List Ln} {rs : List Rl} (h : Urn u k S) (hk : k < 2 ^ 50) (hu : u < S.length) (P : LsOk ls) (hr : ∀ r ∈ rs, RlN r ls) (hl : rs.length ≤ 12) : ∃ (ts : List (List (List Nat × K))) (S' : Store), m_L_plan_lines [.ref u, planD ls rs] S = .ok (.lst (ts.map fun t => .lst (tksD t))) S' ∧ Its ts ls rs ∧ (∀ t ∈ ts, TkL t) ∧ ts.length = ls.length + rs.length ∧ Urn u (k + 300) S' ∧ Kp [u] S S' := by
  have k0 : Kp [u] S (S ++ [.lst []]) := Kp.app _ _ _
  have l6 := P.l6
  obtain ⟨ts1, y3, y4, y5, y6, y7, S1, e1, p1, i1, t1, n1, u1, k1⟩ := lines_tok (u := u) (p := S.length) (d1 := some (planD ls rs)) (x8 := none) (x9 := none) (x10 := none) (by omega) ls [] k (S ++ [.lst []]) none none none none none (h.kp (Kp.app [] S _) (by simp)) (by omega) (by simp) (fun l hl => ⟨P.n l hl, P.tv l hl⟩) (by simp; omega)
  rw [List.nil_append] at p1
  obtain ⟨ts2, y8, y9, y10, S2, e2, p2, i2, t2, n2, u2, k2⟩ := rules_tok (u := u) (p := S.length) (d1 := some (planD ls rs)) (x3 := y3) (x4 := y4) (x5 := y5) (x6 := y6) (x7 := y7) (by omega) P rs (ts1.map fun t => .lst (tksD t)) (k + 12 * ls.length) S1 none none none u1 (by omega) p1 hr (by simp; omega)
  have hu1 : ∀ v ∈ [u, S.length], v ∈ [u] ∨ S.length ≤ v := fun v hv => by
    simp at hv
    rcases hv with rfl | rfl
    · exact .inl (by simp)
    · exact .inr (Nat.le_refl _)
  have fz : frzD (.ref S.length) S2 = .ok (.lst ((ts1 ++ ts2).map fun t => .lst (tksD t))) (S2.set S.length .dead) := by
    rw [← List.map_append] at p2
    simp [frzD, p2]
  refine ⟨ts1 ++ ts2, S2.set S.length .dead, ?_, its_app i1 i2, fun t ht => ?_, by simp [n1, n2], (u2.mono (by omega)).set (by omega) _, ((k0.then k1 hu1).then k2 hu1).then (Kp.set (us := [S.length]) S2 .dead (by simp)) (fun v hv => .inr (by rw [List.mem_singleton.mp hv]; exact Nat.le_refl _))⟩
  · unfold m_L_plan_lines
    rw [x_fun, show start0 11 [.ref u, planD ls rs] = [some (.ref u), some (planD ls rs), none, none, none, none, none, none, none, none, none] from rfl]
    rw [seq_asg (d := .ref S.length) (S' := S ++ [.lst []]) (by simp [sizeLine])]
    rw [seq_nx (ρ' := [some (.ref u), some (planD ls rs), some (.ref S.length), y3, y4, y5, y6, y7, none, none, none]) (S' := S1) (by
      have i0 : ixD (planD ls rs) (.int 0) (S ++ [.lst []]) = .ok (.tup (ls.map Ln.d)) (S ++ [.lst []]) := rfl
      simp only [x_for, x_it, x_op, x_var, x_c, List.set, List.getElem?_cons_zero, List.getElem?_cons_succ, DL.R.bind_ok, i0, x_itT, DL.R.to_ok]
      exact e1)]
    rw [seq_nx (ρ' := [some (.ref u), some (planD ls rs), some (.ref S.length), y3, y4, y5, y6, y7, y8, y9, y10]) (S' := S2) (by
      have i0 : ixD (planD ls rs) (.int 1) S1 = .ok (.tup (rs.map Rl.d)) S1 := rfl
      simp only [x_for, x_it, x_op, x_var, x_c, List.getElem?_cons_zero, List.getElem?_cons_succ, DL.R.bind_ok, i0, x_itT, DL.R.to_ok]
      exact e2)]
    have fr0 : mFrz (mVar 2) [some (.ref u), some (planD ls rs), some (.ref S.length), y3, y4, y5, y6, y7, y8, y9, y10] S2 = .ok (.lst ((ts1 ++ ts2).map fun t => .lst (tksD t))) (S2.set S.length .dead) := by
      simp only [x_frz, x_var, List.getElem?_cons_zero, List.getElem?_cons_succ, DL.R.bind_ok]
      exact fz
    rw [ret_ok fr0]
  · rcases List.mem_append.mp ht with ht | ht
    · exact t1 t ht
    · exact t2 t ht
end DL

/-! Plain laws: the text of tokens. -/
namespace DL
open PySem PySem.Spec PyProof.Rows L2 TL
/-! ### texts that are repeated -/
theorem foldl_rep (a : Array Nat) : ∀ (k : Nat) (acc : Array Nat), ((List.replicate k a).foldl (· ++ ·) acc).toList = acc.toList ++ (List.replicate k a.toList).flatten
  | 0, acc => by simp
  | k + 1, acc => by
    rw [List.replicate_succ, List.foldl_cons, foldl_rep a k, Array.toList_append, List.replicate_succ, List.flatten_cons, List.append_assoc]
theorem mul_sk (x : Str) (n : Int) : Txt.mul x n = sk (List.replicate n.toNat (tl x)).flatten := by
  refine ext_tl ?_
  rw [tl_sk]
  unfold Txt.mul
  by_cases h1 : n < 1
  · rw [if_pos h1, show n.toNat = 0 by omega]
    rfl
  · rw [if_neg h1]
    split
    · rename_i hc
      rw [Bool.or_eq_true, beq_iff_eq, beq_iff_eq] at hc
      rcases hc with h | h
      · subst h; simp
      · rw [len_tl] at h
        have : tl x = [] := List.length_eq_zero_iff.mp h
        rw [this]; simp
    · show ((List.replicate n.toNat x.cps).foldl (· ++ ·) #[]).toList = _
      rw [foldl_rep]
      rfl
theorem flat_one (c : Nat) : ∀ n : Nat, (List.replicate n [c]).flatten = List.replicate n c
  | 0 => rfl
  | n + 1 => by rw [List.replicate_succ, List.flatten_cons, flat_one c n, List.replicate_succ]; rfl
theorem lit_sp : (" " : Str) = sk [32] := by decide +kernel
theorem s_spaces {n : Int} (S : Store) (h1 : -(2 ^ 62) ≤ n) (h2 : n ≤ 100000) : mulT (.str " ") (.int n) S = .ok (.str (sk (List.replicate n.toNat 32))) S := by
  simp only [mulT]
  rw [if_pos ⟨h1, h2, by decide +kernel⟩, mul_sk, lit_sp, tl_sk, flat_one]
/-! ### where spaces are needed -/
def headIs (p : Nat → Bool) : List Nat → Bool
  | [] => false
  | d :: _ => p d
def wordsP (last w : List Nat) : Bool := (headIs isW w && headIs isSm last) || (headIs isDg w && headIs isDg last)
theorem words_sep {last w : List Nat} {k : K} (t : TV last k) (h : wordsP last w = false) : sepOk k w := by
  unfold wordsP at h
  rw [Bool.or_eq_false_iff, Bool.and_eq_false_iff, Bool.and_eq_false_iff] at h
  intro c r e
  subst e
  obtain ⟨h1, h2⟩ := h
  cases t with
  | word a _ _ => simpa [headIs, a] using h1
  | name a _ _ _ => simpa [headIs, a] using h1
  | num a b _ _ =>
    cases last with
    | nil => exact absurd rfl a
    | cons d l => simpa [headIs, b d List.mem_cons_self] using h2
  | sym _ => trivial
theorem tv_small {w : List Nat} {k : K} (h : TV w k) : Asc w ∧ 10 ∉ w ∧ w.length ≤ 8 := by
  have hw : ∀ c, isW c = true → c < 128 ∧ c ≠ 10 := fun c h => by
    unfold isW isSm isDg at h
    simp at h
    omega
  have hd : ∀ c, isDg c = true → c < 128 ∧ c ≠ 10 := fun c h => by
    unfold isDg at h
    simp at h
    omega
  have hs : ∀ c ∈ syms, c < 128 ∧ c ≠ 10 := by decide
  have hk : ∀ w ∈ kws, w.length ≤ 8 := by decide
  cases h with
  | word _ h2 h3 => exact ⟨fun c hc => (hw c (h2 c hc)).1, fun z => (hw _ (h2 _ z)).2 rfl, hk _ h3⟩
  | name _ h2 _ h4 => exact ⟨fun c hc => (hw c (h2 c hc)).1, fun z => (hw _ (h2 _ z)).2 rfl, h4⟩
  | num _ h2 h3 _ => exact ⟨fun c hc => (hd c (h2 c hc)).1, fun z => (hd _ (h2 _ z)).2 rfl, by omega⟩
  | sym h =>
    have := hs _ h
    refine ⟨fun c hc => ?_, fun z => ?_, by simp⟩
    · rw [List.mem_singleton.mp hc]; exact this.1
    · rw [List.mem_singleton] at z; exact this.2 z.symm
theorem ne_empty (a : List Nat) (S : Store) : neD (.str (sk a)) (.str "") S = .ok (.bl (!decide (a = []))) S := by
  have e : ("" : Str) = sk [] := by decide +kernel
  rw [e, ← sk_beq]
  rfl
theorem headI {ρ : Env} {S : Store} {last : List Nat} {Y : Str} {j : Nat} {p : Nat → Bool} (h3 : ρ[3]? = some (some (.str (sk last)))) (hj : ρ[j]? = some (some (.str Y))) (hp : ∀ c, decide (c ∈ tl Y) = p c) (hl : last.length ≤ 8) :
    mAndV (mOp neD (mSl (mVar 3) mNoP (mPart (mC (.int 1)))) (mC (.str ""))) (mOp inD (mOp ixD (mVar 3) (mC (.int 0))) (mVar j)) ρ S = .ok (.bl (headIs p last)) S := by
  have hz : last.length ≤ sizeLine := by rw [show sizeLine = 16777216 from rfl]; omega
  have v3 : mVar 3 ρ S = .ok (.str (sk last)) S := by simp [h3]
  have vj : mVar j ρ S = .ok (.str Y) S := by simp [hj]
  have p1 := x_part ρ S (mC (.int 1)) 1 S rfl (by decide)
  have sl := sl_to (l := last) (j := 1) S hz
  have s0 : mSl (mVar 3) mNoP (mPart (mC (.int 1))) ρ S = .ok (.str (sk (last.take 1))) S := by
    rw [x_sl, v3, DL.R.bind_ok, x_noP, DL.R.bind_ok, p1, DL.R.bind_ok]
    exact sl
  have s1 : mOp neD (mSl (mVar 3) mNoP (mPart (mC (.int 1)))) (mC (.str "")) ρ S = .ok (.bl (!decide (last.take 1 = []))) S := by
    rw [x_op, s0, DL.R.bind_ok, x_c, DL.R.bind_ok, ne_empty]
  rw [x_andV, s1, DL.R.bind_ok, x_toB, DL.R.bind_ok]
  cases last with
  | nil => rfl
  | cons d l =>
    have ix : ixD (.str (sk (d :: l))) (.int 0) S = .ok (.str (sk [d])) S := ix_str (i := 0) S rfl hz
    rw [if_pos (by simp), x_op, x_op, v3, DL.R.bind_ok, x_c, DL.R.bind_ok, ix, DL.R.bind_ok, vj, DL.R.bind_ok, in_str, hp]
    rfl
theorem spaced_turn {u k : Nat} {S : Store} (h : Urn u k S) (hk : k < 2 ^ 57) {x last w : List Nat} {kd : K} (t : TV w kd) (hx : x.length ≤ 10000) (hl : last.length ≤ 8) (x1 x7 : Option D) : ∃ (n : Nat) (y7 : Option D) (S' : Store),
    b_L_spaced_1 [some (.ref u), x1, some (.str (sk x)), some (.str (sk last)), some (.str "abcdefghijklmnopqrstuvwxyz"), some (.str "0123456789"), some (.str (sk w)), x7] S = .go .nx [some (.ref u), x1, some (.str (sk (x ++ List.replicate n 32 ++ w))), some (.str (sk w)), some (.str "abcdefghijklmnopqrstuvwxyz"), some (.str "0123456789"), some (.str (sk w)), y7] S' ∧ n ≤ 3 ∧ (1 ≤ n ∨ wordsP last w = false) ∧ Urn u (k + 1) S' ∧ But u S S' := by
  obtain ⟨d, S1, e1, m1, u1, b1⟩ := s_item (l := [.int 0, .int 0, .int 1, .int 1, .int 1, .int 3]) h (by simp) (by decide) (by omega)
  obtain ⟨c, r, rfl⟩ := tv_ne t
  have lw := (tv_small t).2.2
  have hz : (c :: r).length ≤ sizeLine := by rw [show sizeLine = 16777216 from rfl]; omega
  have ix : ixD (.str (sk (c :: r))) (.int 0) S = .ok (.str (sk [c])) S := ix_str (i := 0) S rfl hz
  have ad : addD (.str "abcdefghijklmnopqrstuvwxyz") (.str "0123456789") S = .ok (.str (("abcdefghijklmnopqrstuvwxyz" : Str) ++ ("0123456789" : Str))) S := by
    simp only [addD]
    rw [if_pos (by decide +kernel)]
  have A1 : ∀ x7, mAndV (mOp inD (mOp ixD (mVar 6) (mC (.int 0))) (mOp addD (mVar 4) (mVar 5))) (mAndV (mOp neD (mSl (mVar 3) mNoP (mPart (mC (.int 1)))) (mC (.str ""))) (mOp inD (mOp ixD (mVar 3) (mC (.int 0))) (mVar 4))) [some (.ref u), x1, some (.str (sk x)), some (.str (sk last)), some (.str "abcdefghijklmnopqrstuvwxyz"), some (.str "0123456789"), some (.str (sk (c :: r))), x7] S = .ok (.bl (isW c && headIs isSm last)) S := fun x7 => by
    have hi := headI (ρ := [some (.ref u), x1, some (.str (sk x)), some (.str (sk last)), some (.str "abcdefghijklmnopqrstuvwxyz"), some (.str "0123456789"), some (.str (sk (c :: r))), x7]) (S := S) (j := 4) (p := isSm) rfl rfl mem_small hl
    have s0 : mOp inD (mOp ixD (mVar 6) (mC (.int 0))) (mOp addD (mVar 4) (mVar 5)) [some (.ref u), x1, some (.str (sk x)), some (.str (sk last)), some (.str "abcdefghijklmnopqrstuvwxyz"), some (.str "0123456789"), some (.str (sk (c :: r))), x7] S = .ok (.bl (isW c)) S := by
      simp only [x_op, x_var, x_c, List.getElem?_cons_zero, List.getElem?_cons_succ, DL.R.bind_ok, ix, ad, in_str, mem_both]
    rw [x_andV, s0, DL.R.bind_ok, x_toB, DL.R.bind_ok, hi]
    cases isW c <;> simp
  have A2 : ∀ b, mOrV (mVar 7) (mAndV (mOp inD (mOp ixD (mVar 6) (mC (.int 0))) (mVar 5)) (mAndV (mOp neD (mSl (mVar 3) mNoP (mPart (mC (.int 1)))) (mC (.str ""))) (mOp inD (mOp ixD (mVar 3) (mC (.int 0))) (mVar 5)))) [some (.ref u), x1, some (.str (sk x)), some (.str (sk last)), some (.str "abcdefghijklmnopqrstuvwxyz"), some (.str "0123456789"), some (.str (sk (c :: r))), some (.bl b)] S = .ok (.bl (b || (isDg c && headIs isDg last))) S := fun b => by
    have hi := headI (ρ := [some (.ref u), x1, some (.str (sk x)), some (.str (sk last)), some (.str "abcdefghijklmnopqrstuvwxyz"), some (.str "0123456789"), some (.str (sk (c :: r))), some (.bl b)]) (S := S) (j := 5) (p := isDg) rfl rfl mem_digits hl
    have s0 : mOp inD (mOp ixD (mVar 6) (mC (.int 0))) (mVar 5) [some (.ref u), x1, some (.str (sk x)), some (.str (sk last)), some (.str "abcdefghijklmnopqrstuvwxyz"), some (.str "0123456789"), some (.str (sk (c :: r))), some (.bl b)] S = .ok (.bl (isDg c)) S := by
      simp only [x_op, x_var, x_c, List.getElem?_cons_zero, List.getElem?_cons_succ, DL.R.bind_ok, ix, in_str, mem_digits]
    have v7 : mVar 7 [some (.ref u), x1, some (.str (sk x)), some (.str (sk last)), some (.str "abcdefghijklmnopqrstuvwxyz"), some (.str "0123456789"), some (.str (sk (c :: r))), some (.bl b)] S = .ok (.bl b) S := rfl
    rw [x_orV, v7, DL.R.bind_ok, x_toB, DL.R.bind_ok, x_andV, s0, DL.R.bind_ok, x_toB, DL.R.bind_ok, hi]
    cases b <;> cases isDg c <;> simp
  generalize hb : ((isW c && headIs isSm last) || (isDg c && headIs isDg last)) = b at A2
  have hwb : wordsP last (c :: r) = b := hb
  obtain ⟨n, hn3, hn1, e3⟩ : ∃ n : Nat, n ≤ 3 ∧ (1 ≤ n ∨ wordsP last (c :: r) = false) ∧ mCB (two maxD) (mCons (mCB (one intD) (mCons (mVar 7) mNil)) (mCons (mCall 2 m_L_item (mCons (mVar 0) (mCons (mLst (mCons (mC (.int 0)) (mCons (mC (.int 0)) (mCons (mC (.int 1)) (mCons (mC (.int 1)) (mCons (mC (.int 1)) (mCons (mC (.int 3)) mNil))))))) mNil))) mNil)) [some (.ref u), x1, some (.str (sk x)), some (.str (sk last)), some (.str "abcdefghijklmnopqrstuvwxyz"), some (.str "0123456789"), some (.str (sk (c :: r))), some (.bl b)] S = .ok (.int (n : Nat)) S1 := by
    have I : mCall 2 m_L_item (mCons (mVar 0) (mCons (mLst (mCons (mC (.int 0)) (mCons (mC (.int 0)) (mCons (mC (.int 1)) (mCons (mC (.int 1)) (mCons (mC (.int 1)) (mCons (mC (.int 3)) mNil))))))) mNil)) [some (.ref u), x1, some (.str (sk x)), some (.str (sk last)), some (.str "abcdefghijklmnopqrstuvwxyz"), some (.str "0123456789"), some (.str (sk (c :: r))), some (.bl b)] S = .ok d S1 := by
      simp [sizeLine, e1]
    rw [hwb]
    have M : d = .int 0 ∨ d = .int 1 ∨ d = .int 3 := by simpa using m1
    rcases M with rfl | rfl | rfl <;> cases b
    · exact ⟨0, by decide, .inr rfl, by simp [-x_call, I, one, two, intD, b2, maxD]⟩
    · exact ⟨1, by decide, .inl (by decide), by simp [-x_call, I, one, two, intD, b2, maxD]⟩
    · exact ⟨1, by decide, .inl (by decide), by simp [-x_call, I, one, two, intD, b2, maxD]⟩
    · exact ⟨1, by decide, .inl (by decide), by simp [-x_call, I, one, two, intD, b2, maxD]⟩
    · exact ⟨3, by decide, .inl (by decide), by simp [-x_call, I, one, two, intD, b2, maxD]⟩
    · exact ⟨3, by decide, .inl (by decide), by simp [-x_call, I, one, two, intD, b2, maxD]⟩
  have sp := s_spaces (n := (n : Int)) S1 (by omega) (by omega)
  rw [Int.toNat_natCast] at sp
  have z : ∀ m, m ≤ 20000 → m ≤ sizeLine := fun m hm => by rw [show sizeLine = 16777216 from rfl]; omega
  have a1 := add_str (a := x) (b := List.replicate n 32) S1 (z _ (by rw [List.length_replicate]; omega))
  have a2 := add_str (a := x ++ List.replicate n 32) (b := c :: r) S1 (z _ (by rw [List.length_append, List.length_replicate]; omega))
  refine ⟨n, some (.bl b), S1, ?_, hn3, hn1, u1, b1⟩
  unfold b_L_spaced_1
  refine (seq_asg (A1 x7)).trans ?_
  simp only [List.set]
  have A2' := A2 (isW c && headIs isSm last)
  rw [hb] at A2'
  refine (seq_asg A2').trans ?_
  simp only [List.set]
  refine (seq_asg (d := .str (sk (x ++ List.replicate n 32 ++ (c :: r)))) (S' := S1) ?_).trans ?_
  · rw [x_op, x_op, x_var]
    simp only [List.getElem?_cons_zero, List.getElem?_cons_succ, DL.R.bind_ok]
    rw [x_op, x_c, DL.R.bind_ok, e3, DL.R.bind_ok, sp, DL.R.bind_ok, a1, DL.R.bind_ok, x_var]
    simp only [List.getElem?_cons_zero, List.getElem?_cons_succ, DL.R.bind_ok]
    exact a2
  · simp
/-- the text of tokens, from the left -/
theorem spaced_fold {u : Nat} (x1 : Option D) : ∀ (ts tks : List (List Nat × K)) (k : Nat) (S : Store) (x last : List Nat) (x6 x7 : Option D), Urn u k S → k + ts.length < 2 ^ 56 → (∀ w ∈ ts, TV w.1 w.2) → Pre tks x → Asc x → 10 ∉ x → x.length ≤ 11 * tks.length → tks.length + ts.length ≤ 60 → (tks = [] ∧ last = [] ∨ ∃ w kd, tks.getLast? = some (w, kd) ∧ last = w ∧ TV w kd) →
    ∃ (y last' : List Nat) (y6 y7 : Option D) (S' : Store), mForL (gN 6) b_L_spaced_1 (tksD ts) [some (.ref u), x1, some (.str (sk x)), some (.str (sk last)), some (.str "abcdefghijklmnopqrstuvwxyz"), some (.str "0123456789"), x6, x7] S = .go .nx [some (.ref u), x1, some (.str (sk y)), some (.str (sk last')), some (.str "abcdefghijklmnopqrstuvwxyz"), some (.str "0123456789"), y6, y7] S' ∧ Pre (tks ++ ts) y ∧ Asc y ∧ 10 ∉ y ∧ y.length ≤ 11 * (tks.length + ts.length) ∧ Urn u (k + ts.length) S' ∧ But u S S'
  | [], tks, k, S, x, last, x6, x7, hu, hk, ht, hp, ha, h10, hl, h60, hq => ⟨x, last, x6, x7, S, rfl, by simpa using hp, ha, h10, by simpa using hl, by simpa using hu, But.refl _ _⟩
  | (w, kd) :: ts, tks, k, S, x, last, x6, x7, hu, hk, ht, hp, ha, h10, hl, h60, hq => by
    simp only [List.length_cons] at hk h60
    have tw : TV w kd := ht (w, kd) List.mem_cons_self
    obtain ⟨s1, s2, s3⟩ := tv_small tw
    have hx4 : x.length ≤ 10000 := by omega
    have hll : last.length ≤ 8 := by
      rcases hq with ⟨_, rfl⟩ | ⟨w', k', _, rfl, t'⟩
      · simp
      · exact (tv_small t').2.2
    obtain ⟨n, y7, S1, e1, n3, n1, u1, b1⟩ := spaced_turn (x := x) (last := last) hu (by omega) tw hx4 hll x1 x7
    have hlast : 1 ≤ n ∨ lastOk tks w := n1.imp id fun hw => by
      rcases hq with ⟨rfl, _⟩ | ⟨w', k', e', rfl, t'⟩
      · intro a b z; simp at z
      · intro a b z
        rw [e'] at z
        injection z with z
        injection z with z1 z2
        subst z1 z2
        exact words_sep t' hw
    have hp1 := pre_snoc hp tw hlast
    have ha1 : Asc (x ++ List.replicate n 32 ++ w) := fun c hc => by
      rw [List.mem_append, List.mem_append] at hc
      rcases hc with (hc | hc) | hc
      · exact ha c hc
      · rw [List.eq_of_mem_replicate hc]; decide
      · exact s1 c hc
    have h101 : 10 ∉ x ++ List.replicate n 32 ++ w := fun hc => by
      rw [List.mem_append, List.mem_append] at hc
      rcases hc with (hc | hc) | hc
      · exact h10 hc
      · have := List.eq_of_mem_replicate hc; omega
      · exact s2 hc
    obtain ⟨y, last', y6, z7, S2, e2, p2, a2, t2, l2, u2, b2⟩ := spaced_fold x1 ts (tks ++ [(w, kd)]) (k + 1) S1 (x ++ List.replicate n 32 ++ w) w (some (.str (sk w))) y7 u1 (by omega) (fun v hv => ht v (List.mem_cons_of_mem _ hv)) hp1 ha1 h101 (by simp; omega) (by simp; omega) (.inr ⟨w, kd, by simp, rfl, tw⟩)
    refine ⟨y, last', y6, z7, S2, ?_, by simpa using p2, a2, t2, by simp at l2 ⊢; omega, by rw [List.length_cons, show k + (ts.length + 1) = k + 1 + ts.length by omega]; exact u2, b1.trans b2⟩
    have T : tksD ((w, kd) :: ts) = .str (sk w) :: tksD ts := rfl
    simp only [T, mForL, x_gN, List.set, e1]
    exact e2
theorem s_spaced {u k : Nat} {S : Store} {ts : List (List Nat × K)} (h : Urn u k S) (hk : k < 2 ^ 55) (ht : TkL ts) : ∃ (l : List Nat) (S' : Store), m_L_spaced [.ref u, .lst (tksD ts)] S = .ok (.str (sk l)) S' ∧ Sp ts l ∧ Asc l ∧ 10 ∉ l ∧ l.length ≤ 662 ∧ Urn u (k + 61) S' ∧ But u S S' := by
  have e0 : ("" : Str) = sk [] := by decide +kernel
  have ht2 := ht.2
  obtain ⟨y, last, y6, y7, S1, e1, p1, a1, t1, l1, u1, b1⟩ := spaced_fold (some (.lst (tksD ts))) ts [] k S [] [] none none h (by omega) ht.1 pre_nil (by intro c hc; simp at hc) (by simp) (by simp) (by simpa using ht2) (.inl ⟨rfl, rfl⟩)
  rw [List.nil_append] at p1
  rw [List.length_nil, Nat.zero_add] at l1
  obtain ⟨r, S2, e2, r0, r1, u2, b2⟩ := s_pull (m := 2) (n := 2) u1 (by decide) (by unfold Sz; decide) (by decide) (by omega)
  obtain ⟨j, hj⟩ := Int.eq_ofNat_of_zero_le r0
  subst hj
  have sp := s_spaces (n := (j : Int)) S2 (by omega) (by omega)
  rw [Int.toNat_natCast] at sp
  have ad := add_str (a := y) (b := List.replicate j 32) S2 (by rw [List.length_replicate, show sizeLine = 16777216 from rfl]; omega)
  refine ⟨y ++ List.replicate j 32, S2, ?_, pre_end p1 j, fun c hc => ?_, fun hc => ?_, by rw [List.length_append, List.length_replicate]; omega, u2.mono (by omega), b1.trans b2⟩
  · unfold m_L_spaced
    rw [← e0] at e1
    rw [x_fun, show start0 8 [.ref u, .lst (tksD ts)] = [some (.ref u), some (.lst (tksD ts)), none, none, none, none, none, none] from rfl]
    rw [seq_asgG (d := .tup [.str "", .str ""]) (S' := S) (ρ' := [some (.ref u), some (.lst (tksD ts)), some (.str ""), some (.str ""), none, none, none, none]) (S2 := S) (by simp [sizeLine]) (by simp)]
    rw [seq_asgG (d := .tup [.str "abcdefghijklmnopqrstuvwxyz", .str "0123456789"]) (S' := S) (ρ' := [some (.ref u), some (.lst (tksD ts)), some (.str ""), some (.str ""), some (.str "abcdefghijklmnopqrstuvwxyz"), some (.str "0123456789"), none, none]) (S2 := S) (by simp [sizeLine]) (by simp)]
    rw [seq_nx (ρ' := [some (.ref u), some (.lst (tksD ts)), some (.str (sk y)), some (.str (sk last)), some (.str "abcdefghijklmnopqrstuvwxyz"), some (.str "0123456789"), y6, y7]) (S' := S1) (by
      simp only [x_for, x_it, x_var, List.getElem?_cons_zero, List.getElem?_cons_succ, DL.R.bind_ok, x_itL, DL.R.to_ok]
      exact e1)]
    rw [ret_ok (d := .str (sk (y ++ List.replicate j 32))) (S' := S2) (by
      rw [x_op, x_var]
      simp only [List.getElem?_cons_zero, List.getElem?_cons_succ, DL.R.bind_ok]
      simp only [x_op, x_c, x_call, x_cons, x_var, x_nil, List.getElem?_cons_zero, List.getElem?_cons_succ, DL.R.bind_ok, List.length_cons, List.length_nil, if_true, e2, sp]
      exact ad)]
  · rcases List.mem_append.mp hc with hc | hc
    · exact a1 c hc
    · rw [List.eq_of_mem_replicate hc]; decide
  · rcases List.mem_append.mp hc with hc | hc
    · exact t1 hc
    · have := List.eq_of_mem_replicate hc; omega
end DL

/-! Plain laws: texts that are laid out. -/
namespace DL
open PySem PySem.Spec PyProof.Rows L2 TL
/-- a line that may stand in a text -/
def LX (x : List Nat) : Prop := Asc x ∧ 10 ∉ x ∧ x.length ≤ 750
/-- a short comment -/
def CmX (d : D) : Prop := ∃ c, d = .str (sk c) ∧ Cm c ∧ Asc c ∧ 10 ∉ c ∧ c.length ≤ 40
theorem cmx_blank {z : Str} (n : Nat) (h : List.replicate n 32 = tl z) (h2 : n ≤ 40) : CmX (.str z) := by
  refine ⟨tl z, by rw [sk_tl], ⟨n, .inl h.symm⟩, fun c hc => ?_, fun hc => ?_, by rw [← h, List.length_replicate]; exact h2⟩
  · rw [← h] at hc; rw [List.eq_of_mem_replicate hc]; decide
  · rw [← h] at hc; have := List.eq_of_mem_replicate hc; omega
theorem cmx_hash {z : Str} (n : Nat) (h : (decide (List.replicate n 32 ++ 35 :: (tl z).drop (n + 1) = tl z) && (tl z).all (fun c => decide (c < 128) && decide (c ≠ 10)) && decide ((tl z).length ≤ 40)) = true) : CmX (.str z) := by
  rw [Bool.and_eq_true, Bool.and_eq_true, decide_eq_true_eq, decide_eq_true_eq, List.all_eq_true] at h
  obtain ⟨⟨h1, h2⟩, h3⟩ := h
  refine ⟨tl z, by rw [sk_tl], ⟨n, .inr ⟨_, h1.symm⟩⟩, fun c hc => ?_, fun hc => ?_, h3⟩
  · have := h2 c hc; simp at this; exact this.1
  · have := h2 10 hc; simp at this
theorem cmx_4 : ∀ d ∈ [D.str "", D.str "  ", D.str "# line", D.str "# It's 50 OF x!\t"], CmX d := by
  intro d hd
  simp only [List.mem_cons, List.not_mem_nil, or_false] at hd
  rcases hd with rfl | rfl | rfl | rfl
  · exact cmx_blank 0 (by decide +kernel) (by decide)
  · exact cmx_blank 2 (by decide +kernel) (by decide)
  · exact cmx_hash 0 (by decide +kernel)
  · exact cmx_hash 0 (by decide +kernel)
theorem cmx_6 : ∀ d ∈ [D.str "", D.str "", D.str "# drift 1 1", D.str " ##", D.str "# Halve it, [A-Z] 12345 01?", D.str "#\t~|@"], CmX d := by
  intro d hd
  simp only [List.mem_cons, List.not_mem_nil, or_false] at hd
  rcases hd with rfl | rfl | rfl | rfl | rfl | rfl
  · exact cmx_blank 0 (by decide +kernel) (by decide)
  · exact cmx_blank 0 (by decide +kernel) (by decide)
  · exact cmx_hash 0 (by decide +kernel)
  · exact cmx_hash 1 (by decide +kernel)
  · exact cmx_hash 0 (by decide +kernel)
  · exact cmx_hash 0 (by decide +kernel)
def skD (x : List Nat) : D := .str (sk x)
/-- a comment line, or none -/
theorem blank_turn {u p k : Nat} {S : Store} {xs : List (List Nat)} (hpu : p ≠ u) (h : Urn u k S) (hk : k < 2 ^ 56) (hp : S[p]? = some (.lst (xs.map skD))) (hl : xs.length < 1000) (x1 x3 x4 x5 : Option D) : ∃ (x : List Nat) (S' : Store), b_L_laid_1 [some (.ref u), x1, some (.ref p), x3, x4, x5] S = .go .nx [some (.ref u), x1, some (.ref p), x3, x4, x5] S' ∧ S'[p]? = some (.lst ((xs ++ [x]).map skD)) ∧ LineTx [] x ∧ LX x ∧ Urn u (k + 1) S' ∧ Kp [u, p] S S' := by
  obtain ⟨d, S1, e1, m1, u1, b1⟩ := s_item (l := [.str "", .str "  ", .str "# line", .str "# It's 50 OF x!\t"]) h (by simp) (by decide) (by omega)
  obtain ⟨c, rfl, hc, ha, h10, hcl⟩ := cmx_4 d m1
  have hp1 : S1[p]? = some (.lst (xs.map skD)) := by rw [b1.at_ p hpu]; exact hp
  have il : isL (.ref p) S = true := by simp [isL, lstOf, hp]
  have ap : appendD (.ref p) [.str (sk c)] S1 = .ok .non (S1.set p (.lst (xs.map skD ++ [.str (sk c)]))) := by
    simp [appendD, hp1]
    rw [show sizeLine = 16777216 from rfl]; omega
  refine ⟨c, S1.set p (.lst (xs.map skD ++ [.str (sk c)])), ?_, ?_, ⟨[], c, .nil 0, hc, rfl⟩, ⟨ha, h10, by omega⟩, u1.set hpu _, (b1.kp.mono (by simp)).trans (Kp.set (us := [u, p]) _ _ (by simp))⟩
  · unfold b_L_laid_1
    have I : mCall 2 m_L_item (mCons (mVar 0) (mCons (mLst (mCons (mC (.str "")) (mCons (mC (.str "  ")) (mCons (mC (.str "# line")) (mCons (mC (.str "# It's 50 OF x!\t")) mNil))))) mNil)) [some (.ref u), x1, some (.ref p), x3, x4, x5] S = .ok (.str (sk c)) S1 := by
      simp [sizeLine, e1]
    simp [-x_call, I, il, ap]
  · rw [set_at hp1]
    simp [skD]
theorem blanks {u p : Nat} (hpu : p ≠ u) (x1 x3 x5 : Option D) : ∀ (ds : List D) (xs : List (List Nat)) (k : Nat) (S : Store) (x4 : Option D), Urn u k S → k + ds.length < 2 ^ 56 → S[p]? = some (.lst (xs.map skD)) → xs.length + ds.length < 1000 →
    ∃ (zs : List (List Nat)) (y4 : Option D) (S' : Store), mForL (gN 4) b_L_laid_1 ds [some (.ref u), x1, some (.ref p), x3, x4, x5] S = .go .nx [some (.ref u), x1, some (.ref p), x3, y4, x5] S' ∧ S'[p]? = some (.lst ((xs ++ zs).map skD)) ∧ LdT zs [] ∧ (∀ z ∈ zs, LX z) ∧ zs.length = ds.length ∧ Urn u (k + ds.length) S' ∧ Kp [u, p] S S'
  | [], xs, k, S, x4, hu, hk, hp, hl => ⟨[], x4, S, rfl, by simpa using hp, .nil, by simp, rfl, by simpa using hu, Kp.refl _ _⟩
  | d :: ds, xs, k, S, x4, hu, hk, hp, hl => by
    simp only [List.length_cons] at hk hl
    obtain ⟨x, S1, e1, p1, t1, l1, u1, k1⟩ := blank_turn hpu hu (by omega) hp (by omega) x1 x3 (some d) x5
    obtain ⟨zs, y4, S2, e2, p2, t2, l2, n2, u2, k2⟩ := blanks hpu x1 x3 x5 ds (xs ++ [x]) (k + 1) S1 (some d) u1 (by omega) p1 (by simp; omega)
    refine ⟨x :: zs, y4, S2, ?_, by simpa using p2, .blank t1 t2, fun z hz => ?_, by simp [n2], by rw [List.length_cons, show k + (ds.length + 1) = k + 1 + ds.length by omega]; exact u2, k1.trans k2⟩
    · simp only [mForL, x_gN, List.set, e1]
      exact e2
    · rcases List.mem_cons.mp hz with rfl | hz
      · exact l1
      · exact l2 z hz
/-- one token list -/
theorem laid_turn {u p k : Nat} {S : Store} {xs : List (List Nat)} {t : List (List Nat × K)} (hpu : p ≠ u) (h : Urn u k S) (hk : k < 2 ^ 54) (hp : S[p]? = some (.lst (xs.map skD))) (hl : xs.length < 900) (ht : TkL t) (x1 x4 x5 : Option D) : ∃ (zs : List (List Nat)) (x : List Nat) (y4 y5 : Option D) (S' : Store),
    b_L_laid_2 [some (.ref u), x1, some (.ref p), some (.lst (tksD t)), x4, x5] S = .go .nx [some (.ref u), x1, some (.ref p), some (.lst (tksD t)), y4, y5] S' ∧ S'[p]? = some (.lst ((xs ++ zs ++ [x]).map skD)) ∧ LdT zs [] ∧ (∀ z ∈ zs, LX z) ∧ zs.length ≤ 1 ∧ LineTx t x ∧ LX x ∧ Urn u (k + 70) S' ∧ Kp [u, p] S S' := by
  obtain ⟨d1, S1, e1, m1, u1, b1⟩ := s_item (l := [.int 0, .int 0, .int 0, .int 1]) h (by simp) (by decide) (by omega)
  obtain ⟨n, rfl, hn⟩ : ∃ n : Nat, d1 = .int (n : Nat) ∧ n ≤ 1 := by
    have : d1 = .int 0 ∨ d1 = .int 1 := by simpa using m1
    rcases this with rfl | rfl
    · exact ⟨0, rfl, by decide⟩
    · exact ⟨1, rfl, by decide⟩
  have hp1 : S1[p]? = some (.lst (xs.map skD)) := by rw [b1.at_ p hpu]; exact hp
  obtain ⟨zs, y4, S2, e2, p2, t2, l2, n2, u2, k2⟩ := blanks hpu x1 (some (.lst (tksD t))) x5 (rangeL 0 n) xs (k + 1) S1 x4 u1 (by rw [rangeL_len]; omega) hp1 (by rw [rangeL_len]; omega)
  rw [rangeL_len] at n2 u2
  obtain ⟨d3, S3, e3, m3, u3, b3⟩ := s_item (l := [.str "", .str "", .str "# drift 1 1", .str " ##", .str "# Halve it, [A-Z] 12345 01?", .str "#\t~|@"]) u2 (by simp) (by decide) (by omega)
  obtain ⟨c, rfl, hc, hca, h10, hcl⟩ := cmx_6 d3 m3
  obtain ⟨d4, S4, e4, m4, u4, b4⟩ := s_item (l := [.int 0, .int 0, .int 2]) u3 (by simp) (by decide) (by omega)
  obtain ⟨m, rfl, hm⟩ : ∃ m : Nat, d4 = .int (m : Nat) ∧ m ≤ 2 := by
    have : d4 = .int 0 ∨ d4 = .int 2 := by simpa using m4
    rcases this with rfl | rfl
    · exact ⟨0, rfl, by decide⟩
    · exact ⟨2, rfl, by decide⟩
  have sp := s_spaces (n := (m : Int)) S4 (by omega) (by omega)
  rw [Int.toNat_natCast] at sp
  obtain ⟨l, S5, e5, s5, a5, t5, l5, u5, b5⟩ := s_spaced u4 (by omega) ht
  have z : ∀ m, m ≤ 20000 → m ≤ sizeLine := fun m hm => by rw [show sizeLine = 16777216 from rfl]; omega
  have ad1 := add_str (a := List.replicate m 32) (b := l) S5 (z _ (by rw [List.length_replicate]; omega))
  have ad2 := add_str (a := List.replicate m 32 ++ l) (b := c) S5 (z _ (by rw [List.length_append, List.length_replicate]; omega))
  have b35 := (b3.trans b4).trans b5
  have hp3 : S3[p]? = some (.lst ((xs ++ zs).map skD)) := by rw [b3.at_ p hpu]; exact p2
  have hp5 : S5[p]? = some (.lst ((xs ++ zs).map skD)) := by rw [b35.at_ p hpu]; exact p2
  have il : isL (.ref p) S3 = true := by simp [isL, lstOf, hp3]
  have ap : appendD (.ref p) [.str (sk (List.replicate m 32 ++ l ++ c))] S5 = .ok .non (S5.set p (.lst ((xs ++ zs).map skD ++ [.str (sk (List.replicate m 32 ++ l ++ c))]))) := by
    simp only [appendD, hp5]
    rw [if_pos (by rw [show sizeLine = 16777216 from rfl]; simp; omega)]
  refine ⟨zs, List.replicate m 32 ++ l ++ c, y4, some (.str (sk c)), S5.set p (.lst ((xs ++ zs).map skD ++ [.str (sk (List.replicate m 32 ++ l ++ c))])), ?_, ?_, t2, l2, by omega, ?_, ⟨fun d hd => ?_, fun hd => ?_, ?_⟩, (u5.set hpu _).mono (by omega), ((((b1.kp.mono (by simp)).trans k2).trans (b35.kp.mono (by simp)))).trans (Kp.set (us := [u, p]) _ _ (by simp))⟩
  · unfold b_L_laid_2
    have I1 : mCall 2 m_L_item (mCons (mVar 0) (mCons (mLst (mCons (mC (.int 0)) (mCons (mC (.int 0)) (mCons (mC (.int 0)) (mCons (mC (.int 1)) mNil))))) mNil)) [some (.ref u), x1, some (.ref p), some (.lst (tksD t)), x4, x5] S = .ok (.int (n : Nat)) S1 := by
      simp [sizeLine, e1]
    have rg := x_range I1 (by omega) (by omega)
    rw [Int.toNat_natCast] at rg
    rw [seq_nx (ρ' := [some (.ref u), x1, some (.ref p), some (.lst (tksD t)), y4, x5]) (S' := S2) (by
      rw [x_for, rg, DL.R.to_ok]
      exact e2)]
    have I3 : mCall 2 m_L_item (mCons (mVar 0) (mCons (mLst (mCons (mC (.str "")) (mCons (mC (.str "")) (mCons (mC (.str "# drift 1 1")) (mCons (mC (.str " ##")) (mCons (mC (.str "# Halve it, [A-Z] 12345 01?")) (mCons (mC (.str "#\t~|@")) mNil))))))) mNil)) [some (.ref u), x1, some (.ref p), some (.lst (tksD t)), y4, x5] S2 = .ok (.str (sk c)) S3 := by
      simp [sizeLine, e3]
    rw [seq_asg I3]
    simp only [List.set]
    have I4 : mCall 2 m_L_item (mCons (mVar 0) (mCons (mLst (mCons (mC (.int 0)) (mCons (mC (.int 0)) (mCons (mC (.int 2)) mNil)))) mNil)) [some (.ref u), x1, some (.ref p), some (.lst (tksD t)), y4, some (.str (sk c))] S3 = .ok (.int (m : Nat)) S4 := by
      simp [sizeLine, e4]
    have I5 : mCall 2 m_L_spaced (mCons (mVar 0) (mCons (mVar 3) mNil)) [some (.ref u), x1, some (.ref p), some (.lst (tksD t)), y4, some (.str (sk c))] S4 = .ok (.str (sk l)) S5 := by
      simp [e5]
    have F : mOp addD (mOp addD (mOp mulT (mC (.str " ")) (mCall 2 m_L_item (mCons (mVar 0) (mCons (mLst (mCons (mC (.int 0)) (mCons (mC (.int 0)) (mCons (mC (.int 2)) mNil)))) mNil)))) (mCall 2 m_L_spaced (mCons (mVar 0) (mCons (mVar 3) mNil)))) (mVar 5) [some (.ref u), x1, some (.ref p), some (.lst (tksD t)), y4, some (.str (sk c))] S3 = .ok (.str (sk (List.replicate m 32 ++ l ++ c))) S5 := by
      rw [x_op, x_op, x_op, x_c, DL.R.bind_ok, I4, DL.R.bind_ok, sp, DL.R.bind_ok, I5, DL.R.bind_ok, ad1, DL.R.bind_ok, x_var]
      simp only [List.getElem?_cons_zero, List.getElem?_cons_succ, DL.R.bind_ok]
      exact ad2
    simp [-x_op, F, il, -List.map_append, -List.append_assoc, ap]
  · rw [set_at hp5]
    simp [skD]
  · rw [List.append_assoc]
    exact line_ahead ⟨l, c, s5, hc, rfl⟩ m
  · rw [List.mem_append, List.mem_append] at hd
    rcases hd with (hd | hd) | hd
    · rw [List.eq_of_mem_replicate hd]; decide
    · exact a5 d hd
    · exact hca d hd
  · rw [List.mem_append, List.mem_append] at hd
    rcases hd with (hd | hd) | hd
    · have := List.eq_of_mem_replicate hd; omega
    · exact t5 hd
    · exact h10 hd
  · rw [List.length_append, List.length_append, List.length_replicate]; omega
theorem laid_fold {u p : Nat} (hpu : p ≠ u) (x1 : Option D) : ∀ (ts : List (List (List Nat × K))) (xs : List (List Nat)) (k : Nat) (S : Store) (x3 x4 x5 : Option D), Urn u k S → k + 70 * ts.length < 2 ^ 54 → S[p]? = some (.lst (xs.map skD)) → xs.length + 2 * ts.length < 800 → (∀ t ∈ ts, TkL t) →
    ∃ (ys : List (List Nat)) (y3 y4 y5 : Option D) (S' : Store), mForL (gN 3) b_L_laid_2 (ts.map fun t => .lst (tksD t)) [some (.ref u), x1, some (.ref p), x3, x4, x5] S = .go .nx [some (.ref u), x1, some (.ref p), y3, y4, y5] S' ∧ S'[p]? = some (.lst ((xs ++ ys).map skD)) ∧ (∀ y ∈ ys, LX y) ∧ ys.length ≤ 2 * ts.length ∧ (ts = [] ∧ ys = [] ∨ ∃ ys1 y, ys = ys1 ++ [y] ∧ ∀ w, Cm w → LdT (ys1 ++ [y ++ w]) ts) ∧ Urn u (k + 70 * ts.length) S' ∧ Kp [u, p] S S'
  | [], xs, k, S, x3, x4, x5, hu, hk, hp, hl, ht => ⟨[], x3, x4, x5, S, rfl, by simpa using hp, by simp, by simp, .inl ⟨rfl, rfl⟩, by simpa using hu, Kp.refl _ _⟩
  | t :: ts, xs, k, S, x3, x4, x5, hu, hk, hp, hl, ht => by
    simp only [List.length_cons] at hk hl
    obtain ⟨zs, x, y4, y5, S1, e1, p1, t1, l1, n1, t2, l2, u1, k1⟩ := laid_turn hpu hu (by omega) hp (by omega) (ht t List.mem_cons_self) x1 x4 x5
    obtain ⟨ys, w3, w4, w5, S2, e2, p2, l3, n3, q3, u3, k3⟩ := laid_fold hpu x1 ts (xs ++ zs ++ [x]) (k + 70) S1 (some (.lst (tksD t))) y4 y5 u1 (by omega) p1 (by simp; omega) (fun v hv => ht v (List.mem_cons_of_mem _ hv))
    refine ⟨zs ++ x :: ys, w3, w4, w5, S2, ?_, by simpa using p2, fun y hy => ?_, by simp; omega, .inr ?_, by rw [List.length_cons, show k + 70 * (ts.length + 1) = k + 70 + 70 * ts.length by omega]; exact u3, k1.trans k3⟩
    · simp only [List.map_cons, mForL, x_gN, List.set, e1]
      exact e2
    · rcases List.mem_append.mp hy with hy | hy
      · exact l1 y hy
      · rcases List.mem_cons.mp hy with rfl | hy
        · exact l2
        · exact l3 y hy
    · rcases q3 with ⟨rfl, rfl⟩ | ⟨ys1, y, rfl, h⟩
      · exact ⟨zs, x, rfl, fun w hw => ldt_app (us := [t]) t1 (.item (line_more t2 hw) .nil)⟩
      · refine ⟨zs ++ x :: ys1, y, by simp, fun w hw => ?_⟩
        have := ldt_app (us := t :: ts) t1 (.item t2 (h w hw))
        simpa using this
end DL

/-! Plain laws: the laid out text as a whole. -/
namespace DL
open PySem PySem.Spec PyProof.Rows L2 TL
theorem joinL_len : ∀ (xs : List (List Nat)) (b : Nat), (∀ x ∈ xs, x.length ≤ b) → (joinL [10] xs).length ≤ xs.length * (b + 1)
  | [], b, h => by simp [joinL]
  | [x], b, h => by
    have := h x List.mem_cons_self
    simp [joinL]; omega
  | x :: y :: r, b, h => by
    have h1 := h x List.mem_cons_self
    have h2 := joinL_len (y :: r) b fun z hz => h z (List.mem_cons_of_mem _ hz)
    simp only [joinL, List.length_append, List.length_cons, List.length_nil] at h2 ⊢
    rw [Nat.add_mul (r.length + 1) 1 (b + 1)]
    omega
theorem joinL_asc : ∀ (xs : List (List Nat)), (∀ x ∈ xs, Asc x) → Asc (joinL [10] xs)
  | [], h => by intro c hc; simp [joinL] at hc
  | [x], h => by simpa [joinL] using h x List.mem_cons_self
  | x :: y :: r, h => by
    have h1 := h x List.mem_cons_self
    have h2 := joinL_asc (y :: r) fun z hz => h z (List.mem_cons_of_mem _ hz)
    intro c hc
    simp only [joinL, List.mem_append, List.mem_singleton] at hc
    rcases hc with hc | hc | hc
    · exact h1 c hc
    · subst hc; decide
    · exact h2 c hc
theorem s_join10 {xs : List (List Nat)} {p : Nat} {S : Store} (hp : S[p]? = some (.lst (xs.map skD))) (hx : ∀ x ∈ xs, LX x) (hl : xs.length ≤ 1000) : joinD (.str "\n") (.ref p) S = .ok (.str (sk (joinL [10] xs))) S := by
  have st : strsD (xs.map skD) = some (xs.map sk) := by
    clear hp hx hl
    induction xs with
    | nil => rfl
    | cons c w ih => simp [strsD, ih, skD]
  have sm : ∀ ys : List (List Nat), (∀ x ∈ ys, LX x) → ((ys.map sk).map (·.length)).sum ≤ 750 * ys.length := fun ys hy => by
    induction ys with
    | nil => simp
    | cons c w ih =>
      have h1 := (hy c List.mem_cons_self).2.2
      have h2 := ih fun x hx => hy x (List.mem_cons_of_mem _ hx)
      simp only [List.map_cons, List.sum_cons, List.length_cons, len_sk]
      omega
  have n10 : ("\n" : Str) = sk [10] := by decide +kernel
  have e : Txt.join "\n" (xs.map sk) = sk (joinL [10] xs) := by
    refine ext_tl ?_
    rw [n10, join_eq, tl_join, List.map_map, tl_sk, tl_sk]
    congr 1
    have : (tl ∘ sk) = id := rfl
    rw [this, List.map_id]
  have sq : seqOf (.ref p) S = some (xs.map skD) := by simp [seqOf, lstOf, hp]
  have sm' := sm xs hx
  simp only [joinD, sq, st]
  rw [if_pos (by rw [n10, len_sk]; simp at sm' ⊢; omega), e]
/-- THE LAID OUT TEXT -/
theorem s_laid {u k : Nat} {S : Store} {ts : List (List (List Nat × K))} (h : Urn u k S) (hk : k < 2 ^ 50) (hu : u < S.length) (ht : ∀ t ∈ ts, TkL t) (h0 : ts ≠ []) (hl : ts.length ≤ 18) : ∃ (xs : List (List Nat)) (x : List Nat) (S' : Store), m_L_laid [.ref u, .lst (ts.map fun t => .lst (tksD t))] S = .ok (.str (sk (joinL [10] (xs ++ [x])))) S' ∧ (∀ y ∈ xs ++ [x], LX y) ∧ (xs ++ [x]).length ≤ 36 ∧ (∀ w, Cm w → LdT (xs ++ [x ++ w]) ts) ∧ Urn u (k + 1260) S' ∧ Kp [u] S S' := by
  have k0 : Kp [u] S (S ++ [.lst []]) := Kp.app _ _ _
  obtain ⟨ys, y3, y4, y5, S1, e1, p1, l1, n1, q1, u1, k1⟩ := laid_fold (u := u) (p := S.length) (by omega) (some (.lst (ts.map fun t => .lst (tksD t)))) ts [] k (S ++ [.lst []]) none none none (h.kp (Kp.app [] S _) (by simp)) (by omega) (by simp) (by simp; omega) ht
  rw [List.nil_append] at p1
  rcases q1 with ⟨rfl, _⟩ | ⟨xs, x, rfl, hw⟩
  · exact absurd rfl h0
  have hu1 : ∀ v ∈ [u, S.length], v ∈ [u] ∨ S.length ≤ v := fun v hv => by
    simp at hv
    rcases hv with rfl | rfl
    · exact .inl (by simp)
    · exact .inr (Nat.le_refl _)
  have jn := s_join10 p1 l1 (by omega)
  refine ⟨xs, x, S1, ?_, l1, by omega, hw, u1.mono (by omega), k0.then k1 hu1⟩
  unfold m_L_laid
  rw [x_fun, show start0 6 [.ref u, .lst (ts.map fun t => .lst (tksD t))] = [some (.ref u), some (.lst (ts.map fun t => .lst (tksD t))), none, none, none, none] from rfl]
  rw [seq_asg (d := .ref S.length) (S' := S ++ [.lst []]) (by simp [sizeLine])]
  rw [seq_nx (ρ' := [some (.ref u), some (.lst (ts.map fun t => .lst (tksD t))), some (.ref S.length), y3, y4, y5]) (S' := S1) (by
    simp only [x_for, x_it, x_var, List.set, List.getElem?_cons_zero, List.getElem?_cons_succ, DL.R.bind_ok, x_itL, DL.R.to_ok]
    exact e1)]
  rw [ret_ok (d := .str (sk (joinL [10] (xs ++ [x])))) (S' := S1) (by
    simp only [x_str1, x_c, x_var, List.getElem?_cons_zero, List.getElem?_cons_succ, DL.R.bind_ok, isS_str, if_true]
    exact jn)]
end DL

/-! k40's plain law. -/
namespace DL
open PySem PySem.Spec PyProof.Rows L2 TL
theorem bulk_map {α : Type} (f : α → D) (c : Nat) : ∀ l : List α, (∀ a ∈ l, (toPy (f a)).bulk ≤ c) → PyData.bulkAll (toPys (l.map f)) ≤ l.length * (c + 1)
  | [], _ => by simp [toPys, PyData.bulkAll]
  | a :: l, h => by
    have h1 := h a List.mem_cons_self
    have h2 := bulk_map f c l fun b hb => h b (List.mem_cons_of_mem _ hb)
    simp only [List.map_cons, toPys, PyData.bulkAll, List.length_cons, Nat.succ_mul]
    omega
theorem szDs_map {α : Type} (f : α → D) (n : Nat) : ∀ l : List α, (∀ a ∈ l, szD n (f a)) → szDs n (l.map f)
  | [], _ => trivial
  | a :: l, h => ⟨h a List.mem_cons_self, szDs_map f n l fun b hb => h b (List.mem_cons_of_mem _ hb)⟩
theorem plains_map {α : Type} (f : α → D) (n : Nat) : ∀ l : List α, (∀ a ∈ l, plain n (f a) = true) → plains n (l.map f) = true
  | [], _ => rfl
  | a :: l, h => by
    simp only [List.map_cons, plains, h a List.mem_cons_self, Bool.true_and]
    exact plains_map f n l fun b hb => h b (List.mem_cons_of_mem _ hb)
theorem sz_fr {n : Nat} {q : Rat} (h : RS n q) (hn : n ≤ 14000) : szD 14000 (fr q) := by
  simp only [fr, szD, szDs]; exact ⟨h.1.mono hn, h.den.mono hn, trivial⟩
theorem bulk_fr (q : Rat) : (toPy (fr q)).bulk = 2 := by simp [fr, toPy, toPys, PyData.bulk, PyData.bulkAll]
theorem nm_size {n : Str} (h : TV (tl n) .name) : n.cps.size ≤ 8 := (tv_small h).2.2
theorem ln_shown {l : Ln} (o : LnN l) (t : TV (tl l.nm) .name) : plain 61 l.d = true ∧ szD 14000 l.d ∧ (toPy l.d).bulk ≤ 18 := by
  have := nm_size t
  refine ⟨?_, ?_, ?_⟩
  · simp only [Ln.d, plain, plains, plain_fr, tv_str t, Bool.and_true]
  · simp only [Ln.d, szD, szDs]
    exact ⟨trivial, sz_fr o.a.rs (by decide), sz_fr o.b.rs (by decide), sz_fr o.c.rs (by decide), trivial⟩
  · simp only [Ln.d, toPy, toPys, PyData.bulk, PyData.bulkAll, bulk_fr]
    omega
theorem rl_shown {ls : List Ln} (P : LsOk ls) {r : Rl} (o : RlN r ls) : plain 61 r.d = true ∧ szD 14000 r.d ∧ (toPy r.d).bulk ≤ 90 := by
  have nm : ∀ c ∈ r.cs, TV (tl c.1) .name ∧ (c.2 = 1 ∨ c.2 = -1) := fun c hc => by
    obtain ⟨q1, q2⟩ := o.cs c hc
    obtain ⟨l, hl, e⟩ := List.mem_map.mp q1
    exact ⟨e ▸ P.tv l hl, q2⟩
  refine ⟨?_, ?_, ?_⟩
  · have := plain_cnds (n := 58) (cs := r.cs) fun c hc => tv_str (nm c hc).1
    simp only [Rl.d, plain, plains, plain_fr, Bool.and_true, Bool.true_and]
    exact this
  · simp only [Rl.d, szD, szDs]
    refine ⟨⟨sz_fr o.p.rs (by decide), sz_fr o.q.rs (by decide), trivial⟩, szDs_map cnd 14000 r.cs fun c hc => ?_, trivial⟩
    simp only [cnd, szD, szDs]
    refine ⟨trivial, ?_, trivial⟩
    rcases (nm c hc).2 with e | e <;> rw [e] <;> exact (show Sz 14000 _ from Nat.lt_of_lt_of_le (show _ < 2 ^ 1 by decide) (Nat.pow_le_pow_right (by decide) (by decide)))
  · have := bulk_map cnd 11 r.cs fun c hc => by
      have := nm_size (nm c hc).1
      simp only [cnd, toPy, toPys, PyData.bulk, PyData.bulkAll]
      omega
    have hl := o.l6
    simp only [Rl.d, toPy, toPys, PyData.bulk, PyData.bulkAll, bulk_fr]
    omega
theorem pln_rs {ls : List Ln} {rs : List Rl} (h : PlN ls rs) : (∀ r ∈ rs, RlN r ls) ∧ rs.length ≤ 12 ∧ rs ≠ [] := by
  obtain ⟨rs1, r, rfl, hl, h1, h2, h3⟩ := h.hrs
  refine ⟨fun x hx => ?_, by simp; omega, by simp⟩
  rcases List.mem_append.mp hx with hx | hx
  · exact (h1 x hx).1
  · rw [List.mem_singleton.mp hx]; exact h2
theorem shw_plan {ls : List Ln} {rs : List Rl} (hp : PlN ls rs) : Shw (planD ls rs) := by
  obtain ⟨hr, hl, _⟩ := pln_rs hp
  have P := hp.hls
  have h1 := plains_map Ln.d 61 ls fun l hl => (ln_shown (P.n l hl) (P.tv l hl)).1
  have h2 := plains_map Rl.d 61 rs fun r hr' => (rl_shown P (hr r hr')).1
  have h3 := szDs_map Ln.d 14000 ls fun l hl => (ln_shown (P.n l hl) (P.tv l hl)).2.1
  have h4 := szDs_map Rl.d 14000 rs fun r hr' => (rl_shown P (hr r hr')).2.1
  have h5 := bulk_map Ln.d 18 ls fun l hl => (ln_shown (P.n l hl) (P.tv l hl)).2.2
  have h6 := bulk_map Rl.d 90 rs fun r hr' => (rl_shown P (hr r hr')).2.2
  have := P.l6
  refine shw_of ?_ ?_ ?_
  · simp only [planD, plain, plains, h1, h2, Bool.and_true]
  · simp only [planD, szD, szDs]
    exact ⟨h3, h4, trivial⟩
  · simp only [planD, toPy, toPys, PyData.bulk, PyData.bulkAll]
    omega
theorem s_twin {d : D} (S : Store) (h : Shw d) : m_L_twin [d, d] S = .ok (.bl true) S := by
  unfold m_L_twin
  simp [repr_ok S h, eq_str]
theorem pl_ok {ls : List Ln} {rs : List Rl} (h : PlN ls rs) : PlOk ls rs := by
  have P := h.hls
  obtain ⟨hr, hl, _⟩ := pln_rs h
  refine ⟨P.nd, P.l6, P.ab, P.same, hl, fun r hr' => ⟨(hr r hr').cs, (hr r hr').nd, by have := (hr r hr').l6; omega⟩, ?_⟩
  obtain ⟨rs1, r, e, hl, h1, h2, h3⟩ := h.hrs
  exact ⟨rs1, r, e, h3, fun x hx => (h1 x hx).2⟩
/-- a text that is laid out is parsed -/
theorem parse_laid {ls : List Ln} {rs : List Rl} {ts : List (List (List Nat × K))} {xs : List (List Nat)} {x w : List Nat} (h : PlN ls rs) (i : Its ts ls rs) (hx : ∀ y ∈ xs ++ [x], LX y) (hl : (xs ++ [x]).length ≤ 36) (hw : ∀ w, Cm w → LdT (xs ++ [x ++ w]) ts) (cw : Cm w) (aw : Asc w) (w10 : 10 ∉ w) (lw : w.length ≤ 20000) (S : Store) : ∃ S', m_parse_plan [.str (sk (joinL [10] (xs ++ [x]) ++ w))] S = .ok (planD ls rs) S' ∧ Kp [] S S' := by
  have L := hw w cw
  rw [join_more]
  have hx1 : ∀ y ∈ xs ++ [x ++ w], Asc y ∧ 10 ∉ y ∧ y.length ≤ 20750 := fun y hy => by
    rcases List.mem_append.mp hy with hy | hy
    · have := hx y (List.mem_append_left _ hy)
      exact ⟨this.1, this.2.1, by have := this.2.2; omega⟩
    · rw [List.mem_singleton.mp hy]
      have := hx x (by simp)
      refine ⟨fun c hc => ?_, fun hc => ?_, by rw [List.length_append]; have := this.2.2; omega⟩
      · rcases List.mem_append.mp hc with hc | hc
        · exact this.1 c hc
        · exact aw c hc
      · rcases List.mem_append.mp hc with hc | hc
        · exact this.2.1 hc
        · exact w10 hc
  have pl := planP_laid L i (by simp) (fun y hy => (hx1 y hy).2.1) (by simp at hl ⊢; omega) (pl_ok h)
  have ja := joinL_asc (xs ++ [x ++ w]) fun y hy => (hx1 y hy).1
  have jl := joinL_len (xs ++ [x ++ w]) 20750 fun y hy => (hx1 y hy).2.2
  have hl2 : (xs ++ [x ++ w]).length ≤ 36 := by simpa using hl
  have jl2 : (joinL [10] (xs ++ [x ++ w])).length < 2 ^ 20 := by
    refine Nat.lt_of_le_of_lt jl (Nat.lt_of_le_of_lt (Nat.mul_le_mul_right _ hl2) (by decide))
  have sp := s_parsePlan (sk (joinL [10] (xs ++ [x ++ w]))) S (by rw [tl_sk]; exact ja) (by rw [tl_sk]; exact jl2)
  rw [pl] at sp
  obtain ⟨S', e, k, _⟩ := sp
  exact ⟨S', e, k⟩
/-- what is written behind the text -/
theorem wide_ok {m : Int} (S : Store) (h1 : -100000 ≤ m) (h2 : m ≤ 9900) : ∃ l : List D, (mLst (mCons (mOp mulT (mC (.str " ")) (mVar 6)) (mCons (mOp addD (mC (.str "#")) (mOp mulT (mC (.str "x")) (mVar 6))) (mCons (mC (.str "# $ & ( ) * + . / ; < > ^ _ { }")) (mCons (mOp mulT (mC (.str "# and x 1")) (mC (.int 70))) mNil))))) = mLst (mCons (mOp mulT (mC (.str " ")) (mVar 6)) (mCons (mOp addD (mC (.str "#")) (mOp mulT (mC (.str "x")) (mVar 6))) (mCons (mC (.str "# $ & ( ) * + . / ; < > ^ _ { }")) (mCons (mOp mulT (mC (.str "# and x 1")) (mC (.int 70))) mNil)))) ∧ l ≠ [] ∧ l.length = 4 ∧ (∀ d ∈ l, ∃ c, d = .str (sk c) ∧ Cm c ∧ Asc c ∧ 10 ∉ c ∧ c.length ≤ 10000) ∧ ∀ ρ : Env, ρ[6]? = some (some (.int m)) → mLst (mCons (mOp mulT (mC (.str " ")) (mVar 6)) (mCons (mOp addD (mC (.str "#")) (mOp mulT (mC (.str "x")) (mVar 6))) (mCons (mC (.str "# $ & ( ) * + . / ; < > ^ _ { }")) (mCons (mOp mulT (mC (.str "# and x 1")) (mC (.int 70))) mNil)))) ρ S = .ok (.lst l) S := by
  have m1 : mulT (.str " ") (.int m) S = .ok (.str (sk (List.replicate m.toNat 32))) S := s_spaces S (by omega) (by omega)
  have m2 : mulT (.str "x") (.int m) S = .ok (.str (sk (List.replicate m.toNat 120))) S := by
    simp only [mulT]
    rw [if_pos ⟨by omega, by omega, by decide +kernel⟩, mul_sk, show ("x" : Str) = sk [120] by decide +kernel, tl_sk, flat_one]
  have m3 : mulT (.str "# and x 1") (.int 70) S = .ok (.str (sk (List.replicate 70 (tl "# and x 1")).flatten)) S := by
    simp only [mulT]
    rw [if_pos ⟨by decide, by decide, by decide +kernel⟩, mul_sk]
    rfl
  have ad : addD (.str "#") (.str (sk (List.replicate m.toNat 120))) S = .ok (.str (sk (35 :: List.replicate m.toNat 120))) S := by
    rw [show ("#" : Str) = sk [35] by decide +kernel]
    exact add_str (a := [35]) S (by rw [List.length_replicate, show sizeLine = 16777216 from rfl]; simp; omega)
  refine ⟨[.str (sk (List.replicate m.toNat 32)), .str (sk (35 :: List.replicate m.toNat 120)), .str (sk (tl "# $ & ( ) * + . / ; < > ^ _ { }")), .str (sk (List.replicate 70 (tl "# and x 1")).flatten)], rfl, by simp, rfl, fun d hd => ?_, fun ρ h6 => ?_⟩
  · simp only [List.mem_cons, List.not_mem_nil, or_false] at hd
    rcases hd with rfl | rfl | rfl | rfl
    · refine ⟨_, rfl, ⟨_, .inl rfl⟩, fun c hc => ?_, fun hc => ?_, by rw [List.length_replicate]; omega⟩
      · rw [List.eq_of_mem_replicate hc]; decide
      · have := List.eq_of_mem_replicate hc; omega
    · refine ⟨_, rfl, ⟨0, .inr ⟨_, rfl⟩⟩, fun c hc => ?_, fun hc => ?_, by rw [List.length_cons, List.length_replicate]; omega⟩
      · rcases List.mem_cons.mp hc with rfl | hc
        · decide
        · rw [List.eq_of_mem_replicate hc]; decide
      · rcases List.mem_cons.mp hc with hc | hc
        · omega
        · have := List.eq_of_mem_replicate hc; omega
    · obtain ⟨c, e, q1, q2, q3, q4⟩ := cmx_hash (z := "# $ & ( ) * + . / ; < > ^ _ { }") 0 (by decide +kernel)
      refine ⟨c, by rw [sk_tl]; exact e, q1, q2, q3, by omega⟩
    · have t9 : tl "# and x 1" = [35, 32, 97, 110, 100, 32, 120, 32, 49] := by decide +kernel
      have al : ∀ c ∈ (List.replicate 70 (tl "# and x 1")).flatten, c < 128 ∧ c ≠ 10 := fun c hc => by
        obtain ⟨l, hl, hc⟩ := List.mem_flatten.mp hc
        rw [List.eq_of_mem_replicate hl, t9] at hc
        revert c
        decide
      refine ⟨_, rfl, ⟨0, .inr ⟨[32, 97, 110, 100, 32, 120, 32, 49] ++ (List.replicate 69 (tl "# and x 1")).flatten, ?_⟩⟩, fun c hc => (al c hc).1, fun hc => (al _ hc).2 rfl, ?_⟩
      · rw [show (70 : Nat) = 69 + 1 from rfl, List.replicate_succ, List.flatten_cons, t9]; rfl
      · rw [t9]; decide +kernel
  · have v6 : mVar 6 ρ S = .ok (.int m) S := by simp [h6]
    have s3 : D.str (sk (tl "# $ & ( ) * + . / ; < > ^ _ { }")) = D.str "# $ & ( ) * + . / ; < > ^ _ { }" := by rw [sk_tl]
    rw [s3]
    simp [-x_var, sizeLine, v6, m1, m2, m3, ad]
theorem law_step {S S1 S2 S3 S4 S5 S6 S7 S8 S9 : Store} {m1 m2 : Int} {Dl Dp Dt dJ dW dJW : D} {m : Int} {W : List D} (d0 x2 x3 x4 x5 x6 x7 : Option D)
    (e1 : m_L_pull [.ref 1, .int 7] S = .ok (.int m1) S1) (e2 : m_L_lines [.ref 1, .int m1] S1 = .ok Dl S2) (e3 : m_L_pull [.ref 1, .int 12] S2 = .ok (.int m2) S3)
    (e4 : m_L_plan [.ref 1, Dl, .int m2] S3 = .ok Dp S4) (e5 : m_L_plan_lines [.ref 1, Dp] S4 = .ok Dt S5) (e6 : m_L_laid [.ref 1, Dt] S5 = .ok dJ S6) (e7 : m_parse_plan [dJ] S6 = .ok Dp S7)
    (tw : ∀ S, m_L_twin [Dp, Dp] S = .ok (.bl true) S) (ln : mOp subD (mC (.int 9900)) (mCB (one lenD) (mCons (mVar 5) mNil)) [d0, some (.ref 1), x2, some Dl, some Dp, some dJ, x6, x7] S7 = .ok (.int m) S7)
    (WE : ∀ ρ : Env, ρ[6]? = some (some (.int m)) → mLst (mCons (mOp mulT (mC (.str " ")) (mVar 6)) (mCons (mOp addD (mC (.str "#")) (mOp mulT (mC (.str "x")) (mVar 6))) (mCons (mC (.str "# $ & ( ) * + . / ; < > ^ _ { }")) (mCons (mOp mulT (mC (.str "# and x 1")) (mC (.int 70))) mNil)))) ρ S7 = .ok (.lst W) S7)
    (e8 : m_L_item [.ref 1, .lst W] S7 = .ok dW S8) (ad : addD dJ dW S8 = .ok dJW S8) (e9 : m_parse_plan [dJW] S8 = .ok Dp S9) :
    b_law_1 [d0, some (.ref 1), x2, x3, x4, x5, x6, x7] S = .go .nx [d0, some (.ref 1), x2, some Dl, some Dp, some dJ, some (.int m), some dW] S9 := by
  unfold b_law_1
  refine (seq_asg (d := Dl) (S' := S2) (by simp [e1, e2])).trans ?_
  simp only [List.set]
  refine (seq_asg (d := Dp) (S' := S4) (by simp [e3, e4])).trans ?_
  simp only [List.set]
  refine (seq_asg (d := dJ) (S' := S6) (by simp [e5, e6])).trans ?_
  simp only [List.set]
  refine (seq_ifF (S' := S7) (by simp [e7, tw])).trans ?_
  refine (seq_asg ln).trans ?_
  simp only [List.set]
  have I := WE [d0, some (.ref 1), x2, some Dl, some Dp, some dJ, some (.int m), x7] rfl
  generalize mLst (mCons (mOp mulT (mC (.str " ")) (mVar 6)) (mCons (mOp addD (mC (.str "#")) (mOp mulT (mC (.str "x")) (mVar 6))) (mCons (mC (.str "# $ & ( ) * + . / ; < > ^ _ { }")) (mCons (mOp mulT (mC (.str "# and x 1")) (mC (.int 70))) mNil)))) = G at I ⊢
  refine (seq_asg (d := dW) (S' := S8) (by simp [I, e8])).trans ?_
  simp only [List.set]
  refine (if_f (S' := S9) (by simp [ad, e9, tw])).trans ?_
  rfl
theorem law_turn {k : Nat} {S : Store} (h : Urn 1 k S) (hk : k < 2 ^ 40) (hS : 1 < S.length) (d0 x2 x3 x4 x5 x6 x7 : Option D) : ∃ (y3 y4 y5 y6 y7 : Option D) (S' : Store),
    b_law_1 [d0, some (.ref 1), x2, x3, x4, x5, x6, x7] S = .go .nx [d0, some (.ref 1), x2, y3, y4, y5, y6, y7] S' ∧ Urn 1 (k + 10000) S' ∧ 1 < S'.length := by
  obtain ⟨r1, S1, e1, r10, r11, u1, b1⟩ := s_pull (m := 7) (n := 3) h (by decide) (by unfold Sz; decide) (by decide) (by omega)
  obtain ⟨m1, rfl⟩ := Int.eq_ofNat_of_zero_le r10
  obtain ⟨ls, S2, e2, P, u2, k2⟩ := s_lines u1 (by omega) (m := m1) (by omega) (by rw [b1.len]; exact hS)
  obtain ⟨r2, S3, e3, r20, r21, u3, b3⟩ := s_pull (m := 12) (n := 4) u2 (by decide) (by unfold Sz; decide) (by decide) (by omega)
  obtain ⟨m2, rfl⟩ := Int.eq_ofNat_of_zero_le r20
  have l1 : 1 < S1.length := by rw [b1.len]; exact hS
  have l2 : 1 < S2.length := Nat.lt_of_lt_of_le l1 k2.len
  have l3 : 1 < S3.length := by rw [b3.len]; exact l2
  obtain ⟨rs, S4, e4, hp, u4, k4⟩ := s_plan u3 (by omega) l3 P (m := m2) (by omega)
  have l4 : 1 < S4.length := Nat.lt_of_lt_of_le l3 k4.len
  obtain ⟨hr, hrl, hr0⟩ := pln_rs hp
  obtain ⟨ts, S5, e5, i5, t5, n5, u5, k5⟩ := s_planLines u4 (by omega) l4 P hr hrl
  have l5 : 1 < S5.length := Nat.lt_of_lt_of_le l4 k5.len
  have rp : 0 < rs.length := List.length_pos_iff.mpr hr0
  have P6 := P.l6
  obtain ⟨xs, x, S6, e6, x6', xl, hw, u6, k6⟩ := s_laid u5 (by omega) l5 t5 (fun z => by rw [z] at n5; simp at n5; omega) (by omega)
  have l6 : 1 < S6.length := Nat.lt_of_lt_of_le l5 k6.len
  obtain ⟨S7, e7, k7⟩ := parse_laid hp i5 x6' xl hw (w := []) ⟨0, .inl rfl⟩ (by intro c hc; simp at hc) (by simp) (by simp) S6
  rw [List.append_nil] at e7
  have l7 : 1 < S7.length := Nat.lt_of_lt_of_le l6 k7.len
  have u7 := u6.kp k7 (by simp)
  have jl := joinL_len (xs ++ [x]) 750 fun y hy => (x6' y hy).2.2
  have jl2 : (joinL [10] (xs ++ [x])).length ≤ 27036 := Nat.le_trans jl (Nat.le_trans (Nat.mul_le_mul_right _ xl) (by decide))
  have par : ∀ (w : List Nat), Cm w → Asc w → 10 ∉ w → w.length ≤ 20000 → ∀ S, ∃ S', m_parse_plan [.str (sk (joinL [10] (xs ++ [x]) ++ w))] S = .ok (planD ls rs) S' ∧ Kp [] S S' := fun w h1 h2 h3 h4 S => parse_laid hp i5 x6' xl hw h1 h2 h3 h4 S
  clear jl hw x6' xl i5 t5 n5
  generalize joinL [10] (xs ++ [x]) = J at *
  have z : ∀ m, m ≤ 100000 → m ≤ sizeLine := fun m hm => by rw [show sizeLine = 16777216 from rfl]; omega
  have ln := len_str (l := J) S7 (z _ (by omega))
  obtain ⟨W, _, W0, W4, WC, WE⟩ := wide_ok (m := 9900 - (J.length : Int)) S7 (by omega) (by omega)
  obtain ⟨d8, S8, e8, m8, u8, b8⟩ := s_item (l := W) u7 W0 (by rw [W4]; decide) (by omega)
  obtain ⟨c, rfl, c1, c2, c3, c4⟩ := WC d8 m8
  have l8 : 1 < S8.length := by rw [b8.len]; exact l7
  have ad := add_str (a := J) (b := c) S8 (z _ (by omega))
  obtain ⟨S9, e9, k9⟩ := par c c1 c2 c3 (by omega) S8
  have l9 : 1 < S9.length := Nat.lt_of_lt_of_le l8 k9.len
  have u9 := u8.kp k9 (by simp)
  have tw := fun S => s_twin S (shw_plan hp)
  refine ⟨some (.tup (ls.map Ln.d)), some (planD ls rs), some (.str (sk J)), some (.int (9900 - (J.length : Int))), some (.str (sk c)), S9, ?_, u9.mono (by omega), l9⟩
  refine law_step d0 x2 x3 x4 x5 x6 x7 e1 e2 e3 e4 e5 e6 e7 tw ?_ WE e8 ad e9
  have v5 : mVar 5 [d0, some (.ref 1), x2, some (.tup (ls.map Ln.d)), some (planD ls rs), some (.str (sk J)), x6, x7] S7 = .ok (.str (sk J)) S7 := rfl
  simp [-x_var, v5, one, ln]
theorem for_inv {gm : GM} {fb : SM} (I : List D → Env → Store → Prop) (step : ∀ d ds ρ S, I (d :: ds) ρ S → ∃ ρ1 S1 ρ2 S2, gm d ρ S = some (ρ1, S1) ∧ fb ρ1 S1 = .go .nx ρ2 S2 ∧ I ds ρ2 S2) : ∀ (ds : List D) (ρ : Env) (S : Store), I ds ρ S → ∃ ρ' S', mForL gm fb ds ρ S = .go .nx ρ' S' ∧ I [] ρ' S'
  | [], ρ, S, h => ⟨ρ, S, rfl, h⟩
  | d :: ds, ρ, S, h => by
    obtain ⟨ρ1, S1, ρ2, S2, e1, e2, h2⟩ := step d ds ρ S h
    obtain ⟨ρ', S', e3, h3⟩ := for_inv I step ds ρ2 S2 h2
    refine ⟨ρ', S', ?_, h3⟩
    simp only [mForL, e1, e2]
    exact e3
theorem law_holds : LawD m_law := by
  intro ns hl _
  obtain ⟨S, e, u, hS⟩ := s_urn ns hl
  obtain ⟨ρ', S2, e2, y2, y3, y4, y5, y6, y7, k2, rfl, u2, l2, hk2⟩ := for_inv (gm := gN 2) (fb := b_law_1)
    (fun ds ρ S => ∃ (y2 y3 y4 y5 y6 y7 : Option D) (k' : Nat), ρ = [some (.lst (ns.map .int)), some (.ref 1), y2, y3, y4, y5, y6, y7] ∧ Urn 1 k' S ∧ 1 < S.length ∧ k' + 10000 * ds.length ≤ 60000)
    (fun d ds ρ S ⟨y2, y3, y4, y5, y6, y7, k', hρ, hu, hS, hk'⟩ => by
      subst hρ
      simp only [List.length_cons] at hk'
      obtain ⟨z3, z4, z5, z6, z7, S', e, u', hS'⟩ := law_turn hu (by omega) hS (some (.lst (ns.map .int))) (some d) y3 y4 y5 y6 y7
      exact ⟨_, _, _, S', rfl, e, _, z3, z4, z5, z6, z7, _, rfl, u', hS', by omega⟩)
    (rangeL 0 6) _ S ⟨none, none, none, none, none, none, _, rfl, u, by omega, by simp [rangeL]⟩
  refine ⟨S2, ?_⟩
  unfold m_law
  simp [e, e2]
end DL

namespace DL
open PySem PySem.Spec PyProof.Rows L2
def top (i : Nat) : Stmt := PySem.Challenge.pw_slopeland_k40_plans_parsed.main.body.getD i (.Pass ⟨0, 0, 0, 0⟩)
structure Top (K : PySem.W.Frag) (mg : Str → Option Value) : Prop where
  b_abs : mg "abs" = none
  b_all : mg "all" = none
  b_any : mg "any" = none
  b_enumerate : mg "enumerate" = none
  b_int : mg "int" = none
  b_len : mg "len" = none
  b_list : mg "list" = none
  b_max : mg "max" = none
  b_range : mg "range" = none
  b_repr : mg "repr" = none
  b_str : mg "str" = none
  b_tuple : mg "tuple" = none
  x_ZeroDivisor : ExcF K mg "ZeroDivisor"
  g_DIGITS : GlobD ⟨K, mg⟩ "DIGITS" k_DIGITS
  g_END : GlobD ⟨K, mg⟩ "END" k_END
  g_KEYWORDS : GlobD ⟨K, mg⟩ "KEYWORDS" k_KEYWORDS
  g_MAX_DIGITS : GlobD ⟨K, mg⟩ "MAX_DIGITS" k_MAX_DIGITS
  g_MAX_ITEMS : GlobD ⟨K, mg⟩ "MAX_ITEMS" k_MAX_ITEMS
  g_MAX_LINES : GlobD ⟨K, mg⟩ "MAX_LINES" k_MAX_LINES
  g_MAX_NAME : GlobD ⟨K, mg⟩ "MAX_NAME" k_MAX_NAME
  g_MAX_RULES : GlobD ⟨K, mg⟩ "MAX_RULES" k_MAX_RULES
  g_MAX_TOKENS : GlobD ⟨K, mg⟩ "MAX_TOKENS" k_MAX_TOKENS
  g_SMALL : GlobD ⟨K, mg⟩ "SMALL" k_SMALL
  g_SYMBOLS : GlobD ⟨K, mg⟩ "SYMBOLS" k_SYMBOLS
  g_ZERO : GlobD ⟨K, mg⟩ "ZERO" k_ZERO
  a_column : FldD K mg "column" cs_column
  a_index : FldD K mg "index" cs_index
  a_kind : FldD K mg "kind" cs_kind
  a_names : FldD K mg "names" cs_names
  a_row : FldD K mg "row" cs_row
  a_spelling : FldD K mg "spelling" cs_spelling
  a_tokens : FldD K mg "tokens" cs_tokens
  triv : True
section
variable {P : Program} {w : World} {K : PySem.W.Frag} {mg : Str → Option Value} {base : Heap}
abbrev zi_SyntaxProblem : Stmt := (bodyD (top 3)).getD 0 (.Pass ⟨0, 0, 0, 0⟩)
theorem ok_n_SyntaxProblem {C fI : Addr} {fd : FuncData} (hC : mg "SyntaxProblem" = some (.ref C)) (T : OexC K C) (iC : PySem.W.findIn K (.ref C) "__init__" = some (some (.ref fI))) (tI : PySem.W.typeIn K (.ref fI) = some (.type "function")) (F : Fun K "__init__" "SyntaxProblem.__init__" zi_SyntaxProblem fI fd) (hno : ∀ f ∈ (["line", "column"] : List Str), PySem.W.findIn K (.ref C) f = some none) (B : BaseI K mg "SlopeError") : ExcIF P w K mg base "SyntaxProblem" ["line", "column"] := by
  obtain ⟨CS, b1, b2, b3, b4⟩ := B.ex
  refine ⟨C, fI, fd, ["self", "line", "column"], hC, T, iC, tI, F.ok (N := ["self", "line", "column"]) ⟨rfl, rfl, rfl, by decide +kernel, rfl, by decide +kernel, by decide +kernel⟩ (fun vs H Q E ⟨a, C, is, e, hl, _⟩ => by rw [e]; simp [hl]) fun cdv A outer s H vs Q E hr ⟨a, C, is, e, hl, hb, T, hno, ha, k⟩ => ?_, F.binds (fun _ _ _ _ _ _ us hl => match us, hl with | [_, _, _], _ => rfl), hno⟩
  refine ⟨_, pss_cons (ps_expr (pe_clsinit rfl b1 b2 b3 b4 (pa_cons (pv 0) (pa_cons (pe_joined (.cons pe_str (.cons (pe_fmt (pv 1)) (.cons pe_str (.cons (pe_fmt (pv 2)) .nil))))) pa_nil)))) (pss_cons (ps_ost (pv 0) (pv 1)) (pss_one (ps_ost (pv 0) (pv 2)))), ?_⟩
  exact read_2 (by decide +kernel) (by decide +kernel) e hl hb T hno ha k
abbrev zs_L_twin : Stmt := top 34
abbrev n_L_twin : List Str := ["_law_found", "_law_due"]
theorem sc_L_twin : FnScope n_L_twin ["_law_found", "_law_due"] (defScope zs_L_twin) := ⟨rfl, rfl, rfl, by decide +kernel, rfl, by decide +kernel, by decide +kernel⟩
theorem ok_L_twin {f : Addr} {fd : FuncData} (F : Fun K "_law_twin" "_law_twin" zs_L_twin f fd) (hm : mg "_law_twin" = some (.ref f)) (T : Top K mg) (ND : base.NoDigits) : Cal P w K mg base 2 "_law_twin" 2 m_L_twin := by
  have sc := sc_L_twin
  refine cal_mk hm F (fun _ _ _ _ _ _ us hl => match us, hl with | [_, _], _ => rfl) (fn_ofD (k := 1) F sc fun cdv A outer s H E W hr hg tk => ?_)
  have hu : (A.deeper (envOfC "_law_twin" (defScope zs_L_twin) s.heap.objs.size f cdv)).units + 65 < cLine := by have := hr.un; omega
  exact (ds_one (ds_ret (d_cmp (od_eq (Nat.lt_of_succ_lt hu)) (d_callB (cd_repr ND hg (Nat.lt_of_succ_lt hu)) T.b_repr (da_cons (d_var 0) da_nil)) (d_callB (cd_repr ND hg (Nat.lt_of_succ_lt hu)) T.b_repr (da_cons (d_var 1) da_nil)))))
abbrev zs_LineParser_peek : Stmt := (bodyD (top 26)).getD 1 (.Pass ⟨0, 0, 0, 0⟩)
abbrev n_LineParser_peek : List Str := ["self"]
theorem sc_LineParser_peek : FnScope n_LineParser_peek ["self"] (defScope zs_LineParser_peek) := ⟨rfl, rfl, rfl, by decide +kernel, rfl, by decide +kernel, by decide +kernel⟩
theorem ok_LineParser_peek {C f : Addr} {fd : FuncData} (hC : mg "LineParser" = some (.ref C)) (cl : Cls K C) (mt : Meth K C "peek" f) (F : Fun K "peek" "LineParser.peek" zs_LineParser_peek f fd) (T : Top K mg) (ND : base.NoDigits) : MethD P w K mg base 2 "LineParser" "peek" 0 m_LineParser_peek := by
  have sc := sc_LineParser_peek
  refine meth_mk hC cl mt F (fun _ _ _ _ _ _ us hl => match us, hl with | [_], _ => rfl) (fn_ofD (k := 1) F sc fun cdv A outer s H E W hr hg tk => ?_)
  have hu : (A.deeper (envOfC "LineParser.peek" (defScope zs_LineParser_peek) s.heap.objs.size f cdv)).units + 65 < cLine := by have := hr.un; omega
  exact (ds_one (ds_ret (d_ix (d_fld T.a_tokens (d_var 0)) (d_fld T.a_index (d_var 0)))))
abbrev zs_LineParser_accept : Stmt := (bodyD (top 26)).getD 4 (.Pass ⟨0, 0, 0, 0⟩)
abbrev n_LineParser_accept : List Str := ["self", "kind", "spelling", "token"]
theorem sc_LineParser_accept : FnScope n_LineParser_accept ["self", "kind", "spelling"] (defScope zs_LineParser_accept) := ⟨rfl, rfl, rfl, by decide +kernel, rfl, by decide +kernel, by decide +kernel⟩
theorem ok_LineParser_accept {C f : Addr} {fd : FuncData} (hC : mg "LineParser" = some (.ref C)) (cl : Cls K C) (mt : Meth K C "accept" f) (F : Fun K "accept" "LineParser.accept" zs_LineParser_accept f fd) (T : Top K mg) (ND : base.NoDigits) (q_LineParser_peek : MethD P w K mg base 2 "LineParser" "peek" 0 m_LineParser_peek) : MethD P w K mg base 3 "LineParser" "accept" 2 m_LineParser_accept := by
  have sc := sc_LineParser_accept
  refine meth_mk hC cl mt F (fun _ _ _ _ _ _ us hl => match us, hl with | [_, _, _], _ => rfl) (fn_ofD (k := 2) F sc fun cdv A outer s H E W hr hg tk => ?_)
  have hu : (A.deeper (envOfC "LineParser.accept" (defScope zs_LineParser_accept) s.heap.objs.size f cdv)).units + 65 < cLine := by have := hr.un; omega
  exact (ds_cons (ds_set 3 sc.nd (d_meth0 q_LineParser_peek (hr.mono (by decide)) hg tk (d_var 0)))
  (ds_cons (ds_if (db_bool (dw_or (db_cmp (od_ne (Nat.lt_of_succ_lt hu)) (d_fld T.a_kind (d_var 3)) (d_var 1)) (dw_or1 (db_cmp (od_ne (Nat.lt_of_succ_lt hu)) (d_fld T.a_spelling (d_var 3)) (d_var 2))))) (ds_one (ds_ret d_bl)) ds_nil)
  (ds_cons (ds_augfld T.a_index (d_var 0) d_int id_add)
  (ds_one (ds_ret d_bl)))))
abbrev zs_LineParser_fail : Stmt := (bodyD (top 26)).getD 2 (.Pass ⟨0, 0, 0, 0⟩)
abbrev n_LineParser_fail : List Str := ["self", "token"]
theorem sc_LineParser_fail : FnScope n_LineParser_fail ["self", "token"] (defScope zs_LineParser_fail) := ⟨rfl, rfl, rfl, by decide +kernel, rfl, by decide +kernel, by decide +kernel⟩
theorem ok_LineParser_fail {C f : Addr} {fd : FuncData} (hC : mg "LineParser" = some (.ref C)) (cl : Cls K C) (mt : Meth K C "fail" f) (F : Fun K "fail" "LineParser.fail" zs_LineParser_fail f fd) (T : Top K mg) (ND : base.NoDigits) (n_SyntaxProblem : ExcIF P w K mg base "SyntaxProblem" ["line", "column"]) : MethD P w K mg base 4 "LineParser" "fail" 1 m_LineParser_fail := by
  have sc := sc_LineParser_fail
  refine meth_mk hC cl mt F (fun _ _ _ _ _ _ us hl => match us, hl with | [_, _], _ => rfl) (fn_ofD (k := 3) F sc fun cdv A outer s H E W hr hg tk => ?_)
  have hu : (A.deeper (envOfC "LineParser.fail" (defScope zs_LineParser_fail) s.heap.objs.size f cdv)).units + 65 < cLine := by have := hr.un; omega
  exact (ds_one (ds_raiseI rfl tk n_SyntaxProblem (hr.mono (by decide)) (da_cons (d_fld T.a_row (d_var 0)) (da_cons (d_fld T.a_column (d_var 1)) da_nil))))
abbrev zs_LineParser_take : Stmt := (bodyD (top 26)).getD 3 (.Pass ⟨0, 0, 0, 0⟩)
abbrev n_LineParser_take : List Str := ["self", "kind", "token"]
theorem sc_LineParser_take : FnScope n_LineParser_take ["self", "kind"] (defScope zs_LineParser_take) := ⟨rfl, rfl, rfl, by decide +kernel, rfl, by decide +kernel, by decide +kernel⟩
theorem ok_LineParser_take {C f : Addr} {fd : FuncData} (hC : mg "LineParser" = some (.ref C)) (cl : Cls K C) (mt : Meth K C "take" f) (F : Fun K "take" "LineParser.take" zs_LineParser_take f fd) (T : Top K mg) (ND : base.NoDigits) (q_LineParser_fail : MethD P w K mg base 4 "LineParser" "fail" 1 m_LineParser_fail) (q_LineParser_peek : MethD P w K mg base 2 "LineParser" "peek" 0 m_LineParser_peek) : MethD P w K mg base 5 "LineParser" "take" 1 m_LineParser_take := by
  have sc := sc_LineParser_take
  refine meth_mk hC cl mt F (fun _ _ _ _ _ _ us hl => match us, hl with | [_, _], _ => rfl) (fn_ofD (k := 4) F sc fun cdv A outer s H E W hr hg tk => ?_)
  have hu : (A.deeper (envOfC "LineParser.take" (defScope zs_LineParser_take) s.heap.objs.size f cdv)).units + 65 < cLine := by have := hr.un; omega
  exact (ds_cons (ds_set 2 sc.nd (d_meth0 q_LineParser_peek (hr.mono (by decide)) hg tk (d_var 0)))
  (ds_cons (ds_if (db_cmp (od_ne (Nat.lt_of_succ_lt hu)) (d_fld T.a_kind (d_var 2)) (d_var 1)) (ds_one (ds_expr (d_meth q_LineParser_fail (hr.mono (by decide)) hg tk (d_var 0) (da_cons (d_var 2) da_nil)))) ds_nil)
  (ds_cons (ds_augfld T.a_index (d_var 0) d_int id_add)
  (ds_one (ds_ret (d_var 2))))))
abbrev zs_greatest_divisor : Stmt := top 6
abbrev n_greatest_divisor : List Str := ["first", "second"]
theorem sc_greatest_divisor : FnScope n_greatest_divisor ["first", "second"] (defScope zs_greatest_divisor) := ⟨rfl, rfl, rfl, by decide +kernel, rfl, by decide +kernel, by decide +kernel⟩
theorem ok_greatest_divisor {f : Addr} {fd : FuncData} (F : Fun K "greatest_divisor" "greatest_divisor" zs_greatest_divisor f fd) (hm : mg "greatest_divisor" = some (.ref f)) (T : Top K mg) (ND : base.NoDigits) : Cal P w K mg base 2 "greatest_divisor" 2 m_greatest_divisor := by
  have sc := sc_greatest_divisor
  refine cal_mk hm F (fun _ _ _ _ _ _ us hl => match us, hl with | [_, _], _ => rfl) (fn_ofD (k := 1) F sc fun cdv A outer s H E W hr hg tk => ?_)
  have hu : (A.deeper (envOfC "greatest_divisor" (defScope zs_greatest_divisor) s.heap.objs.size f cdv)).units + 65 < cLine := by have := hr.un; omega
  exact (ds_cons (ds_while (passes_of rfl) (db_cmp (od_ne (Nat.lt_of_succ_lt hu)) (d_var 1) d_int) (ds_one (ds_par 0 1 rfl sc.nd (d_var 1) (d_op od_mod (d_var 0) (d_var 1)))))
  (ds_one (ds_ret (d_callB (cd_abs) T.b_abs (da_cons (d_var 0) da_nil)))))
abbrev zs_fraction : Stmt := top 7
abbrev n_fraction : List Str := ["top", "bottom", "divisor"]
theorem sc_fraction : FnScope n_fraction ["top", "bottom"] (defScope zs_fraction) := ⟨rfl, rfl, rfl, by decide +kernel, rfl, by decide +kernel, by decide +kernel⟩
theorem ok_fraction {f : Addr} {fd : FuncData} (F : Fun K "fraction" "fraction" zs_fraction f fd) (hm : mg "fraction" = some (.ref f)) (T : Top K mg) (ND : base.NoDigits) (c_greatest_divisor : Cal P w K mg base 2 "greatest_divisor" 2 m_greatest_divisor) : Cal P w K mg base 3 "fraction" 2 m_fraction := by
  have sc := sc_fraction
  refine cal_mk hm F (fun _ _ _ _ _ _ us hl => match us, hl with | [_, _], _ => rfl) (fn_ofD (k := 2) F sc fun cdv A outer s H E W hr hg tk => ?_)
  have hu : (A.deeper (envOfC "fraction" (defScope zs_fraction) s.heap.objs.size f cdv)).units + 65 < cLine := by have := hr.un; omega
  exact (ds_cons (ds_if (db_cmp (od_eq (Nat.lt_of_succ_lt hu)) (d_var 1) d_int) (ds_one (ds_raise rfl tk T.x_ZeroDivisor)) ds_nil)
  (ds_cons (ds_set 2 sc.nd (d_call c_greatest_divisor (hr.mono (by decide)) hg tk (da_cons (d_var 0) (da_cons (d_var 1) da_nil))))
  (ds_cons (ds_set 2 sc.nd (d_if (db_cmp (od_lt) (d_var 1) d_int) (d_un ud_neg (d_var 2)) (d_var 2)))
  (ds_one (ds_ret (d_tup (da_cons (d_op od_fdiv (d_var 0) (d_var 2)) (da_cons (d_op od_fdiv (d_var 1) (d_var 2)) da_nil))))))))
abbrev zs_minus : Stmt := top 8
abbrev n_minus : List Str := ["one", "other"]
theorem sc_minus : FnScope n_minus ["one", "other"] (defScope zs_minus) := ⟨rfl, rfl, rfl, by decide +kernel, rfl, by decide +kernel, by decide +kernel⟩
theorem ok_minus {f : Addr} {fd : FuncData} (F : Fun K "minus" "minus" zs_minus f fd) (hm : mg "minus" = some (.ref f)) (T : Top K mg) (ND : base.NoDigits) (c_fraction : Cal P w K mg base 3 "fraction" 2 m_fraction) : Cal P w K mg base 4 "minus" 2 m_minus := by
  have sc := sc_minus
  refine cal_mk hm F (fun _ _ _ _ _ _ us hl => match us, hl with | [_, _], _ => rfl) (fn_ofD (k := 3) F sc fun cdv A outer s H E W hr hg tk => ?_)
  have hu : (A.deeper (envOfC "minus" (defScope zs_minus) s.heap.objs.size f cdv)).units + 65 < cLine := by have := hr.un; omega
  exact (ds_one (ds_ret (d_call c_fraction (hr.mono (by decide)) hg tk (da_cons (d_op od_sub (d_op od_mul (d_ix (d_var 0) d_int) (d_ix (d_var 1) d_int)) (d_op od_mul (d_ix (d_var 1) d_int) (d_ix (d_var 0) d_int))) (da_cons (d_op od_mul (d_ix (d_var 0) d_int) (d_ix (d_var 1) d_int)) da_nil)))))
abbrev zs_times : Stmt := top 9
abbrev n_times : List Str := ["one", "other"]
theorem sc_times : FnScope n_times ["one", "other"] (defScope zs_times) := ⟨rfl, rfl, rfl, by decide +kernel, rfl, by decide +kernel, by decide +kernel⟩
theorem ok_times {f : Addr} {fd : FuncData} (F : Fun K "times" "times" zs_times f fd) (hm : mg "times" = some (.ref f)) (T : Top K mg) (ND : base.NoDigits) (c_fraction : Cal P w K mg base 3 "fraction" 2 m_fraction) : Cal P w K mg base 4 "times" 2 m_times := by
  have sc := sc_times
  refine cal_mk hm F (fun _ _ _ _ _ _ us hl => match us, hl with | [_, _], _ => rfl) (fn_ofD (k := 3) F sc fun cdv A outer s H E W hr hg tk => ?_)
  have hu : (A.deeper (envOfC "times" (defScope zs_times) s.heap.objs.size f cdv)).units + 65 < cLine := by have := hr.un; omega
  exact (ds_one (ds_ret (d_call c_fraction (hr.mono (by decide)) hg tk (da_cons (d_op od_mul (d_ix (d_var 0) d_int) (d_ix (d_var 1) d_int)) (da_cons (d_op od_mul (d_ix (d_var 0) d_int) (d_ix (d_var 1) d_int)) da_nil)))))
abbrev zs_is_same_line : Stmt := top 27
abbrev n_is_same_line : List Str := ["first", "second", "pairs", "i", "j"]
theorem sc_is_same_line : FnScope n_is_same_line ["first", "second"] (defScope zs_is_same_line) := ⟨rfl, rfl, rfl, by decide +kernel, rfl, by decide +kernel, by decide +kernel⟩
theorem ok_is_same_line {f : Addr} {fd : FuncData} (F : Fun K "is_same_line" "is_same_line" zs_is_same_line f fd) (hm : mg "is_same_line" = some (.ref f)) (T : Top K mg) (ND : base.NoDigits) (c_minus : Cal P w K mg base 4 "minus" 2 m_minus) (c_times : Cal P w K mg base 4 "times" 2 m_times) : Cal P w K mg base 5 "is_same_line" 2 m_is_same_line := by
  have sc := sc_is_same_line
  have g_ZERO := T.g_ZERO
  refine cal_mk hm F (fun _ _ _ _ _ _ us hl => match us, hl with | [_, _], _ => rfl) (fn_ofD (k := 4) F sc fun cdv A outer s H E W hr hg tk => ?_)
  have hu : (A.deeper (envOfC "is_same_line" (defScope zs_is_same_line) s.heap.objs.size f cdv)).units + 65 < cLine := by have := hr.un; omega
  exact (ds_cons (ds_set 2 sc.nd (d_lst (da_cons (d_tup (da_cons d_int (da_cons d_int da_nil))) (da_cons (d_tup (da_cons d_int (da_cons d_int da_nil))) (da_cons (d_tup (da_cons d_int (da_cons d_int da_nil))) da_nil)))))
  (ds_one (ds_ret (d_callB (cd_all rfl) T.b_all (da_cons (d_lc (own := [("i", 3), ("j", 4)]) finL_fz rfl sc.nd (di_seq (d_var 2)) (blkOk_by (N := n_is_same_line) (sc := defScope zs_is_same_line) (by decide +kernel)) (fun _ _ _ _ _ => (dgw_tup rfl (dgsw_cons (dgw_name 3 (by decide) sc.nd) (dgsw_cons (dgw_name 4 (by decide) sc.nd) dgsw_nil)))) (fun _ _ _ _ _ => dt_nil) (fun _ _ _ _ _ => (d_cmp (od_eq (Nat.lt_of_succ_lt hu)) (d_call c_minus (hr.mono (by decide)) hg takes0 (da_cons (d_call c_times (hr.mono (by decide)) hg takes0 (da_cons (d_ix (d_var 0) (d_var 3)) (da_cons (d_ix (d_var 1) (d_var 4)) da_nil))) (da_cons (d_call c_times (hr.mono (by decide)) hg takes0 (da_cons (d_ix (d_var 0) (d_var 4)) (da_cons (d_ix (d_var 1) (d_var 3)) da_nil))) da_nil))) (d_glob g_ZERO)))) da_nil)))))
abbrev zs_LineParser_signed_fraction : Stmt := (bodyD (top 26)).getD 5 (.Pass ⟨0, 0, 0, 0⟩)
abbrev n_LineParser_signed_fraction : List Str := ["self", "is_negative", "top", "bottom", "token"]
theorem sc_LineParser_signed_fraction : FnScope n_LineParser_signed_fraction ["self"] (defScope zs_LineParser_signed_fraction) := ⟨rfl, rfl, rfl, by decide +kernel, rfl, by decide +kernel, by decide +kernel⟩
theorem ok_LineParser_signed_fraction {C f : Addr} {fd : FuncData} (hC : mg "LineParser" = some (.ref C)) (cl : Cls K C) (mt : Meth K C "signed_fraction" f) (F : Fun K "signed_fraction" "LineParser.signed_fraction" zs_LineParser_signed_fraction f fd) (T : Top K mg) (ND : base.NoDigits) (c_fraction : Cal P w K mg base 3 "fraction" 2 m_fraction) (q_LineParser_accept : MethD P w K mg base 3 "LineParser" "accept" 2 m_LineParser_accept) (q_LineParser_fail : MethD P w K mg base 4 "LineParser" "fail" 1 m_LineParser_fail) (q_LineParser_take : MethD P w K mg base 5 "LineParser" "take" 1 m_LineParser_take) : MethD P w K mg base 6 "LineParser" "signed_fraction" 0 m_LineParser_signed_fraction := by
  have sc := sc_LineParser_signed_fraction
  refine meth_mk hC cl mt F (fun _ _ _ _ _ _ us hl => match us, hl with | [_], _ => rfl) (fn_ofD (k := 5) F sc fun cdv A outer s H E W hr hg tk => ?_)
  have hu : (A.deeper (envOfC "LineParser.signed_fraction" (defScope zs_LineParser_signed_fraction) s.heap.objs.size f cdv)).units + 65 < cLine := by have := hr.un; omega
  exact (ds_cons (ds_set 1 sc.nd (d_meth q_LineParser_accept (hr.mono (by decide)) hg tk (d_var 0) (da_cons d_str (da_cons d_str da_nil))))
  (ds_cons (ds_par 2 3 rfl sc.nd (d_callT (cd_int) T.b_int (da_cons (d_fld T.a_spelling (d_meth q_LineParser_take (hr.mono (by decide)) hg tk (d_var 0) (da_cons d_str da_nil))) da_nil)) d_int)
  (ds_cons (ds_if (db_val (d_meth q_LineParser_accept (hr.mono (by decide)) hg tk (d_var 0) (da_cons d_str (da_cons d_str da_nil)))) (ds_cons (ds_set 4 sc.nd (d_meth q_LineParser_take (hr.mono (by decide)) hg tk (d_var 0) (da_cons d_str da_nil)))
  (ds_cons (ds_set 3 sc.nd (d_callT (cd_int) T.b_int (da_cons (d_fld T.a_spelling (d_var 4)) da_nil)))
  (ds_one (ds_if (db_cmp (od_eq (Nat.lt_of_succ_lt hu)) (d_var 3) d_int) (ds_one (ds_expr (d_meth q_LineParser_fail (hr.mono (by decide)) hg tk (d_var 0) (da_cons (d_var 4) da_nil)))) ds_nil)))) ds_nil)
  (ds_one (ds_ret (d_call c_fraction (hr.mono (by decide)) hg tk (da_cons (d_if (db_val (d_var 1)) (d_un ud_neg (d_var 2)) (d_var 2)) (da_cons (d_var 3) da_nil))))))))
abbrev zs_LineParser_straight_line : Stmt := (bodyD (top 26)).getD 6 (.Pass ⟨0, 0, 0, 0⟩)
abbrev n_LineParser_straight_line : List Str := ["self", "lines", "token", "a", "first", "b", "c", "other"]
theorem sc_LineParser_straight_line : FnScope n_LineParser_straight_line ["self", "lines"] (defScope zs_LineParser_straight_line) := ⟨rfl, rfl, rfl, by decide +kernel, rfl, by decide +kernel, by decide +kernel⟩
theorem ok_LineParser_straight_line {C f : Addr} {fd : FuncData} (hC : mg "LineParser" = some (.ref C)) (cl : Cls K C) (mt : Meth K C "straight_line" f) (F : Fun K "straight_line" "LineParser.straight_line" zs_LineParser_straight_line f fd) (T : Top K mg) (ND : base.NoDigits) (q_LineParser_take : MethD P w K mg base 5 "LineParser" "take" 1 m_LineParser_take) (c_is_same_line : Cal P w K mg base 5 "is_same_line" 2 m_is_same_line) (q_LineParser_fail : MethD P w K mg base 4 "LineParser" "fail" 1 m_LineParser_fail) (q_LineParser_signed_fraction : MethD P w K mg base 6 "LineParser" "signed_fraction" 0 m_LineParser_signed_fraction) (q_LineParser_peek : MethD P w K mg base 2 "LineParser" "peek" 0 m_LineParser_peek) : MethD P w K mg base 7 "LineParser" "straight_line" 1 m_LineParser_straight_line := by
  have sc := sc_LineParser_straight_line
  have g_END := T.g_END
  have g_MAX_LINES := T.g_MAX_LINES
  have g_ZERO := T.g_ZERO
  refine meth_mk hC cl mt F (fun _ _ _ _ _ _ us hl => match us, hl with | [_, _], _ => rfl) (fn_ofD (k := 6) F sc fun cdv A outer s H E W hr hg tk => ?_)
  have hu : (A.deeper (envOfC "LineParser.straight_line" (defScope zs_LineParser_straight_line) s.heap.objs.size f cdv)).units + 65 < cLine := by have := hr.un; omega
  exact (ds_cons (ds_set 2 sc.nd (d_meth q_LineParser_take (hr.mono (by decide)) hg tk (d_var 0) (da_cons d_str da_nil)))
  (ds_cons (ds_if (db_bool (dw_or (db_cmp (od_in hu) (d_fld T.a_spelling (d_var 2)) (d_fld T.a_names (d_var 0))) (dw_or1 (db_cmp (od_eq (Nat.lt_of_succ_lt hu)) (d_callB (cd_len) T.b_len (da_cons (d_var 1) da_nil)) (d_glob g_MAX_LINES))))) (ds_one (ds_expr (d_meth q_LineParser_fail (hr.mono (by decide)) hg tk (d_var 0) (da_cons (d_var 2) da_nil)))) ds_nil)
  (ds_cons (ds_set 3 sc.nd (d_meth0 q_LineParser_signed_fraction (hr.mono (by decide)) hg tk (d_var 0)))
  (ds_cons (ds_set 4 sc.nd (d_meth0 q_LineParser_peek (hr.mono (by decide)) hg tk (d_var 0)))
  (ds_cons (ds_set 5 sc.nd (d_meth0 q_LineParser_signed_fraction (hr.mono (by decide)) hg tk (d_var 0)))
  (ds_cons (ds_if (db_chain (od_eq (Nat.lt_of_succ_lt hu)) (od_eq (Nat.lt_of_succ_lt hu)) (d_var 3) (d_var 5) (d_glob g_ZERO)) (ds_one (ds_expr (d_meth q_LineParser_fail (hr.mono (by decide)) hg tk (d_var 0) (da_cons (d_var 4) da_nil)))) ds_nil)
  (ds_cons (ds_set 4 sc.nd (d_meth0 q_LineParser_peek (hr.mono (by decide)) hg tk (d_var 0)))
  (ds_cons (ds_set 6 sc.nd (d_meth0 q_LineParser_signed_fraction (hr.mono (by decide)) hg tk (d_var 0)))
  (ds_cons (ds_if (db_val (d_callB (cd_any rfl) T.b_any (da_cons (d_lcS (own := [("other", 7)]) finL_fz rfl sc.nd (d_var 1) (blkOk_by (N := n_LineParser_straight_line) (sc := defScope zs_LineParser_straight_line) (by decide +kernel)) (fun _ _ _ _ _ => (dgw_name 7 (by decide) sc.nd)) (fun _ _ _ _ _ => dt_nil) (fun _ _ _ _ _ => (d_call c_is_same_line (hr.mono (by decide)) hg takes0 (da_cons (d_tup (da_cons (d_var 3) (da_cons (d_var 5) (da_cons (d_var 6) da_nil)))) (da_cons (d_sl (d_var 7) (do_some d_int) do_none) da_nil))))) da_nil))) (ds_one (ds_expr (d_meth q_LineParser_fail (hr.mono (by decide)) hg tk (d_var 0) (da_cons (d_var 4) da_nil)))) ds_nil)
  (ds_cons (ds_expr (d_meth q_LineParser_take (hr.mono (by decide)) hg tk (d_var 0) (da_cons (d_glob g_END) da_nil)))
  (ds_one (ds_ret (d_tup (da_cons (d_fld T.a_spelling (d_var 2)) (da_cons (d_var 3) (da_cons (d_var 5) (da_cons (d_var 6) da_nil)))))))))))))))))
abbrev zs_LineParser_conditions : Stmt := (bodyD (top 26)).getD 7 (.Pass ⟨0, 0, 0, 0⟩)
abbrev n_LineParser_conditions : List Str := ["self", "signs", "found", "token", "sign", "name", "side"]
theorem sc_LineParser_conditions : FnScope n_LineParser_conditions ["self", "signs"] (defScope zs_LineParser_conditions) := ⟨rfl, rfl, rfl, by decide +kernel, rfl, by decide +kernel, by decide +kernel⟩
theorem ok_LineParser_conditions {C f : Addr} {fd : FuncData} (hC : mg "LineParser" = some (.ref C)) (cl : Cls K C) (mt : Meth K C "conditions" f) (F : Fun K "conditions" "LineParser.conditions" zs_LineParser_conditions f fd) (T : Top K mg) (ND : base.NoDigits) (q_LineParser_accept : MethD P w K mg base 3 "LineParser" "accept" 2 m_LineParser_accept) (q_LineParser_take : MethD P w K mg base 5 "LineParser" "take" 1 m_LineParser_take) (q_LineParser_fail : MethD P w K mg base 4 "LineParser" "fail" 1 m_LineParser_fail) : MethD P w K mg base 6 "LineParser" "conditions" 1 m_LineParser_conditions := by
  have sc := sc_LineParser_conditions
  have g_END := T.g_END
  refine meth_mk hC cl mt F (fun _ _ _ _ _ _ us hl => match us, hl with | [_, _], _ => rfl) (fn_ofD (k := 5) F sc fun cdv A outer s H E W hr hg tk => ?_)
  have hu : (A.deeper (envOfC "LineParser.conditions" (defScope zs_LineParser_conditions) s.heap.objs.size f cdv)).units + 65 < cLine := by have := hr.un; omega
  exact (ds_cons (ds_set 2 sc.nd (d_new da_nil))
  (ds_one (ds_while (passes_of rfl) (db_val d_bl) (ds_cons (ds_set 3 sc.nd (d_meth q_LineParser_take (hr.mono (by decide)) hg tk (d_var 0) (da_cons d_str da_nil)))
  (ds_cons (ds_if (db_bool (dw_or (db_cmp (od_ni hu) (d_fld T.a_spelling (d_var 3)) (d_fld T.a_names (d_var 0))) (dw_or1 (db_cmp (od_in hu) (d_fld T.a_spelling (d_var 3)) (d_lcS (own := [("name", 5), ("side", 6)]) finL_fz rfl sc.nd (d_var 2) (blkOk_by (N := n_LineParser_conditions) (sc := defScope zs_LineParser_conditions) (by decide +kernel)) (fun _ _ _ _ _ => (dgw_tup rfl (dgsw_cons (dgw_name 5 (by decide) sc.nd) (dgsw_cons (dgw_name 6 (by decide) sc.nd) dgsw_nil)))) (fun _ _ _ _ _ => dt_nil) (fun _ _ _ _ _ => (d_var 5))))))) (ds_one (ds_expr (d_meth q_LineParser_fail (hr.mono (by decide)) hg tk (d_var 0) (da_cons (d_var 3) da_nil)))) ds_nil)
  (ds_cons (ds_set 4 sc.nd (d_meth q_LineParser_take (hr.mono (by decide)) hg tk (d_var 0) (da_cons d_str da_nil)))
  (ds_cons (ds_if (db_nhasK hu (d_fld T.a_spelling (d_var 4)) (d_var 1)) (ds_one (ds_expr (d_meth q_LineParser_fail (hr.mono (by decide)) hg tk (d_var 0) (da_cons (d_var 4) da_nil)))) ds_nil)
  (ds_cons (ds_expr (d_met md_append PySem.F.plainAttrs_list PySem.F.slot_list_append PySem.F.type_list_append (d_var 2) (da_cons (d_tup (da_cons (d_fld T.a_spelling (d_var 3)) (da_cons (d_dget hu (d_var 1) (d_fld T.a_spelling (d_var 4))) da_nil))) da_nil)))
  (ds_one (ds_if (db_not (db_val (d_meth q_LineParser_accept (hr.mono (by decide)) hg tk (d_var 0) (da_cons d_str (da_cons d_str da_nil))))) (ds_cons (ds_expr (d_meth q_LineParser_take (hr.mono (by decide)) hg tk (d_var 0) (da_cons (d_glob g_END) da_nil)))
  (ds_one (ds_ret (d_callT (cd_tuple) T.b_tuple (da_cons (d_var 2) da_nil))))) ds_nil))))))))))
abbrev zs_LineParser_rule : Stmt := (bodyD (top 26)).getD 8 (.Pass ⟨0, 0, 0, 0⟩)
abbrev n_LineParser_rule : List Str := ["self", "drift"]
theorem sc_LineParser_rule : FnScope n_LineParser_rule ["self"] (defScope zs_LineParser_rule) := ⟨rfl, rfl, rfl, by decide +kernel, rfl, by decide +kernel, by decide +kernel⟩
theorem ok_LineParser_rule {C f : Addr} {fd : FuncData} (hC : mg "LineParser" = some (.ref C)) (cl : Cls K C) (mt : Meth K C "rule" f) (F : Fun K "rule" "LineParser.rule" zs_LineParser_rule f fd) (T : Top K mg) (ND : base.NoDigits) (q_LineParser_conditions : MethD P w K mg base 6 "LineParser" "conditions" 1 m_LineParser_conditions) (q_LineParser_accept : MethD P w K mg base 3 "LineParser" "accept" 2 m_LineParser_accept) (q_LineParser_take : MethD P w K mg base 5 "LineParser" "take" 1 m_LineParser_take) (q_LineParser_signed_fraction : MethD P w K mg base 6 "LineParser" "signed_fraction" 0 m_LineParser_signed_fraction) : MethD P w K mg base 7 "LineParser" "rule" 0 m_LineParser_rule := by
  have sc := sc_LineParser_rule
  have g_END := T.g_END
  refine meth_mk hC cl mt F (fun _ _ _ _ _ _ us hl => match us, hl with | [_], _ => rfl) (fn_ofD (k := 6) F sc fun cdv A outer s H E W hr hg tk => ?_)
  have hu : (A.deeper (envOfC "LineParser.rule" (defScope zs_LineParser_rule) s.heap.objs.size f cdv)).units + 65 < cLine := by have := hr.un; omega
  exact (ds_cons (ds_set 1 sc.nd (d_tup (da_cons (d_meth0 q_LineParser_signed_fraction (hr.mono (by decide)) hg tk (d_var 0)) (da_cons (d_meth0 q_LineParser_signed_fraction (hr.mono (by decide)) hg tk (d_var 0)) da_nil))))
  (ds_cons (ds_if (db_not (db_val (d_meth q_LineParser_accept (hr.mono (by decide)) hg tk (d_var 0) (da_cons d_str (da_cons d_str da_nil))))) (ds_cons (ds_expr (d_meth q_LineParser_take (hr.mono (by decide)) hg tk (d_var 0) (da_cons (d_glob g_END) da_nil)))
  (ds_one (ds_ret (d_tup (da_cons (d_var 1) (da_cons (d_tup da_nil) da_nil)))))) ds_nil)
  (ds_one (ds_ret (d_tup (da_cons (d_var 1) (da_cons (d_meth q_LineParser_conditions (hr.mono (by decide)) hg tk (d_var 0) (da_cons (d_dct [(.inr "<", (mUn negD (mC (.int 1)))), (.inr ">", (mC (.int 1)))] (pps_cons pe_str (d_un ud_neg d_int) (pps_cons pe_str d_int pps_nil)) (by decide +kernel) (by decide) rfl rfl rfl (fun z => nomatch z)) da_nil)) da_nil)))))))
abbrev zs_Token_init : Stmt := (bodyD (top 22)).getD 0 (.Pass ⟨0, 0, 0, 0⟩)
abbrev n_Token_init : List Str := ["self", "kind", "spelling", "column"]
theorem sc_Token_init : FnScope n_Token_init ["self", "kind", "spelling", "column"] (defScope zs_Token_init) := ⟨rfl, rfl, rfl, by decide +kernel, rfl, by decide +kernel, by decide +kernel⟩
theorem ok_Token_init {C f : Addr} {fd : FuncData} (hC : mg "Token" = some (.ref C)) (mk : Mk K C f) (F : Fun K "__init__" "Token.__init__" zs_Token_init f fd) (T : Top K mg) (ND : base.NoDigits) : MakD P w K mg base 2 "Token" 3 m_Token_init := by
  have sc := sc_Token_init
  refine make_mk hC mk F (fun _ _ _ _ _ _ us hl => match us, hl with | [_, _, _, _], _ => rfl) (fn_ofD (k := 1) F sc fun cdv A outer s H E W hr hg tk => ?_)
  have hu : (A.deeper (envOfC "Token.__init__" (defScope zs_Token_init) s.heap.objs.size f cdv)).units + 65 < cLine := by have := hr.un; omega
  exact (ds_cons (ds_fld T.a_kind (d_var 0) (d_var 1))
  (ds_cons (ds_fld T.a_spelling (d_var 0) (d_var 2))
  (ds_one (ds_fld T.a_column (d_var 0) (d_var 3)))))
abbrev zs_end_of_run : Stmt := top 23
abbrev n_end_of_run : List Str := ["line", "start", "signs", "end"]
theorem sc_end_of_run : FnScope n_end_of_run ["line", "start", "signs"] (defScope zs_end_of_run) := ⟨rfl, rfl, rfl, by decide +kernel, rfl, by decide +kernel, by decide +kernel⟩
theorem ok_end_of_run {f : Addr} {fd : FuncData} (F : Fun K "end_of_run" "end_of_run" zs_end_of_run f fd) (hm : mg "end_of_run" = some (.ref f)) (T : Top K mg) (ND : base.NoDigits) : Cal P w K mg base 2 "end_of_run" 3 m_end_of_run := by
  have sc := sc_end_of_run
  refine cal_mk hm F (fun _ _ _ _ _ _ us hl => match us, hl with | [_, _, _], _ => rfl) (fn_ofD (k := 1) F sc fun cdv A outer s H E W hr hg tk => ?_)
  have hu : (A.deeper (envOfC "end_of_run" (defScope zs_end_of_run) s.heap.objs.size f cdv)).units + 65 < cLine := by have := hr.un; omega
  exact (ds_cons (ds_set 3 sc.nd (d_var 1))
  (ds_cons (ds_while (passes_of rfl) (db_bool (dw_and (db_cmp (od_lt) (d_var 3) (d_callB (cd_len) T.b_len (da_cons (d_var 0) da_nil))) (dw_and1 (db_cmp (od_in hu) (d_ix (d_var 0) (d_var 3)) (d_var 2))))) (ds_one (ds_aug 3 sc.nd id_add d_int)))
  (ds_one (ds_ret (d_var 3)))))
abbrev zs_token_at : Stmt := top 24
abbrev n_token_at : List Str := ["line", "number", "start", "sign", "spelling"]
theorem sc_token_at : FnScope n_token_at ["line", "number", "start"] (defScope zs_token_at) := ⟨rfl, rfl, rfl, by decide +kernel, rfl, by decide +kernel, by decide +kernel⟩
theorem ok_token_at {f : Addr} {fd : FuncData} (F : Fun K "token_at" "token_at" zs_token_at f fd) (hm : mg "token_at" = some (.ref f)) (T : Top K mg) (ND : base.NoDigits) (w_Token : MakD P w K mg base 2 "Token" 3 m_Token_init) (c_end_of_run : Cal P w K mg base 2 "end_of_run" 3 m_end_of_run) (n_SyntaxProblem : ExcIF P w K mg base "SyntaxProblem" ["line", "column"]) : Cal P w K mg base 4 "token_at" 3 m_token_at := by
  have sc := sc_token_at
  have g_DIGITS := T.g_DIGITS
  have g_KEYWORDS := T.g_KEYWORDS
  have g_MAX_DIGITS := T.g_MAX_DIGITS
  have g_MAX_NAME := T.g_MAX_NAME
  have g_SMALL := T.g_SMALL
  have g_SYMBOLS := T.g_SYMBOLS
  refine cal_mk hm F (fun _ _ _ _ _ _ us hl => match us, hl with | [_, _, _], _ => rfl) (fn_ofD (k := 3) F sc fun cdv A outer s H E W hr hg tk => ?_)
  have hu : (A.deeper (envOfC "token_at" (defScope zs_token_at) s.heap.objs.size f cdv)).units + 65 < cLine := by have := hr.un; omega
  exact (ds_cons (ds_set 3 sc.nd (d_ix (d_var 0) (d_var 2)))
  (ds_cons (ds_if (db_cmp (od_in hu) (d_var 3) (d_glob g_SMALL)) (ds_cons (ds_set 4 sc.nd (d_sl (d_var 0) (do_some (d_var 2)) (do_some (d_call c_end_of_run (hr.mono (by decide)) hg tk (da_cons (d_var 0) (da_cons (d_var 2) (da_cons (d_op od_add (d_glob g_SMALL) (d_glob g_DIGITS)) da_nil)))))))
  (ds_cons (ds_if (db_bool (dw_and (db_cmp (od_ni hu) (d_var 4) (d_glob g_KEYWORDS)) (dw_and1 (db_cmp (od_gt) (d_callB (cd_len) T.b_len (da_cons (d_var 4) da_nil)) (d_glob g_MAX_NAME))))) (ds_one (ds_raiseI rfl tk n_SyntaxProblem (hr.mono (by decide)) (da_cons (d_var 1) (da_cons (d_op od_add (d_var 2) d_int) da_nil)))) ds_nil)
  (ds_one (ds_ret (d_frz (d_make w_Token (hr.mono (by decide)) hg tk (da_cons (d_if (db_cmp (od_in hu) (d_var 4) (d_glob g_KEYWORDS)) d_str d_str) (da_cons (d_var 4) (da_cons (d_op od_add (d_var 2) d_int) da_nil))))))))) ds_nil)
  (ds_cons (ds_if (db_cmp (od_in hu) (d_var 3) (d_glob g_DIGITS)) (ds_cons (ds_set 4 sc.nd (d_sl (d_var 0) (do_some (d_var 2)) (do_some (d_call c_end_of_run (hr.mono (by decide)) hg tk (da_cons (d_var 0) (da_cons (d_var 2) (da_cons (d_glob g_DIGITS) da_nil)))))))
  (ds_cons (ds_if (db_bool (dw_or (db_cmp (od_gt) (d_callB (cd_len) T.b_len (da_cons (d_var 4) da_nil)) (d_glob g_MAX_DIGITS)) (dw_or1 (db_bool (dw_and (db_cmp (od_gt) (d_callB (cd_len) T.b_len (da_cons (d_var 4) da_nil)) d_int) (dw_and1 (db_cmp (od_eq (Nat.lt_of_succ_lt hu)) (d_var 3) d_str))))))) (ds_one (ds_raiseI rfl tk n_SyntaxProblem (hr.mono (by decide)) (da_cons (d_var 1) (da_cons (d_op od_add (d_var 2) d_int) da_nil)))) ds_nil)
  (ds_one (ds_ret (d_frz (d_make w_Token (hr.mono (by decide)) hg tk (da_cons d_str (da_cons (d_var 4) (da_cons (d_op od_add (d_var 2) d_int) da_nil))))))))) ds_nil)
  (ds_cons (ds_if (db_cmp (od_in hu) (d_var 3) (d_glob g_SYMBOLS)) (ds_one (ds_ret (d_frz (d_make w_Token (hr.mono (by decide)) hg tk (da_cons d_str (da_cons (d_var 3) (da_cons (d_op od_add (d_var 2) d_int) da_nil))))))) ds_nil)
  (ds_one (ds_raiseI rfl tk n_SyntaxProblem (hr.mono (by decide)) (da_cons (d_var 1) (da_cons (d_op od_add (d_var 2) d_int) da_nil))))))))
abbrev zs_tokens_of : Stmt := top 25
abbrev n_tokens_of : List Str := ["line", "number", "tokens", "index", "token"]
theorem sc_tokens_of : FnScope n_tokens_of ["line", "number"] (defScope zs_tokens_of) := ⟨rfl, rfl, rfl, by decide +kernel, rfl, by decide +kernel, by decide +kernel⟩
theorem ok_tokens_of {f : Addr} {fd : FuncData} (F : Fun K "tokens_of" "tokens_of" zs_tokens_of f fd) (hm : mg "tokens_of" = some (.ref f)) (T : Top K mg) (ND : base.NoDigits) (w_Token : MakD P w K mg base 2 "Token" 3 m_Token_init) (c_token_at : Cal P w K mg base 4 "token_at" 3 m_token_at) (n_SyntaxProblem : ExcIF P w K mg base "SyntaxProblem" ["line", "column"]) : Cal P w K mg base 5 "tokens_of" 2 m_tokens_of := by
  have sc := sc_tokens_of
  have g_END := T.g_END
  have g_MAX_TOKENS := T.g_MAX_TOKENS
  refine cal_mk hm F (fun _ _ _ _ _ _ us hl => match us, hl with | [_, _], _ => rfl) (fn_ofD (k := 4) F sc fun cdv A outer s H E W hr hg tk => ?_)
  have hu : (A.deeper (envOfC "tokens_of" (defScope zs_tokens_of) s.heap.objs.size f cdv)).units + 65 < cLine := by have := hr.un; omega
  exact (ds_cons (ds_set 2 sc.nd (d_new da_nil))
  (ds_cons (ds_set 3 sc.nd d_int)
  (ds_cons (ds_while (passes_of rfl) (db_cmp (od_lt) (d_var 3) (d_callB (cd_len) T.b_len (da_cons (d_var 0) da_nil))) (ds_one (ds_if (db_cmp (od_eq (Nat.lt_of_succ_lt hu)) (d_ix (d_var 0) (d_var 3)) d_str) (ds_one (ds_aug 3 sc.nd id_add d_int)) (ds_cons (ds_set 4 sc.nd (d_call c_token_at (hr.mono (by decide)) hg tk (da_cons (d_var 0) (da_cons (d_var 1) (da_cons (d_var 3) da_nil)))))
  (ds_cons (ds_if (db_cmp (od_eq (Nat.lt_of_succ_lt hu)) (d_callB (cd_len) T.b_len (da_cons (d_var 2) da_nil)) (d_glob g_MAX_TOKENS)) (ds_one (ds_raiseI rfl tk n_SyntaxProblem (hr.mono (by decide)) (da_cons (d_var 1) (da_cons (d_fld T.a_column (d_var 4)) da_nil)))) ds_nil)
  (ds_cons (ds_expr (d_met md_append PySem.F.plainAttrs_list PySem.F.slot_list_append PySem.F.type_list_append (d_var 2) (da_cons (d_var 4) da_nil)))
  (ds_one (ds_aug 3 sc.nd id_add (d_callB (cd_len) T.b_len (da_cons (d_fld T.a_spelling (d_var 4)) da_nil))))))))))
  (ds_one (ds_ret (d_op od_add (d_var 2) (d_lst (da_cons (d_frz (d_make w_Token (hr.mono (by decide)) hg tk (da_cons (d_glob g_END) (da_cons d_str (da_cons (d_op od_add (d_callB (cd_len) T.b_len (da_cons (d_var 0) da_nil)) d_int) da_nil))))) da_nil))))))))
abbrev zs_LineParser_init : Stmt := (bodyD (top 26)).getD 0 (.Pass ⟨0, 0, 0, 0⟩)
abbrev n_LineParser_init : List Str := ["self", "line", "row", "names"]
theorem sc_LineParser_init : FnScope n_LineParser_init ["self", "line", "row", "names"] (defScope zs_LineParser_init) := ⟨rfl, rfl, rfl, by decide +kernel, rfl, by decide +kernel, by decide +kernel⟩
theorem ok_LineParser_init {C f : Addr} {fd : FuncData} (hC : mg "LineParser" = some (.ref C)) (mk : Mk K C f) (F : Fun K "__init__" "LineParser.__init__" zs_LineParser_init f fd) (T : Top K mg) (ND : base.NoDigits) (c_tokens_of : Cal P w K mg base 5 "tokens_of" 2 m_tokens_of) : MakD P w K mg base 6 "LineParser" 3 m_LineParser_init := by
  have sc := sc_LineParser_init
  refine make_mk hC mk F (fun _ _ _ _ _ _ us hl => match us, hl with | [_, _, _, _], _ => rfl) (fn_ofD (k := 5) F sc fun cdv A outer s H E W hr hg tk => ?_)
  have hu : (A.deeper (envOfC "LineParser.__init__" (defScope zs_LineParser_init) s.heap.objs.size f cdv)).units + 65 < cLine := by have := hr.un; omega
  exact (ds_cons (ds_fld T.a_row (d_var 0) (d_var 2))
  (ds_cons (ds_fld T.a_names (d_var 0) (d_var 3))
  (ds_cons (ds_fld T.a_tokens (d_var 0) (d_call c_tokens_of (hr.mono (by decide)) hg tk (da_cons (d_var 1) (da_cons (d_var 2) da_nil))))
  (ds_one (ds_fld T.a_index (d_var 0) d_int)))))
abbrev zs_parse_plan : Stmt := top 28
abbrev n_parse_plan : List Str := ["text", "lines", "rules", "texts", "index", "line", "parser", "first", "is_ended", "name", "a", "b", "c"]
theorem sc_parse_plan : FnScope n_parse_plan ["text"] (defScope zs_parse_plan) := ⟨rfl, rfl, rfl, by decide +kernel, rfl, by decide +kernel, by decide +kernel⟩
theorem ok_parse_plan {f : Addr} {fd : FuncData} (F : Fun K "parse_plan" "parse_plan" zs_parse_plan f fd) (hm : mg "parse_plan" = some (.ref f)) (T : Top K mg) (ND : base.NoDigits) (q_LineParser_accept : MethD P w K mg base 3 "LineParser" "accept" 2 m_LineParser_accept) (q_LineParser_straight_line : MethD P w K mg base 7 "LineParser" "straight_line" 1 m_LineParser_straight_line) (q_LineParser_rule : MethD P w K mg base 7 "LineParser" "rule" 0 m_LineParser_rule) (q_LineParser_fail : MethD P w K mg base 4 "LineParser" "fail" 1 m_LineParser_fail) (q_LineParser_peek : MethD P w K mg base 2 "LineParser" "peek" 0 m_LineParser_peek) (w_LineParser : MakD P w K mg base 6 "LineParser" 3 m_LineParser_init) (n_SyntaxProblem : ExcIF P w K mg base "SyntaxProblem" ["line", "column"]) : Cal P w K mg base 8 "parse_plan" 1 m_parse_plan := by
  have sc := sc_parse_plan
  have g_END := T.g_END
  have g_MAX_ITEMS := T.g_MAX_ITEMS
  have g_MAX_RULES := T.g_MAX_RULES
  refine cal_mk hm F (fun _ _ _ _ _ _ us hl => match us, hl with | [_], _ => rfl) (fn_ofD (k := 7) F sc fun cdv A outer s H E W hr hg tk => ?_)
  have hu : (A.deeper (envOfC "parse_plan" (defScope zs_parse_plan) s.heap.objs.size f cdv)).units + 65 < cLine := by have := hr.un; omega
  exact (ds_cons (ds_par 1 2 rfl sc.nd (d_new da_nil) (d_new da_nil))
  (ds_cons (ds_setLc (own := [("line", 5)]) finL_fz 3 rfl sc.nd (di_seq (d_split (d_var 0) d_str)) (blkOk_by (N := n_parse_plan) (sc := defScope zs_parse_plan) (by decide +kernel)) (fun _ _ _ _ _ => (dgw_name 5 (by decide) sc.nd)) (fun _ _ _ _ _ => dt_nil) (fun _ _ _ _ _ => (d_ix (d_split (d_var 5) d_str) d_int)) (sw_true rfl rfl rfl (by decide +kernel)))
  (ds_cons (ds_for (passes_of rfl) rfl (di_enumQ T.b_enumerate (d_var 3)) (dg_tup rfl (dgs_cons (dg_name 4 sc.nd) (dgs_cons (dg_name 5 sc.nd) dgs_nil))) (ds_cons (ds_if (db_cmp (od_eq (Nat.lt_of_succ_lt hu)) (d_var 4) (d_glob g_MAX_ITEMS)) (ds_one (ds_raiseI rfl tk n_SyntaxProblem (hr.mono (by decide)) (da_cons (d_op od_add (d_var 4) d_int) (da_cons d_int da_nil)))) ds_nil)
  (ds_cons (ds_set 6 sc.nd (d_make w_LineParser (hr.mono (by decide)) hg tk (da_cons (d_var 5) (da_cons (d_op od_add (d_var 4) d_int) (da_cons (d_lcS (own := [("name", 9), ("a", 10), ("b", 11), ("c", 12)]) finL_fz rfl sc.nd (d_var 1) (blkOk_by (N := n_parse_plan) (sc := defScope zs_parse_plan) (by decide +kernel)) (fun _ _ _ _ _ => (dgw_tup rfl (dgsw_cons (dgw_name 9 (by decide) sc.nd) (dgsw_cons (dgw_name 10 (by decide) sc.nd) (dgsw_cons (dgw_name 11 (by decide) sc.nd) (dgsw_cons (dgw_name 12 (by decide) sc.nd) dgsw_nil)))))) (fun _ _ _ _ _ => dt_nil) (fun _ _ _ _ _ => (d_var 9))) da_nil)))))
  (ds_cons (ds_set 7 sc.nd (d_meth0 q_LineParser_peek (hr.mono (by decide)) hg tk (d_var 6)))
  (ds_cons (ds_set 8 sc.nd (d_and (d_cmp (od_ne (Nat.lt_of_succ_lt hu)) (d_var 2) (d_lst da_nil)) (d_one (d_cmp (od_eq (Nat.lt_of_succ_lt hu)) (d_ix (d_ix (d_var 2) (d_un ud_neg d_int)) d_int) (d_tup da_nil)))))
  (ds_one (ds_if (db_cmp (od_ne (Nat.lt_of_succ_lt hu)) (d_fld T.a_kind (d_var 7)) (d_glob g_END)) (ds_one (ds_if (db_bool (dw_and (db_cmp (od_eq (Nat.lt_of_succ_lt hu)) (d_var 2) (d_lst da_nil)) (dw_and1 (db_val (d_meth q_LineParser_accept (hr.mono (by decide)) hg tk (d_var 6) (da_cons d_str (da_cons d_str da_nil))))))) (ds_one (ds_expr (d_met md_append PySem.F.plainAttrs_list PySem.F.slot_list_append PySem.F.type_list_append (d_var 1) (da_cons (d_meth q_LineParser_straight_line (hr.mono (by decide)) hg tk (d_var 6) (da_cons (d_var 1) da_nil)) da_nil)))) (ds_one (ds_if (db_bool (dw_and (db_not (db_val (d_var 8))) (dw_and (db_cmp (od_lt) (d_callB (cd_len) T.b_len (da_cons (d_var 2) da_nil)) (d_glob g_MAX_RULES)) (dw_and1 (db_val (d_meth q_LineParser_accept (hr.mono (by decide)) hg tk (d_var 6) (da_cons d_str (da_cons d_str da_nil)))))))) (ds_one (ds_expr (d_met md_append PySem.F.plainAttrs_list PySem.F.slot_list_append PySem.F.type_list_append (d_var 2) (da_cons (d_meth0 q_LineParser_rule (hr.mono (by decide)) hg tk (d_var 6)) da_nil)))) (ds_one (ds_expr (d_meth q_LineParser_fail (hr.mono (by decide)) hg tk (d_var 6) (da_cons (d_var 7) da_nil)))))))) ds_nil)))))))
  (ds_cons (ds_if (db_bool (dw_or (db_cmp (od_eq (Nat.lt_of_succ_lt hu)) (d_var 2) (d_lst da_nil)) (dw_or1 (db_cmp (od_ne (Nat.lt_of_succ_lt hu)) (d_ix (d_ix (d_var 2) (d_un ud_neg d_int)) d_int) (d_tup da_nil))))) (ds_one (ds_raiseI rfl tk n_SyntaxProblem (hr.mono (by decide)) (da_cons (d_op od_add (d_callB (cd_len) T.b_len (da_cons (d_var 3) da_nil)) d_int) (da_cons d_int da_nil)))) ds_nil)
  (ds_one (ds_ret (d_tup (da_cons (d_callT (cd_tuple) T.b_tuple (da_cons (d_var 1) da_nil)) (da_cons (d_callT (cd_tuple) T.b_tuple (da_cons (d_var 2) da_nil)) da_nil)))))))))
abbrev zs_L_blown : Stmt := top 30
abbrev n_L_blown : List Str := ["_law_value", "_law_at", "_law_modulus", "_law_found", "_law_turn"]
theorem sc_L_blown : FnScope n_L_blown ["_law_value", "_law_at"] (defScope zs_L_blown) := ⟨rfl, rfl, rfl, by decide +kernel, rfl, by decide +kernel, by decide +kernel⟩
theorem ok_L_blown {f : Addr} {fd : FuncData} (F : Fun K "_law_blown" "_law_blown" zs_L_blown f fd) (hm : mg "_law_blown" = some (.ref f)) (T : Top K mg) (ND : base.NoDigits) : Cal P w K mg base 2 "_law_blown" 2 m_L_blown := by
  have sc := sc_L_blown
  refine cal_mk hm F (fun _ _ _ _ _ _ us hl => match us, hl with | [_, _], _ => rfl) (fn_ofD (k := 1) F sc fun cdv A outer s H E W hr hg tk => ?_)
  have hu : (A.deeper (envOfC "_law_blown" (defScope zs_L_blown) s.heap.objs.size f cdv)).units + 65 < cLine := by have := hr.un; omega
  exact (ds_cons (ds_set 2 sc.nd d_int)
  (ds_cons (ds_set 3 sc.nd (d_op od_mod (d_op od_add (d_op od_add (d_op od_mul (d_var 0) d_int) (d_op od_mul d_int (d_var 1))) d_int) (d_var 2)))
  (ds_cons (ds_for (passes_of rfl) rfl (di_range1 T.b_range d_int) (dg_name 4 sc.nd) (ds_one (ds_set 3 sc.nd (d_op od_mod (d_op od_add (d_op od_add (d_op od_add (d_op od_mul (d_var 3) (d_var 3)) (d_op od_mul d_int (d_var 3))) (d_op od_mul d_int (d_var 4))) (d_var 1)) (d_var 2)))))
  (ds_one (ds_ret (d_op od_add (d_op od_mul (d_var 3) (d_var 2)) (d_op od_mod (d_op od_add (d_op od_mul (d_var 3) d_int) (d_var 1)) (d_var 2))))))))
abbrev zs_L_pull : Stmt := top 32
abbrev n_L_pull : List Str := ["_law_urn_here", "_law_many", "_law_numbers", "_law_at", "_law_value", "_law_found"]
theorem sc_L_pull : FnScope n_L_pull ["_law_urn_here", "_law_many"] (defScope zs_L_pull) := ⟨rfl, rfl, rfl, by decide +kernel, rfl, by decide +kernel, by decide +kernel⟩
theorem ok_L_pull {f : Addr} {fd : FuncData} (F : Fun K "_law_pull" "_law_pull" zs_L_pull f fd) (hm : mg "_law_pull" = some (.ref f)) (T : Top K mg) (ND : base.NoDigits) (c_L_blown : Cal P w K mg base 2 "_law_blown" 2 m_L_blown) : Cal P w K mg base 3 "_law_pull" 2 m_L_pull := by
  have sc := sc_L_pull
  refine cal_mk hm F (fun _ _ _ _ _ _ us hl => match us, hl with | [_, _], _ => rfl) (fn_ofD (k := 2) F sc fun cdv A outer s H E W hr hg tk => ?_)
  have hu : (A.deeper (envOfC "_law_pull" (defScope zs_L_pull) s.heap.objs.size f cdv)).units + 65 < cLine := by have := hr.un; omega
  exact (ds_cons (ds_if (db_cmp (od_lt) (d_ix (d_var 0) d_int) (d_var 1)) (ds_cons (ds_par 2 3 rfl sc.nd (d_ix (d_var 0) d_int) (d_ix (d_var 0) d_int))
  (ds_cons (ds_set 4 sc.nd (d_if (db_cmp (od_ne (Nat.lt_of_succ_lt hu)) (d_var 2) (d_lst da_nil)) (d_ix (d_var 2) (d_op od_mod (d_var 3) (d_callB (cd_len) T.b_len (da_cons (d_var 2) da_nil)))) d_int))
  (ds_cons (ds_if (db_bool (dw_or (db_cmp (od_lt) (d_var 4) (d_op od_pow d_int d_int)) (dw_or1 (db_cmp (od_ge) (d_var 3) (d_callB (cd_len) T.b_len (da_cons (d_var 2) da_nil)))))) (ds_one (ds_set 4 sc.nd (d_call c_L_blown (hr.mono (by decide)) hg tk (da_cons (d_op od_add (d_op od_mod (d_var 4) (d_op od_pow d_int d_int)) (d_op od_fdiv (d_var 3) (d_op od_add (d_callB (cd_len) T.b_len (da_cons (d_var 2) da_nil)) d_int))) (da_cons (d_var 3) da_nil))))) ds_nil)
  (ds_cons (ds_asg (dg_sub (W := W) (d_var 0) d_int) (d_op od_add (d_var 3) d_int))
  (ds_one (ds_asg (dg_sub (W := W) (d_var 0) d_int) (d_var 4))))))) ds_nil)
  (ds_cons (ds_set 5 sc.nd (d_op od_mod (d_ix (d_var 0) d_int) (d_var 1)))
  (ds_cons (ds_asg (dg_sub (W := W) (d_var 0) d_int) (d_op od_fdiv (d_ix (d_var 0) d_int) (d_var 1)))
  (ds_one (ds_ret (d_var 5))))))
abbrev zs_L_item : Stmt := top 33
abbrev n_L_item : List Str := ["_law_urn_here", "_law_items"]
theorem sc_L_item : FnScope n_L_item ["_law_urn_here", "_law_items"] (defScope zs_L_item) := ⟨rfl, rfl, rfl, by decide +kernel, rfl, by decide +kernel, by decide +kernel⟩
theorem ok_L_item {f : Addr} {fd : FuncData} (F : Fun K "_law_item" "_law_item" zs_L_item f fd) (hm : mg "_law_item" = some (.ref f)) (T : Top K mg) (ND : base.NoDigits) (c_L_pull : Cal P w K mg base 3 "_law_pull" 2 m_L_pull) : Cal P w K mg base 4 "_law_item" 2 m_L_item := by
  have sc := sc_L_item
  refine cal_mk hm F (fun _ _ _ _ _ _ us hl => match us, hl with | [_, _], _ => rfl) (fn_ofD (k := 3) F sc fun cdv A outer s H E W hr hg tk => ?_)
  have hu : (A.deeper (envOfC "_law_item" (defScope zs_L_item) s.heap.objs.size f cdv)).units + 65 < cLine := by have := hr.un; omega
  exact (ds_one (ds_ret (d_ix (d_var 1) (d_call c_L_pull (hr.mono (by decide)) hg tk (da_cons (d_var 0) (da_cons (d_callB (cd_len) T.b_len (da_cons (d_var 1) da_nil)) da_nil))))))
abbrev zs_L_spaced : Stmt := top 49
abbrev n_L_spaced : List Str := ["_law_urn_here", "_law_tokens", "_law_text", "_law_last", "_law_letters", "_law_numerals", "_law_token", "_law_words"]
theorem sc_L_spaced : FnScope n_L_spaced ["_law_urn_here", "_law_tokens"] (defScope zs_L_spaced) := ⟨rfl, rfl, rfl, by decide +kernel, rfl, by decide +kernel, by decide +kernel⟩
theorem ok_L_spaced {f : Addr} {fd : FuncData} (F : Fun K "_law_spaced" "_law_spaced" zs_L_spaced f fd) (hm : mg "_law_spaced" = some (.ref f)) (T : Top K mg) (ND : base.NoDigits) (c_L_pull : Cal P w K mg base 3 "_law_pull" 2 m_L_pull) (c_L_item : Cal P w K mg base 4 "_law_item" 2 m_L_item) : Cal P w K mg base 5 "_law_spaced" 2 m_L_spaced := by
  have sc := sc_L_spaced
  refine cal_mk hm F (fun _ _ _ _ _ _ us hl => match us, hl with | [_, _], _ => rfl) (fn_ofD (k := 4) F sc fun cdv A outer s H E W hr hg tk => ?_)
  have hu : (A.deeper (envOfC "_law_spaced" (defScope zs_L_spaced) s.heap.objs.size f cdv)).units + 65 < cLine := by have := hr.un; omega
  exact (ds_cons (ds_asg (dg_tup rfl (dgs_cons (dg_name 2 sc.nd) (dgs_cons (dg_name 3 sc.nd) dgs_nil))) (d_tup (da_cons d_str (da_cons d_str da_nil))))
  (ds_cons (ds_asg (dg_tup rfl (dgs_cons (dg_name 4 sc.nd) (dgs_cons (dg_name 5 sc.nd) dgs_nil))) (d_tup (da_cons d_str (da_cons d_str da_nil))))
  (ds_cons (ds_for (passes_of rfl) rfl (di_seq (d_var 1)) (dg_name 6 sc.nd) (ds_cons (ds_set 7 sc.nd (d_and (d_cmp (od_in hu) (d_ix (d_var 6) d_int) (d_op od_add (d_var 4) (d_var 5))) (d_and (d_cmp (od_ne (Nat.lt_of_succ_lt hu)) (d_sl (d_var 3) do_none (do_some d_int)) d_str) (d_one (d_cmp (od_in hu) (d_ix (d_var 3) d_int) (d_var 4))))))
  (ds_cons (ds_set 7 sc.nd (d_or (d_var 7) (d_one (d_and (d_cmp (od_in hu) (d_ix (d_var 6) d_int) (d_var 5)) (d_and (d_cmp (od_ne (Nat.lt_of_succ_lt hu)) (d_sl (d_var 3) do_none (do_some d_int)) d_str) (d_one (d_cmp (od_in hu) (d_ix (d_var 3) d_int) (d_var 5))))))))
  (ds_cons (ds_set 2 sc.nd (d_op od_add (d_op od_add (d_var 2) (d_op (od_mulT od_mulS) d_str (d_callB (cd_max rfl) T.b_max (da_cons (d_callT (cd_int) T.b_int (da_cons (d_var 7) da_nil)) (da_cons (d_call c_L_item (hr.mono (by decide)) hg tk (da_cons (d_var 0) (da_cons (d_lst (da_cons d_int (da_cons d_int (da_cons d_int (da_cons d_int (da_cons d_int (da_cons d_int da_nil))))))) da_nil))) da_nil))))) (d_var 6)))
  (ds_one (ds_set 3 sc.nd (d_var 6)))))))
  (ds_one (ds_ret (d_op od_add (d_var 2) (d_op (od_mulT od_mulS) d_str (d_call c_L_pull (hr.mono (by decide)) hg tk (da_cons (d_var 0) (da_cons d_int da_nil))))))))))
abbrev zs_L_laid : Stmt := top 50
abbrev n_L_laid : List Str := ["_law_urn_here", "_law_lines_here", "_law_found", "_law_tokens", "_law_k", "_law_comment"]
theorem sc_L_laid : FnScope n_L_laid ["_law_urn_here", "_law_lines_here"] (defScope zs_L_laid) := ⟨rfl, rfl, rfl, by decide +kernel, rfl, by decide +kernel, by decide +kernel⟩
theorem ok_L_laid {f : Addr} {fd : FuncData} (F : Fun K "_law_laid" "_law_laid" zs_L_laid f fd) (hm : mg "_law_laid" = some (.ref f)) (T : Top K mg) (ND : base.NoDigits) (c_L_item : Cal P w K mg base 4 "_law_item" 2 m_L_item) (c_L_spaced : Cal P w K mg base 5 "_law_spaced" 2 m_L_spaced) : Cal P w K mg base 6 "_law_laid" 2 m_L_laid := by
  have sc := sc_L_laid
  refine cal_mk hm F (fun _ _ _ _ _ _ us hl => match us, hl with | [_, _], _ => rfl) (fn_ofD (k := 5) F sc fun cdv A outer s H E W hr hg tk => ?_)
  have hu : (A.deeper (envOfC "_law_laid" (defScope zs_L_laid) s.heap.objs.size f cdv)).units + 65 < cLine := by have := hr.un; omega
  exact (ds_cons (ds_set 2 sc.nd (d_new da_nil))
  (ds_cons (ds_for (passes_of rfl) rfl (di_seq (d_var 1)) (dg_name 3 sc.nd) (ds_cons (ds_for (passes_of rfl) rfl (di_range1 T.b_range (d_call c_L_item (hr.mono (by decide)) hg tk (da_cons (d_var 0) (da_cons (d_lst (da_cons d_int (da_cons d_int (da_cons d_int (da_cons d_int da_nil))))) da_nil)))) (dg_name 4 sc.nd) (ds_one (ds_expr (d_met md_append PySem.F.plainAttrs_list PySem.F.slot_list_append PySem.F.type_list_append (d_var 2) (da_cons (d_call c_L_item (hr.mono (by decide)) hg tk (da_cons (d_var 0) (da_cons (d_lst (da_cons d_str (da_cons d_str (da_cons d_str (da_cons d_str da_nil))))) da_nil))) da_nil)))))
  (ds_cons (ds_set 5 sc.nd (d_call c_L_item (hr.mono (by decide)) hg tk (da_cons (d_var 0) (da_cons (d_lst (da_cons d_str (da_cons d_str (da_cons d_str (da_cons d_str (da_cons d_str (da_cons d_str da_nil))))))) da_nil))))
  (ds_one (ds_expr (d_met md_append PySem.F.plainAttrs_list PySem.F.slot_list_append PySem.F.type_list_append (d_var 2) (da_cons (d_op od_add (d_op od_add (d_op (od_mulT od_mulS) d_str (d_call c_L_item (hr.mono (by decide)) hg tk (da_cons (d_var 0) (da_cons (d_lst (da_cons d_int (da_cons d_int (da_cons d_int da_nil)))) da_nil)))) (d_call c_L_spaced (hr.mono (by decide)) hg tk (da_cons (d_var 0) (da_cons (d_var 3) da_nil)))) (d_var 5)) da_nil)))))))
  (ds_one (ds_ret (d_join d_str (d_var 2))))))
abbrev zs_L_condition_tokens : Stmt := top 47
abbrev n_L_condition_tokens : List Str := ["_law_conditions", "_law_found", "_law_name", "_law_side"]
theorem sc_L_condition_tokens : FnScope n_L_condition_tokens ["_law_conditions"] (defScope zs_L_condition_tokens) := ⟨rfl, rfl, rfl, by decide +kernel, rfl, by decide +kernel, by decide +kernel⟩
theorem ok_L_condition_tokens {f : Addr} {fd : FuncData} (F : Fun K "_law_condition_tokens" "_law_condition_tokens" zs_L_condition_tokens f fd) (hm : mg "_law_condition_tokens" = some (.ref f)) (T : Top K mg) (ND : base.NoDigits) : Cal P w K mg base 2 "_law_condition_tokens" 1 m_L_condition_tokens := by
  have sc := sc_L_condition_tokens
  refine cal_mk hm F (fun _ _ _ _ _ _ us hl => match us, hl with | [_], _ => rfl) (fn_ofD (k := 1) F sc fun cdv A outer s H E W hr hg tk => ?_)
  have hu : (A.deeper (envOfC "_law_condition_tokens" (defScope zs_L_condition_tokens) s.heap.objs.size f cdv)).units + 65 < cLine := by have := hr.un; omega
  exact (ds_cons (ds_set 1 sc.nd (d_lst da_nil))
  (ds_cons (ds_for (passes_of rfl) rfl (di_seq (d_var 0)) (dg_tup rfl (dgs_cons (dg_name 2 sc.nd) (dgs_cons (dg_name 3 sc.nd) dgs_nil))) (ds_one (ds_set 1 sc.nd (d_op od_add (d_var 1) (d_lst (da_cons d_str (da_cons (d_var 2) (da_cons (d_ix d_str (d_op od_add (d_var 3) d_int)) da_nil))))))))
  (ds_one (ds_ret (d_sl (d_var 1) (do_some d_int) do_none)))))
abbrev zs_L_number_tokens : Stmt := top 46
abbrev n_L_number_tokens : List Str := ["_law_urn_here", "_law_number_here", "_law_top", "_law_bottom", "_law_more", "_law_found"]
theorem sc_L_number_tokens : FnScope n_L_number_tokens ["_law_urn_here", "_law_number_here"] (defScope zs_L_number_tokens) := ⟨rfl, rfl, rfl, by decide +kernel, rfl, by decide +kernel, by decide +kernel⟩
theorem ok_L_number_tokens {f : Addr} {fd : FuncData} (F : Fun K "_law_number_tokens" "_law_number_tokens" zs_L_number_tokens f fd) (hm : mg "_law_number_tokens" = some (.ref f)) (T : Top K mg) (ND : base.NoDigits) (c_L_pull : Cal P w K mg base 3 "_law_pull" 2 m_L_pull) (c_L_item : Cal P w K mg base 4 "_law_item" 2 m_L_item) : Cal P w K mg base 5 "_law_number_tokens" 2 m_L_number_tokens := by
  have sc := sc_L_number_tokens
  refine cal_mk hm F (fun _ _ _ _ _ _ us hl => match us, hl with | [_, _], _ => rfl) (fn_ofD (k := 4) F sc fun cdv A outer s H E W hr hg tk => ?_)
  have hu : (A.deeper (envOfC "_law_number_tokens" (defScope zs_L_number_tokens) s.heap.objs.size f cdv)).units + 65 < cLine := by have := hr.un; omega
  exact (ds_cons (ds_par 2 3 rfl sc.nd (d_callB (cd_abs) T.b_abs (da_cons (d_ix (d_var 1) d_int) da_nil)) (d_ix (d_var 1) d_int))
  (ds_cons (ds_set 4 sc.nd (d_op od_add d_int (d_call c_L_pull (hr.mono (by decide)) hg tk (da_cons (d_var 0) (da_cons (d_callB (cd_max rfl) T.b_max (da_cons d_int (da_cons (d_op od_fdiv d_int (d_callB (cd_max rfl) T.b_max (da_cons (d_var 2) (da_cons (d_var 3) da_nil)))) da_nil))) da_nil)))))
  (ds_cons (ds_set 4 sc.nd (d_call c_L_item (hr.mono (by decide)) hg tk (da_cons (d_var 0) (da_cons (d_lst (da_cons d_int (da_cons d_int (da_cons (d_var 4) da_nil)))) da_nil))))
  (ds_cons (ds_set 5 sc.nd (d_lst (da_cons (d_callT (cd_str) T.b_str (da_cons (d_op od_mul (d_var 2) (d_var 4)) da_nil)) da_nil)))
  (ds_cons (ds_if (db_bool (dw_or (db_cmp (od_gt) (d_op od_mul (d_var 3) (d_var 4)) d_int) (dw_or1 (db_cmp (od_eq (Nat.lt_of_succ_lt hu)) (d_call c_L_pull (hr.mono (by decide)) hg tk (da_cons (d_var 0) (da_cons d_int da_nil))) d_int)))) (ds_one (ds_set 5 sc.nd (d_op od_add (d_var 5) (d_lst (da_cons d_str (da_cons (d_callT (cd_str) T.b_str (da_cons (d_op od_mul (d_var 3) (d_var 4)) da_nil)) da_nil)))))) ds_nil)
  (ds_one (ds_ret (d_op od_add (d_if (db_bool (dw_or (db_cmp (od_lt) (d_ix (d_var 1) d_int) d_int) (dw_or1 (db_bool (dw_and (db_cmp (od_eq (Nat.lt_of_succ_lt hu)) (d_ix (d_var 1) d_int) d_int) (dw_and1 (db_cmp (od_eq (Nat.lt_of_succ_lt hu)) (d_call c_L_pull (hr.mono (by decide)) hg tk (da_cons (d_var 0) (da_cons d_int da_nil))) d_int))))))) (d_lst (da_cons d_str da_nil)) (d_lst da_nil)) (d_var 5)))))))))
abbrev zs_L_plan_lines : Stmt := top 48
abbrev n_L_plan_lines : List Str := ["_law_urn_here", "_law_plan_here", "_law_found", "_law_name", "_law_a", "_law_b", "_law_c", "_law_number_here", "_law_drift", "_law_conditions", "_law_tokens"]
theorem sc_L_plan_lines : FnScope n_L_plan_lines ["_law_urn_here", "_law_plan_here"] (defScope zs_L_plan_lines) := ⟨rfl, rfl, rfl, by decide +kernel, rfl, by decide +kernel, by decide +kernel⟩
theorem ok_L_plan_lines {f : Addr} {fd : FuncData} (F : Fun K "_law_plan_lines" "_law_plan_lines" zs_L_plan_lines f fd) (hm : mg "_law_plan_lines" = some (.ref f)) (T : Top K mg) (ND : base.NoDigits) (c_L_condition_tokens : Cal P w K mg base 2 "_law_condition_tokens" 1 m_L_condition_tokens) (c_L_number_tokens : Cal P w K mg base 5 "_law_number_tokens" 2 m_L_number_tokens) : Cal P w K mg base 6 "_law_plan_lines" 2 m_L_plan_lines := by
  have sc := sc_L_plan_lines
  refine cal_mk hm F (fun _ _ _ _ _ _ us hl => match us, hl with | [_, _], _ => rfl) (fn_ofD (k := 5) F sc fun cdv A outer s H E W hr hg tk => ?_)
  have hu : (A.deeper (envOfC "_law_plan_lines" (defScope zs_L_plan_lines) s.heap.objs.size f cdv)).units + 65 < cLine := by have := hr.un; omega
  exact (ds_cons (ds_set 2 sc.nd (d_new da_nil))
  (ds_cons (ds_for (passes_of rfl) rfl (di_seq (d_ix (d_var 1) d_int)) (dg_tup rfl (dgs_cons (dg_name 3 sc.nd) (dgs_cons (dg_name 4 sc.nd) (dgs_cons (dg_name 5 sc.nd) (dgs_cons (dg_name 6 sc.nd) dgs_nil))))) (ds_cons (ds_expr (d_met md_append PySem.F.plainAttrs_list PySem.F.slot_list_append PySem.F.type_list_append (d_var 2) (da_cons (d_lst (da_cons d_str (da_cons (d_var 3) da_nil))) da_nil)))
  (ds_one (ds_for (passes_of rfl) rfl (di_seq (d_tup (da_cons (d_var 4) (da_cons (d_var 5) (da_cons (d_var 6) da_nil))))) (dg_name 7 sc.nd) (ds_one (ds_asg (dg_sub (W := W) (d_var 2) (d_un ud_neg d_int)) (d_op od_add (d_ix (d_var 2) (d_un ud_neg d_int)) (d_call c_L_number_tokens (hr.mono (by decide)) hg tk (da_cons (d_var 0) (da_cons (d_var 7) da_nil))))))))))
  (ds_cons (ds_for (passes_of rfl) rfl (di_seq (d_ix (d_var 1) d_int)) (dg_tup rfl (dgs_cons (dg_name 8 sc.nd) (dgs_cons (dg_name 9 sc.nd) dgs_nil))) (ds_cons (ds_set 10 sc.nd (d_op od_add (d_op od_add (d_lst (da_cons d_str da_nil)) (d_call c_L_number_tokens (hr.mono (by decide)) hg tk (da_cons (d_var 0) (da_cons (d_ix (d_var 8) d_int) da_nil)))) (d_call c_L_number_tokens (hr.mono (by decide)) hg tk (da_cons (d_var 0) (da_cons (d_ix (d_var 8) d_int) da_nil)))))
  (ds_one (ds_expr (d_met md_append PySem.F.plainAttrs_list PySem.F.slot_list_append PySem.F.type_list_append (d_var 2) (da_cons (d_op od_add (d_var 10) (d_if (db_cmp (od_ne (Nat.lt_of_succ_lt hu)) (d_var 9) (d_tup da_nil)) (d_op od_add (d_lst (da_cons d_str da_nil)) (d_call c_L_condition_tokens (hr.mono (by decide)) hg tk (da_cons (d_var 9) da_nil))) (d_lst da_nil))) da_nil))))))
  (ds_one (ds_ret (d_frz (d_var 2)))))))
abbrev zs_L_low : Stmt := top 35
abbrev n_L_low : List Str := ["_law_top", "_law_bottom", "_law_one", "_law_other"]
theorem sc_L_low : FnScope n_L_low ["_law_top", "_law_bottom"] (defScope zs_L_low) := ⟨rfl, rfl, rfl, by decide +kernel, rfl, by decide +kernel, by decide +kernel⟩
theorem ok_L_low {f : Addr} {fd : FuncData} (F : Fun K "_law_low" "_law_low" zs_L_low f fd) (hm : mg "_law_low" = some (.ref f)) (T : Top K mg) (ND : base.NoDigits) : Cal P w K mg base 2 "_law_low" 2 m_L_low := by
  have sc := sc_L_low
  refine cal_mk hm F (fun _ _ _ _ _ _ us hl => match us, hl with | [_, _], _ => rfl) (fn_ofD (k := 1) F sc fun cdv A outer s H E W hr hg tk => ?_)
  have hu : (A.deeper (envOfC "_law_low" (defScope zs_L_low) s.heap.objs.size f cdv)).units + 65 < cLine := by have := hr.un; omega
  exact (ds_cons (ds_par 2 3 rfl sc.nd (d_callB (cd_abs) T.b_abs (da_cons (d_var 0) da_nil)) (d_callB (cd_abs) T.b_abs (da_cons (d_var 1) da_nil)))
  (ds_cons (ds_while (passes_of rfl) (db_cmp (od_ne (Nat.lt_of_succ_lt hu)) (d_var 3) d_int) (ds_one (ds_par 2 3 rfl sc.nd (d_var 3) (d_op od_mod (d_var 2) (d_var 3)))))
  (ds_cons (ds_set 2 sc.nd (d_if (db_cmp (od_gt) (d_var 1) d_int) (d_var 2) (d_op od_sub d_int (d_var 2))))
  (ds_one (ds_ret (d_tup (da_cons (d_op od_fdiv (d_var 0) (d_var 2)) (da_cons (d_op od_fdiv (d_var 1) (d_var 2)) da_nil))))))))
abbrev zs_L_number : Stmt := top 40
abbrev n_L_number : List Str := ["_law_urn_here", "_law_size"]
theorem sc_L_number : FnScope n_L_number ["_law_urn_here"] (defScope zs_L_number) := ⟨rfl, rfl, rfl, by decide +kernel, rfl, by decide +kernel, by decide +kernel⟩
theorem ok_L_number {f : Addr} {fd : FuncData} (F : Fun K "_law_number" "_law_number" zs_L_number f fd) (hm : mg "_law_number" = some (.ref f)) (T : Top K mg) (ND : base.NoDigits) (c_L_low : Cal P w K mg base 2 "_law_low" 2 m_L_low) (c_L_pull : Cal P w K mg base 3 "_law_pull" 2 m_L_pull) (c_L_item : Cal P w K mg base 4 "_law_item" 2 m_L_item) : Cal P w K mg base 5 "_law_number" 1 m_L_number := by
  have sc := sc_L_number
  refine cal_mk hm F (fun _ _ _ _ _ _ us hl => match us, hl with | [_], _ => rfl) (fn_ofD (k := 4) F sc fun cdv A outer s H E W hr hg tk => ?_)
  have hu : (A.deeper (envOfC "_law_number" (defScope zs_L_number) s.heap.objs.size f cdv)).units + 65 < cLine := by have := hr.un; omega
  exact (ds_cons (ds_set 1 sc.nd (d_call c_L_item (hr.mono (by decide)) hg tk (da_cons (d_var 0) (da_cons (d_lst (da_cons d_int (da_cons d_int (da_cons d_int (da_cons d_int (da_cons d_int da_nil)))))) da_nil))))
  (ds_one (ds_ret (d_call c_L_low (hr.mono (by decide)) hg tk (da_cons (d_op od_sub (d_call c_L_pull (hr.mono (by decide)) hg tk (da_cons (d_var 0) (da_cons (d_op od_add (d_op od_mul d_int (d_var 1)) d_int) da_nil))) (d_var 1)) (da_cons (d_op od_add d_int (d_call c_L_pull (hr.mono (by decide)) hg tk (da_cons (d_var 0) (da_cons (d_call c_L_item (hr.mono (by decide)) hg tk (da_cons (d_var 0) (da_cons (d_lst (da_cons d_int (da_cons d_int (da_cons d_int (da_cons (d_var 1) da_nil))))) da_nil))) da_nil)))) da_nil))))))
abbrev zs_L_mixed : Stmt := top 45
abbrev n_L_mixed : List Str := ["_law_urn_here", "_law_items", "_law_rest", "_law_found"]
theorem sc_L_mixed : FnScope n_L_mixed ["_law_urn_here", "_law_items"] (defScope zs_L_mixed) := ⟨rfl, rfl, rfl, by decide +kernel, rfl, by decide +kernel, by decide +kernel⟩
theorem ok_L_mixed {f : Addr} {fd : FuncData} (F : Fun K "_law_mixed" "_law_mixed" zs_L_mixed f fd) (hm : mg "_law_mixed" = some (.ref f)) (T : Top K mg) (ND : base.NoDigits) (c_L_pull : Cal P w K mg base 3 "_law_pull" 2 m_L_pull) : Cal P w K mg base 4 "_law_mixed" 2 m_L_mixed := by
  have sc := sc_L_mixed
  refine cal_mk hm F (fun _ _ _ _ _ _ us hl => match us, hl with | [_, _], _ => rfl) (fn_ofD (k := 3) F sc fun cdv A outer s H E W hr hg tk => ?_)
  have hu : (A.deeper (envOfC "_law_mixed" (defScope zs_L_mixed) s.heap.objs.size f cdv)).units + 65 < cLine := by have := hr.un; omega
  exact (ds_cons (ds_par 2 3 rfl sc.nd (d_callT (cd_listN) T.b_list (da_cons (d_var 1) da_nil)) (d_new da_nil))
  (ds_cons (ds_while (passes_of rfl) (db_cmp (od_ne (Nat.lt_of_succ_lt hu)) (d_var 2) (d_lst da_nil)) (ds_one (ds_expr (d_met md_append PySem.F.plainAttrs_list PySem.F.slot_list_append PySem.F.type_list_append (d_var 3) (da_cons (d_met md_pop PySem.F.plainAttrs_list PySem.F.slot_list_pop PySem.F.type_list_pop (d_var 2) (da_cons (d_call c_L_pull (hr.mono (by decide)) hg tk (da_cons (d_var 0) (da_cons (d_callB (cd_len) T.b_len (da_cons (d_var 2) da_nil)) da_nil))) da_nil)) da_nil)))))
  (ds_one (ds_ret (d_frz (d_var 3))))))
abbrev zs_L_plan : Stmt := top 44
abbrev n_L_plan : List Str := ["_law_urn_here", "_law_lines_here", "_law_many", "_law_rules", "_law_k", "_law_conditions", "_law_line", "_law_drift"]
theorem sc_L_plan : FnScope n_L_plan ["_law_urn_here", "_law_lines_here", "_law_many"] (defScope zs_L_plan) := ⟨rfl, rfl, rfl, by decide +kernel, rfl, by decide +kernel, by decide +kernel⟩
theorem ok_L_plan {f : Addr} {fd : FuncData} (F : Fun K "_law_plan" "_law_plan" zs_L_plan f fd) (hm : mg "_law_plan" = some (.ref f)) (T : Top K mg) (ND : base.NoDigits) (c_L_number : Cal P w K mg base 5 "_law_number" 1 m_L_number) (c_L_mixed : Cal P w K mg base 4 "_law_mixed" 2 m_L_mixed) (c_L_pull : Cal P w K mg base 3 "_law_pull" 2 m_L_pull) (c_L_item : Cal P w K mg base 4 "_law_item" 2 m_L_item) : Cal P w K mg base 6 "_law_plan" 3 m_L_plan := by
  have sc := sc_L_plan
  refine cal_mk hm F (fun _ _ _ _ _ _ us hl => match us, hl with | [_, _, _], _ => rfl) (fn_ofD (k := 5) F sc fun cdv A outer s H E W hr hg tk => ?_)
  have hu : (A.deeper (envOfC "_law_plan" (defScope zs_L_plan) s.heap.objs.size f cdv)).units + 65 < cLine := by have := hr.un; omega
  exact (ds_cons (ds_set 3 sc.nd (d_new da_nil))
  (ds_cons (ds_for (passes_of rfl) rfl (di_range1 T.b_range (d_var 2)) (dg_name 4 sc.nd) (ds_cons (ds_set 5 sc.nd (d_new da_nil))
  (ds_cons (ds_for (passes_of rfl) rfl (di_seq (d_var 1)) (dg_name 6 sc.nd) (ds_one (ds_if (db_cmp (od_eq (Nat.lt_of_succ_lt hu)) (d_call c_L_pull (hr.mono (by decide)) hg tk (da_cons (d_var 0) (da_cons d_int da_nil))) d_int) (ds_one (ds_expr (d_met md_append PySem.F.plainAttrs_list PySem.F.slot_list_append PySem.F.type_list_append (d_var 5) (da_cons (d_tup (da_cons (d_ix (d_var 6) d_int) (da_cons (d_call c_L_item (hr.mono (by decide)) hg tk (da_cons (d_var 0) (da_cons (d_lst (da_cons d_int (da_cons (d_op od_sub d_int d_int) da_nil))) da_nil))) da_nil))) da_nil)))) ds_nil)))
  (ds_cons (ds_set 7 sc.nd (d_tup (da_cons (d_call c_L_number (hr.mono (by decide)) hg tk (da_cons (d_var 0) da_nil)) (da_cons (d_call c_L_number (hr.mono (by decide)) hg tk (da_cons (d_var 0) da_nil)) da_nil))))
  (ds_one (ds_if (db_cmp (od_ne (Nat.lt_of_succ_lt hu)) (d_var 5) (d_lst da_nil)) (ds_one (ds_expr (d_met md_append PySem.F.plainAttrs_list PySem.F.slot_list_append PySem.F.type_list_append (d_var 3) (da_cons (d_tup (da_cons (d_var 7) (da_cons (d_callT (cd_tuple) T.b_tuple (da_cons (d_call c_L_mixed (hr.mono (by decide)) hg tk (da_cons (d_var 0) (da_cons (d_var 5) da_nil))) da_nil)) da_nil))) da_nil)))) ds_nil))))))
  (ds_one (ds_ret (d_tup (da_cons (d_var 1) (da_cons (d_op od_add (d_callT (cd_tuple) T.b_tuple (da_cons (d_var 3) da_nil)) (d_tup (da_cons (d_tup (da_cons (d_tup (da_cons (d_call c_L_number (hr.mono (by decide)) hg tk (da_cons (d_var 0) da_nil)) (da_cons (d_call c_L_number (hr.mono (by decide)) hg tk (da_cons (d_var 0) da_nil)) da_nil))) (da_cons (d_tup da_nil) da_nil))) da_nil))) da_nil)))))))
abbrev zs_L_names : Stmt := top 42
abbrev n_L_names : List Str := ["_law_urn_here", "_law_many", "_law_letters", "_law_head", "_law_tail", "_law_first", "_law_own", "_law_k"]
theorem sc_L_names : FnScope n_L_names ["_law_urn_here", "_law_many"] (defScope zs_L_names) := ⟨rfl, rfl, rfl, by decide +kernel, rfl, by decide +kernel, by decide +kernel⟩
theorem ok_L_names {f : Addr} {fd : FuncData} (F : Fun K "_law_names" "_law_names" zs_L_names f fd) (hm : mg "_law_names" = some (.ref f)) (T : Top K mg) (ND : base.NoDigits) (c_L_pull : Cal P w K mg base 3 "_law_pull" 2 m_L_pull) (c_L_item : Cal P w K mg base 4 "_law_item" 2 m_L_item) : Cal P w K mg base 5 "_law_names" 2 m_L_names := by
  have sc := sc_L_names
  refine cal_mk hm F (fun _ _ _ _ _ _ us hl => match us, hl with | [_, _], _ => rfl) (fn_ofD (k := 4) F sc fun cdv A outer s H E W hr hg tk => ?_)
  have hu : (A.deeper (envOfC "_law_names" (defScope zs_L_names) s.heap.objs.size f cdv)).units + 65 < cLine := by have := hr.un; omega
  exact (ds_cons (ds_set 2 sc.nd d_str)
  (ds_cons (ds_set 3 sc.nd (d_join d_str (d_lc (own := [("_law_k", 7)]) finL_fz rfl sc.nd (di_range1 T.b_range (d_call c_L_pull (hr.mono (by decide)) hg tk (da_cons (d_var 0) (da_cons d_int da_nil)))) (blkOk_by (N := n_L_names) (sc := defScope zs_L_names) (by decide +kernel)) (fun _ _ _ _ _ => (dgw_name 7 (by decide) sc.nd)) (fun _ _ _ _ _ => dt_nil) (fun _ _ _ _ _ => (d_call c_L_item (hr.mono (by decide)) hg takes0 (da_cons (d_var 0) (da_cons (d_callT (cd_listT rfl cd_list) T.b_list (da_cons (d_var 2) da_nil)) da_nil)))))))
  (ds_cons (ds_set 4 sc.nd (d_join d_str (d_lc (own := [("_law_k", 7)]) finL_fz rfl sc.nd (di_range1 T.b_range (d_call c_L_pull (hr.mono (by decide)) hg tk (da_cons (d_var 0) (da_cons d_int da_nil)))) (blkOk_by (N := n_L_names) (sc := defScope zs_L_names) (by decide +kernel)) (fun _ _ _ _ _ => (dgw_name 7 (by decide) sc.nd)) (fun _ _ _ _ _ => dt_nil) (fun _ _ _ _ _ => (d_call c_L_item (hr.mono (by decide)) hg takes0 (da_cons (d_var 0) (da_cons (d_callT (cd_listT rfl cd_list) T.b_list (da_cons (d_op od_add (d_var 2) d_str) da_nil)) da_nil)))))))
  (ds_cons (ds_set 5 sc.nd (d_call c_L_pull (hr.mono (by decide)) hg tk (da_cons (d_var 0) (da_cons d_int da_nil))))
  (ds_cons (ds_set 6 sc.nd (d_lst (da_cons (d_lst (da_cons d_str (da_cons d_str (da_cons d_str (da_cons d_str (da_cons d_str (da_cons d_str da_nil))))))) (da_cons (d_lst (da_cons d_str (da_cons d_str (da_cons d_str (da_cons d_str (da_cons d_str (da_cons d_str da_nil))))))) da_nil))))
  (ds_cons (ds_if (db_cmp (od_eq (Nat.lt_of_succ_lt hu)) (d_call c_L_pull (hr.mono (by decide)) hg tk (da_cons (d_var 0) (da_cons d_int da_nil))) d_int) (ds_one (ds_ret (d_sl (d_call c_L_item (hr.mono (by decide)) hg tk (da_cons (d_var 0) (da_cons (d_var 6) da_nil))) do_none (do_some (d_var 1))))) ds_nil)
  (ds_one (ds_ret (d_lc (own := [("_law_k", 7)]) finL_fz rfl sc.nd (di_range1 T.b_range (d_var 1)) (blkOk_by (N := n_L_names) (sc := defScope zs_L_names) (by decide +kernel)) (fun _ _ _ _ _ => (dgw_name 7 (by decide) sc.nd)) (fun _ _ _ _ _ => dt_nil) (fun _ _ _ _ _ => (d_op od_add (d_op od_add (d_op od_add (d_var 3) (d_ix (d_var 2) (d_op od_mod (d_op od_add (d_var 5) (d_op od_mul d_int (d_var 7))) d_int))) (d_var 4)) d_str)))))))))))
abbrev zs_L_product : Stmt := top 37
abbrev n_L_product : List Str := ["_law_one", "_law_other"]
theorem sc_L_product : FnScope n_L_product ["_law_one", "_law_other"] (defScope zs_L_product) := ⟨rfl, rfl, rfl, by decide +kernel, rfl, by decide +kernel, by decide +kernel⟩
theorem ok_L_product {f : Addr} {fd : FuncData} (F : Fun K "_law_product" "_law_product" zs_L_product f fd) (hm : mg "_law_product" = some (.ref f)) (T : Top K mg) (ND : base.NoDigits) (c_L_low : Cal P w K mg base 2 "_law_low" 2 m_L_low) : Cal P w K mg base 3 "_law_product" 2 m_L_product := by
  have sc := sc_L_product
  refine cal_mk hm F (fun _ _ _ _ _ _ us hl => match us, hl with | [_, _], _ => rfl) (fn_ofD (k := 2) F sc fun cdv A outer s H E W hr hg tk => ?_)
  have hu : (A.deeper (envOfC "_law_product" (defScope zs_L_product) s.heap.objs.size f cdv)).units + 65 < cLine := by have := hr.un; omega
  exact (ds_one (ds_ret (d_call c_L_low (hr.mono (by decide)) hg tk (da_cons (d_op od_mul (d_ix (d_var 0) d_int) (d_ix (d_var 1) d_int)) (da_cons (d_op od_mul (d_ix (d_var 0) d_int) (d_ix (d_var 1) d_int)) da_nil)))))
abbrev zs_L_same_place : Stmt := top 41
abbrev n_L_same_place : List Str := ["_law_one", "_law_other", "_law_i", "_law_j", "_law_first"]
theorem sc_L_same_place : FnScope n_L_same_place ["_law_one", "_law_other"] (defScope zs_L_same_place) := ⟨rfl, rfl, rfl, by decide +kernel, rfl, by decide +kernel, by decide +kernel⟩
theorem ok_L_same_place {f : Addr} {fd : FuncData} (F : Fun K "_law_same_place" "_law_same_place" zs_L_same_place f fd) (hm : mg "_law_same_place" = some (.ref f)) (T : Top K mg) (ND : base.NoDigits) (c_L_product : Cal P w K mg base 3 "_law_product" 2 m_L_product) : Cal P w K mg base 4 "_law_same_place" 2 m_L_same_place := by
  have sc := sc_L_same_place
  refine cal_mk hm F (fun _ _ _ _ _ _ us hl => match us, hl with | [_, _], _ => rfl) (fn_ofD (k := 3) F sc fun cdv A outer s H E W hr hg tk => ?_)
  have hu : (A.deeper (envOfC "_law_same_place" (defScope zs_L_same_place) s.heap.objs.size f cdv)).units + 65 < cLine := by have := hr.un; omega
  exact (ds_cons (ds_for (passes_of rfl) rfl (di_seq (d_lst (da_cons (d_tup (da_cons d_int (da_cons d_int da_nil))) (da_cons (d_tup (da_cons d_int (da_cons d_int da_nil))) (da_cons (d_tup (da_cons d_int (da_cons d_int da_nil))) da_nil))))) (dg_tup rfl (dgs_cons (dg_name 2 sc.nd) (dgs_cons (dg_name 3 sc.nd) dgs_nil))) (ds_cons (ds_set 4 sc.nd (d_call c_L_product (hr.mono (by decide)) hg tk (da_cons (d_ix (d_var 0) (d_var 2)) (da_cons (d_ix (d_var 1) (d_var 3)) da_nil))))
  (ds_one (ds_if (db_cmp (od_ne (Nat.lt_of_succ_lt hu)) (d_var 4) (d_call c_L_product (hr.mono (by decide)) hg tk (da_cons (d_ix (d_var 0) (d_var 3)) (da_cons (d_ix (d_var 1) (d_var 2)) da_nil)))) (ds_one (ds_ret d_bl)) ds_nil))))
  (ds_one (ds_ret d_bl)))
abbrev zs_L_lines : Stmt := top 43
abbrev n_L_lines : List Str := ["_law_urn_here", "_law_many", "_law_found", "_law_name", "_law_a", "_law_b", "_law_c", "_law_kind", "_law_fresh", "_law_k", "_law_line"]
theorem sc_L_lines : FnScope n_L_lines ["_law_urn_here", "_law_many"] (defScope zs_L_lines) := ⟨rfl, rfl, rfl, by decide +kernel, rfl, by decide +kernel, by decide +kernel⟩
theorem ok_L_lines {f : Addr} {fd : FuncData} (F : Fun K "_law_lines" "_law_lines" zs_L_lines f fd) (hm : mg "_law_lines" = some (.ref f)) (T : Top K mg) (ND : base.NoDigits) (c_L_names : Cal P w K mg base 5 "_law_names" 2 m_L_names) (c_L_same_place : Cal P w K mg base 4 "_law_same_place" 2 m_L_same_place) (c_L_pull : Cal P w K mg base 3 "_law_pull" 2 m_L_pull) (c_L_number : Cal P w K mg base 5 "_law_number" 1 m_L_number) : Cal P w K mg base 6 "_law_lines" 2 m_L_lines := by
  have sc := sc_L_lines
  refine cal_mk hm F (fun _ _ _ _ _ _ us hl => match us, hl with | [_, _], _ => rfl) (fn_ofD (k := 5) F sc fun cdv A outer s H E W hr hg tk => ?_)
  have hu : (A.deeper (envOfC "_law_lines" (defScope zs_L_lines) s.heap.objs.size f cdv)).units + 65 < cLine := by have := hr.un; omega
  exact (ds_cons (ds_set 2 sc.nd (d_new da_nil))
  (ds_cons (ds_for (passes_of rfl) rfl (di_seq (d_call c_L_names (hr.mono (by decide)) hg tk (da_cons (d_var 0) (da_cons (d_var 1) da_nil)))) (dg_name 3 sc.nd) (ds_cons (ds_asg (dg_tup rfl (dgs_cons (dg_name 4 sc.nd) (dgs_cons (dg_name 5 sc.nd) (dgs_cons (dg_name 6 sc.nd) dgs_nil)))) (d_lc (own := [("_law_k", 9)]) finL_fz rfl sc.nd (di_range1 T.b_range d_int) (blkOk_by (N := n_L_lines) (sc := defScope zs_L_lines) (by decide +kernel)) (fun _ _ _ _ _ => (dgw_name 9 (by decide) sc.nd)) (fun _ _ _ _ _ => dt_nil) (fun _ _ _ _ _ => (d_call c_L_number (hr.mono (by decide)) hg takes0 (da_cons (d_var 0) da_nil)))))
  (ds_cons (ds_set 7 sc.nd (d_call c_L_pull (hr.mono (by decide)) hg tk (da_cons (d_var 0) (da_cons d_int da_nil))))
  (ds_cons (ds_asg (dg_tup rfl (dgs_cons (dg_name 4 sc.nd) (dgs_cons (dg_name 5 sc.nd) dgs_nil))) (d_if (db_cmp (od_eq (Nat.lt_of_succ_lt hu)) (d_var 7) d_int) (d_tup (da_cons (d_tup (da_cons d_int (da_cons d_int da_nil))) (da_cons (d_tup (da_cons d_int (da_cons d_int da_nil))) da_nil))) (d_if (db_cmp (od_eq (Nat.lt_of_succ_lt hu)) (d_var 7) d_int) (d_tup (da_cons (d_tup (da_cons d_int (da_cons d_int da_nil))) (da_cons (d_tup (da_cons d_int (da_cons d_int da_nil))) da_nil))) (d_tup (da_cons (d_var 4) (da_cons (d_var 5) da_nil))))))
  (ds_cons (ds_set 6 sc.nd (d_if (db_cmp (od_eq (Nat.lt_of_succ_lt hu)) (d_call c_L_pull (hr.mono (by decide)) hg tk (da_cons (d_var 0) (da_cons d_int da_nil))) d_int) (d_tup (da_cons d_int (da_cons d_int da_nil))) (d_var 6)))
  (ds_cons (ds_set 8 sc.nd (d_tup (da_cons (d_var 4) (da_cons (d_var 5) (da_cons (d_var 6) da_nil)))))
  (ds_one (ds_if (db_bool (dw_and (db_cmp (od_ne (Nat.lt_of_succ_lt hu)) (d_tup (da_cons (d_var 4) (da_cons (d_var 5) da_nil))) (d_tup (da_cons (d_tup (da_cons d_int (da_cons d_int da_nil))) (da_cons (d_tup (da_cons d_int (da_cons d_int da_nil))) da_nil)))) (dw_and1 (db_cmp (od_eq (Nat.lt_of_succ_lt hu)) (d_lcS (own := [("_law_line", 10)]) finL_fz rfl sc.nd (d_var 2) (blkOk_by (N := n_L_lines) (sc := defScope zs_L_lines) (by decide +kernel)) (fun _ _ _ _ _ => (dgw_name 10 (by decide) sc.nd)) (fun _ _ _ _ _ => (dt_one (db_val (d_call c_L_same_place (hr.mono (by decide)) hg takes0 (da_cons (d_var 8) (da_cons (d_sl (d_var 10) (do_some d_int) do_none) da_nil)))))) (fun _ _ _ _ _ => d_int)) (d_lst da_nil))))) (ds_one (ds_expr (d_met md_append PySem.F.plainAttrs_list PySem.F.slot_list_append PySem.F.type_list_append (d_var 2) (da_cons (d_op od_add (d_tup (da_cons (d_var 3) da_nil)) (d_var 8)) da_nil)))) ds_nil))))))))
  (ds_one (ds_ret (d_callT (cd_tuple) T.b_tuple (da_cons (d_var 2) da_nil))))))
abbrev zs_L_urn : Stmt := top 31
abbrev n_L_urn : List Str := ["_law_script", "_law_numbers", "_law_at", "_law_one"]
theorem sc_L_urn : FnScope n_L_urn ["_law_script"] (defScope zs_L_urn) := ⟨rfl, rfl, rfl, by decide +kernel, rfl, by decide +kernel, by decide +kernel⟩
theorem ok_L_urn {f : Addr} {fd : FuncData} (F : Fun K "_law_urn" "_law_urn" zs_L_urn f fd) (hm : mg "_law_urn" = some (.ref f)) (T : Top K mg) (ND : base.NoDigits) : Cal P w K mg base 2 "_law_urn" 1 m_L_urn := by
  have sc := sc_L_urn
  refine cal_mk hm F (fun _ _ _ _ _ _ us hl => match us, hl with | [_], _ => rfl) (fn_ofD (k := 1) F sc fun cdv A outer s H E W hr hg tk => ?_)
  have hu : (A.deeper (envOfC "_law_urn" (defScope zs_L_urn) s.heap.objs.size f cdv)).units + 65 < cLine := by have := hr.un; omega
  exact (ds_cons (ds_setLc (own := [("_law_one", 3)]) finL_pl 1 rfl sc.nd (di_seq (d_sl (d_var 0) do_none (do_some d_int))) (blkOk_by (N := n_L_urn) (sc := defScope zs_L_urn) (by decide +kernel)) (fun _ _ _ _ _ => (dgw_name 3 (by decide) sc.nd)) (fun _ _ _ _ _ => dt_nil) (fun _ _ _ _ _ => (d_callB (cd_abs) T.b_abs (da_cons (d_var 3) da_nil))) (sw_true rfl rfl rfl (by decide +kernel)))
  (ds_cons (ds_for (passes_of rfl) rfl (di_enum T.b_enumerate (d_sl (d_var 0) (do_some d_int) (do_some d_int))) (dg_tup rfl (dgs_cons (dg_name 2 sc.nd) (dgs_cons (dg_name 3 sc.nd) dgs_nil))) (ds_one (ds_asg (dg_sub (W := W) (d_var 1) (d_op od_mod (d_var 2) d_int)) (d_op od_add (d_ix (d_var 1) (d_op od_mod (d_var 2) d_int)) (d_callB (cd_abs) T.b_abs (da_cons (d_var 3) da_nil))))))
  (ds_one (ds_ret (d_new (da_cons (d_frz (d_var 1)) (da_cons d_int (da_cons d_int da_nil))))))))
abbrev zs_law : Stmt := top 51
abbrev n_law : List Str := ["_law_script", "_law_urn_here", "_law_turn", "_law_lines_here", "_law_plan_here", "_law_text", "_law_many", "_law_wide"]
theorem sc_law : FnScope n_law ["_law_script"] (defScope zs_law) := ⟨rfl, rfl, rfl, by decide +kernel, rfl, by decide +kernel, by decide +kernel⟩
theorem ok_law {f : Addr} {fd : FuncData} (F : Fun K "law" "law" zs_law f fd) (hm : mg "law" = some (.ref f)) (T : Top K mg) (ND : base.NoDigits) (c_L_twin : Cal P w K mg base 2 "_law_twin" 2 m_L_twin) (c_parse_plan : Cal P w K mg base 8 "parse_plan" 1 m_parse_plan) (c_L_item : Cal P w K mg base 4 "_law_item" 2 m_L_item) (c_L_laid : Cal P w K mg base 6 "_law_laid" 2 m_L_laid) (c_L_plan_lines : Cal P w K mg base 6 "_law_plan_lines" 2 m_L_plan_lines) (c_L_plan : Cal P w K mg base 6 "_law_plan" 3 m_L_plan) (c_L_pull : Cal P w K mg base 3 "_law_pull" 2 m_L_pull) (c_L_lines : Cal P w K mg base 6 "_law_lines" 2 m_L_lines) (c_L_urn : Cal P w K mg base 2 "_law_urn" 1 m_L_urn) : FnD P w K mg base 9 f fd ["_law_script"] m_law := by
  have sc := sc_law
  refine fn_ofD (k := 8) F sc fun cdv A outer s H E W hr hg tk => ?_
  have hu : (A.deeper (envOfC "law" (defScope zs_law) s.heap.objs.size f cdv)).units + 65 < cLine := by have := hr.un; omega
  exact (ds_cons (ds_set 1 sc.nd (d_call c_L_urn (hr.mono (by decide)) hg tk (da_cons (d_var 0) da_nil)))
  (ds_cons (ds_for (passes_of rfl) rfl (di_range1 T.b_range d_int) (dg_name 2 sc.nd) (ds_cons (ds_set 3 sc.nd (d_call c_L_lines (hr.mono (by decide)) hg tk (da_cons (d_var 1) (da_cons (d_call c_L_pull (hr.mono (by decide)) hg tk (da_cons (d_var 1) (da_cons d_int da_nil))) da_nil))))
  (ds_cons (ds_set 4 sc.nd (d_call c_L_plan (hr.mono (by decide)) hg tk (da_cons (d_var 1) (da_cons (d_var 3) (da_cons (d_call c_L_pull (hr.mono (by decide)) hg tk (da_cons (d_var 1) (da_cons d_int da_nil))) da_nil)))))
  (ds_cons (ds_set 5 sc.nd (d_call c_L_laid (hr.mono (by decide)) hg tk (da_cons (d_var 1) (da_cons (d_call c_L_plan_lines (hr.mono (by decide)) hg tk (da_cons (d_var 1) (da_cons (d_var 4) da_nil))) da_nil))))
  (ds_cons (ds_if (db_not (db_val (d_call c_L_twin (hr.mono (by decide)) hg tk (da_cons (d_call c_parse_plan (hr.mono (by decide)) hg tk (da_cons (d_var 5) da_nil)) (da_cons (d_var 4) da_nil))))) (ds_one (ds_ret d_bl)) ds_nil)
  (ds_cons (ds_set 6 sc.nd (d_op od_sub d_int (d_callB (cd_len) T.b_len (da_cons (d_var 5) da_nil))))
  (ds_cons (ds_set 7 sc.nd (d_call c_L_item (hr.mono (by decide)) hg tk (da_cons (d_var 1) (da_cons (d_lst (da_cons (d_op (od_mulT od_mulS) d_str (d_var 6)) (da_cons (d_op od_add d_str (d_op (od_mulT od_mulS) d_str (d_var 6))) (da_cons d_str (da_cons (d_op (od_mulT od_mulS) d_str d_int) da_nil))))) da_nil))))
  (ds_one (ds_if (db_not (db_val (d_call c_L_twin (hr.mono (by decide)) hg tk (da_cons (d_call c_parse_plan (hr.mono (by decide)) hg tk (da_cons (d_op od_add (d_var 5) (d_var 7)) da_nil)) (da_cons (d_var 4) da_nil))))) (ds_one (ds_ret d_bl)) ds_nil)))))))))
  (ds_one (ds_ret d_bl))))
end
end DL

namespace DL
open PySem PySem.Spec PyProof.Rows L2
theorem all_mk {l : PySem.W.OpenLaw} {w : World} {K : PySem.W.Frag} {h : Heap} {mg : Str → Option Value} {fa : Addr} (X : K.In h) (G : h.Ns mainGlobals mg) (hfa : mg "law" = some (.ref fa))
    (d_L_twin : DefK K "_law_twin" zs_L_twin)
    (d_LineParser_peek : MthK K "LineParser" "peek" "LineParser.peek" zs_LineParser_peek)
    (d_LineParser_accept : MthK K "LineParser" "accept" "LineParser.accept" zs_LineParser_accept)
    (d_LineParser_fail : MthK K "LineParser" "fail" "LineParser.fail" zs_LineParser_fail)
    (d_LineParser_take : MthK K "LineParser" "take" "LineParser.take" zs_LineParser_take)
    (d_greatest_divisor : DefK K "greatest_divisor" zs_greatest_divisor)
    (d_fraction : DefK K "fraction" zs_fraction)
    (d_minus : DefK K "minus" zs_minus)
    (d_times : DefK K "times" zs_times)
    (d_is_same_line : DefK K "is_same_line" zs_is_same_line)
    (d_LineParser_signed_fraction : MthK K "LineParser" "signed_fraction" "LineParser.signed_fraction" zs_LineParser_signed_fraction)
    (d_LineParser_straight_line : MthK K "LineParser" "straight_line" "LineParser.straight_line" zs_LineParser_straight_line)
    (d_LineParser_conditions : MthK K "LineParser" "conditions" "LineParser.conditions" zs_LineParser_conditions)
    (d_LineParser_rule : MthK K "LineParser" "rule" "LineParser.rule" zs_LineParser_rule)
    (d_Token_init : MakK K "Token" "Token.__init__" zs_Token_init)
    (d_end_of_run : DefK K "end_of_run" zs_end_of_run)
    (d_token_at : DefK K "token_at" zs_token_at)
    (d_tokens_of : DefK K "tokens_of" zs_tokens_of)
    (d_LineParser_init : MakK K "LineParser" "LineParser.__init__" zs_LineParser_init)
    (d_parse_plan : DefK K "parse_plan" zs_parse_plan)
    (d_L_blown : DefK K "_law_blown" zs_L_blown)
    (d_L_pull : DefK K "_law_pull" zs_L_pull)
    (d_L_item : DefK K "_law_item" zs_L_item)
    (d_L_spaced : DefK K "_law_spaced" zs_L_spaced)
    (d_L_laid : DefK K "_law_laid" zs_L_laid)
    (d_L_condition_tokens : DefK K "_law_condition_tokens" zs_L_condition_tokens)
    (d_L_number_tokens : DefK K "_law_number_tokens" zs_L_number_tokens)
    (d_L_plan_lines : DefK K "_law_plan_lines" zs_L_plan_lines)
    (d_L_low : DefK K "_law_low" zs_L_low)
    (d_L_number : DefK K "_law_number" zs_L_number)
    (d_L_mixed : DefK K "_law_mixed" zs_L_mixed)
    (d_L_plan : DefK K "_law_plan" zs_L_plan)
    (d_L_names : DefK K "_law_names" zs_L_names)
    (d_L_product : DefK K "_law_product" zs_L_product)
    (d_L_same_place : DefK K "_law_same_place" zs_L_same_place)
    (d_L_lines : DefK K "_law_lines" zs_L_lines)
    (d_L_urn : DefK K "_law_urn" zs_L_urn)
    (d_law : DefK K "law" zs_law)
    (a_column : Each (FldPK K "column") cs_column)
    (a_index : Each (FldPK K "index") cs_index)
    (a_kind : Each (FldPK K "kind") cs_kind)
    (a_names : Each (FldPK K "names") cs_names)
    (a_row : Each (FldPK K "row") cs_row)
    (a_spelling : Each (FldPK K "spelling") cs_spelling)
    (a_tokens : Each (FldPK K "tokens") cs_tokens)
    (b_abs : PySem.W.nsIn K mainGlobals "abs" = some none)
    (b_all : PySem.W.nsIn K mainGlobals "all" = some none)
    (b_any : PySem.W.nsIn K mainGlobals "any" = some none)
    (b_enumerate : PySem.W.nsIn K mainGlobals "enumerate" = some none)
    (b_int : PySem.W.nsIn K mainGlobals "int" = some none)
    (b_len : PySem.W.nsIn K mainGlobals "len" = some none)
    (b_list : PySem.W.nsIn K mainGlobals "list" = some none)
    (b_max : PySem.W.nsIn K mainGlobals "max" = some none)
    (b_range : PySem.W.nsIn K mainGlobals "range" = some none)
    (b_repr : PySem.W.nsIn K mainGlobals "repr" = some none)
    (b_str : PySem.W.nsIn K mainGlobals "str" = some none)
    (b_tuple : PySem.W.nsIn K mainGlobals "tuple" = some none)
    (x_ZeroDivisor : ExcK K "ZeroDivisor")
    (g_DIGITS : GlobK K "DIGITS" k_DIGITS)
    (g_END : GlobK K "END" k_END)
    (g_KEYWORDS : GlobK K "KEYWORDS" k_KEYWORDS)
    (g_MAX_DIGITS : GlobK K "MAX_DIGITS" k_MAX_DIGITS)
    (g_MAX_ITEMS : GlobK K "MAX_ITEMS" k_MAX_ITEMS)
    (g_MAX_LINES : GlobK K "MAX_LINES" k_MAX_LINES)
    (g_MAX_NAME : GlobK K "MAX_NAME" k_MAX_NAME)
    (g_MAX_RULES : GlobK K "MAX_RULES" k_MAX_RULES)
    (g_MAX_TOKENS : GlobK K "MAX_TOKENS" k_MAX_TOKENS)
    (g_SMALL : GlobK K "SMALL" k_SMALL)
    (g_SYMBOLS : GlobK K "SYMBOLS" k_SYMBOLS)
    (g_ZERO : GlobK K "ZERO" k_ZERO)
    (n_SyntaxProblem : InitK K "SyntaxProblem" "SyntaxProblem.__init__" zi_SyntaxProblem ["line", "column"])
    (y_SlopeError : BaseK K "SlopeError")
    : ∃ fd : FuncData, (∀ (s : Shared) (v : Value), BindsTo s fd ⟨[v], []⟩ [("_law_script", v)]) ∧ ∀ base : Heap, K.In base → base.Ns mainGlobals mg → base.NoDigits → FnD l.prog w K mg base 9 fa fd ["_law_script"] m_law := by
  have T : Top K mg := { b_abs := PySem.W.mg_none_of X G b_abs, b_all := PySem.W.mg_none_of X G b_all, b_any := PySem.W.mg_none_of X G b_any, b_enumerate := PySem.W.mg_none_of X G b_enumerate, b_int := PySem.W.mg_none_of X G b_int, b_len := PySem.W.mg_none_of X G b_len, b_list := PySem.W.mg_none_of X G b_list, b_max := PySem.W.mg_none_of X G b_max, b_range := PySem.W.mg_none_of X G b_range, b_repr := PySem.W.mg_none_of X G b_repr, b_str := PySem.W.mg_none_of X G b_str, b_tuple := PySem.W.mg_none_of X G b_tuple, x_ZeroDivisor := x_ZeroDivisor.exc X G, g_DIGITS := g_DIGITS.glob X G, g_END := g_END.glob X G, g_KEYWORDS := g_KEYWORDS.glob X G, g_MAX_DIGITS := g_MAX_DIGITS.glob X G, g_MAX_ITEMS := g_MAX_ITEMS.glob X G, g_MAX_LINES := g_MAX_LINES.glob X G, g_MAX_NAME := g_MAX_NAME.glob X G, g_MAX_RULES := g_MAX_RULES.glob X G, g_MAX_TOKENS := g_MAX_TOKENS.glob X G, g_SMALL := g_SMALL.glob X G, g_SYMBOLS := g_SYMBOLS.glob X G, g_ZERO := g_ZERO.glob X G, a_column := fldD_of X G a_column, a_index := fldD_of X G a_index, a_kind := fldD_of X G a_kind, a_names := fldD_of X G a_names, a_row := fldD_of X G a_row, a_spelling := fldD_of X G a_spelling, a_tokens := fldD_of X G a_tokens, triv := trivial }
  obtain ⟨_, _, _, _, _, _, _, _, _, _, _, m1_SyntaxProblem, m2_SyntaxProblem, m3_SyntaxProblem, m4_SyntaxProblem, m5_SyntaxProblem, m6_SyntaxProblem, m7_SyntaxProblem, m8_SyntaxProblem⟩ := n_SyntaxProblem
  obtain ⟨f_L_twin, fd_L_twin, h_L_twin, F_L_twin, B_L_twin⟩ := d_L_twin.get X G
  obtain ⟨C_LineParser_peek, f_LineParser_peek, fd_LineParser_peek, h_LineParser_peek, cl_LineParser_peek, mt_LineParser_peek, F_LineParser_peek⟩ := d_LineParser_peek.get X G
  obtain ⟨C_LineParser_accept, f_LineParser_accept, fd_LineParser_accept, h_LineParser_accept, cl_LineParser_accept, mt_LineParser_accept, F_LineParser_accept⟩ := d_LineParser_accept.get X G
  obtain ⟨C_LineParser_fail, f_LineParser_fail, fd_LineParser_fail, h_LineParser_fail, cl_LineParser_fail, mt_LineParser_fail, F_LineParser_fail⟩ := d_LineParser_fail.get X G
  obtain ⟨C_LineParser_take, f_LineParser_take, fd_LineParser_take, h_LineParser_take, cl_LineParser_take, mt_LineParser_take, F_LineParser_take⟩ := d_LineParser_take.get X G
  obtain ⟨f_greatest_divisor, fd_greatest_divisor, h_greatest_divisor, F_greatest_divisor, B_greatest_divisor⟩ := d_greatest_divisor.get X G
  obtain ⟨f_fraction, fd_fraction, h_fraction, F_fraction, B_fraction⟩ := d_fraction.get X G
  obtain ⟨f_minus, fd_minus, h_minus, F_minus, B_minus⟩ := d_minus.get X G
  obtain ⟨f_times, fd_times, h_times, F_times, B_times⟩ := d_times.get X G
  obtain ⟨f_is_same_line, fd_is_same_line, h_is_same_line, F_is_same_line, B_is_same_line⟩ := d_is_same_line.get X G
  obtain ⟨C_LineParser_signed_fraction, f_LineParser_signed_fraction, fd_LineParser_signed_fraction, h_LineParser_signed_fraction, cl_LineParser_signed_fraction, mt_LineParser_signed_fraction, F_LineParser_signed_fraction⟩ := d_LineParser_signed_fraction.get X G
  obtain ⟨C_LineParser_straight_line, f_LineParser_straight_line, fd_LineParser_straight_line, h_LineParser_straight_line, cl_LineParser_straight_line, mt_LineParser_straight_line, F_LineParser_straight_line⟩ := d_LineParser_straight_line.get X G
  obtain ⟨C_LineParser_conditions, f_LineParser_conditions, fd_LineParser_conditions, h_LineParser_conditions, cl_LineParser_conditions, mt_LineParser_conditions, F_LineParser_conditions⟩ := d_LineParser_conditions.get X G
  obtain ⟨C_LineParser_rule, f_LineParser_rule, fd_LineParser_rule, h_LineParser_rule, cl_LineParser_rule, mt_LineParser_rule, F_LineParser_rule⟩ := d_LineParser_rule.get X G
  obtain ⟨C_Token_init, f_Token_init, fd_Token_init, h_Token_init, mk_Token_init, F_Token_init⟩ := d_Token_init.get X G
  obtain ⟨f_end_of_run, fd_end_of_run, h_end_of_run, F_end_of_run, B_end_of_run⟩ := d_end_of_run.get X G
  obtain ⟨f_token_at, fd_token_at, h_token_at, F_token_at, B_token_at⟩ := d_token_at.get X G
  obtain ⟨f_tokens_of, fd_tokens_of, h_tokens_of, F_tokens_of, B_tokens_of⟩ := d_tokens_of.get X G
  obtain ⟨C_LineParser_init, f_LineParser_init, fd_LineParser_init, h_LineParser_init, mk_LineParser_init, F_LineParser_init⟩ := d_LineParser_init.get X G
  obtain ⟨f_parse_plan, fd_parse_plan, h_parse_plan, F_parse_plan, B_parse_plan⟩ := d_parse_plan.get X G
  obtain ⟨f_L_blown, fd_L_blown, h_L_blown, F_L_blown, B_L_blown⟩ := d_L_blown.get X G
  obtain ⟨f_L_pull, fd_L_pull, h_L_pull, F_L_pull, B_L_pull⟩ := d_L_pull.get X G
  obtain ⟨f_L_item, fd_L_item, h_L_item, F_L_item, B_L_item⟩ := d_L_item.get X G
  obtain ⟨f_L_spaced, fd_L_spaced, h_L_spaced, F_L_spaced, B_L_spaced⟩ := d_L_spaced.get X G
  obtain ⟨f_L_laid, fd_L_laid, h_L_laid, F_L_laid, B_L_laid⟩ := d_L_laid.get X G
  obtain ⟨f_L_condition_tokens, fd_L_condition_tokens, h_L_condition_tokens, F_L_condition_tokens, B_L_condition_tokens⟩ := d_L_condition_tokens.get X G
  obtain ⟨f_L_number_tokens, fd_L_number_tokens, h_L_number_tokens, F_L_number_tokens, B_L_number_tokens⟩ := d_L_number_tokens.get X G
  obtain ⟨f_L_plan_lines, fd_L_plan_lines, h_L_plan_lines, F_L_plan_lines, B_L_plan_lines⟩ := d_L_plan_lines.get X G
  obtain ⟨f_L_low, fd_L_low, h_L_low, F_L_low, B_L_low⟩ := d_L_low.get X G
  obtain ⟨f_L_number, fd_L_number, h_L_number, F_L_number, B_L_number⟩ := d_L_number.get X G
  obtain ⟨f_L_mixed, fd_L_mixed, h_L_mixed, F_L_mixed, B_L_mixed⟩ := d_L_mixed.get X G
  obtain ⟨f_L_plan, fd_L_plan, h_L_plan, F_L_plan, B_L_plan⟩ := d_L_plan.get X G
  obtain ⟨f_L_names, fd_L_names, h_L_names, F_L_names, B_L_names⟩ := d_L_names.get X G
  obtain ⟨f_L_product, fd_L_product, h_L_product, F_L_product, B_L_product⟩ := d_L_product.get X G
  obtain ⟨f_L_same_place, fd_L_same_place, h_L_same_place, F_L_same_place, B_L_same_place⟩ := d_L_same_place.get X G
  obtain ⟨f_L_lines, fd_L_lines, h_L_lines, F_L_lines, B_L_lines⟩ := d_L_lines.get X G
  obtain ⟨f_L_urn, fd_L_urn, h_L_urn, F_L_urn, B_L_urn⟩ := d_L_urn.get X G
  obtain ⟨f_law, fd_law, h_law, F_law, B_law⟩ := d_law.get X G
  have e := hfa.symm.trans h_law
  cases e
  refine ⟨fd_law, fun s v => ?_, fun base _ _ ND => ?_⟩
  · obtain ⟨_, _, _, _, _, _, rfl⟩ := B_law
    exact .of_eq rfl
  have n_SyntaxProblem := ok_n_SyntaxProblem (P := l.prog) (w := w) (base := base) (PySem.W.mg_of X G m1_SyntaxProblem) m2_SyntaxProblem m3_SyntaxProblem m4_SyntaxProblem (fun_mk m5_SyntaxProblem m6_SyntaxProblem m7_SyntaxProblem) m8_SyntaxProblem.mem (y_SlopeError.get X G)
  have c_L_twin := ok_L_twin (P := l.prog) (w := w) (base := base) F_L_twin h_L_twin T ND 
  have q_LineParser_peek := ok_LineParser_peek (P := l.prog) (w := w) (base := base) h_LineParser_peek cl_LineParser_peek mt_LineParser_peek F_LineParser_peek T ND 
  have q_LineParser_accept := ok_LineParser_accept (P := l.prog) (w := w) (base := base) h_LineParser_accept cl_LineParser_accept mt_LineParser_accept F_LineParser_accept T ND q_LineParser_peek
  have q_LineParser_fail := ok_LineParser_fail (P := l.prog) (w := w) (base := base) h_LineParser_fail cl_LineParser_fail mt_LineParser_fail F_LineParser_fail T ND n_SyntaxProblem
  have q_LineParser_take := ok_LineParser_take (P := l.prog) (w := w) (base := base) h_LineParser_take cl_LineParser_take mt_LineParser_take F_LineParser_take T ND q_LineParser_fail q_LineParser_peek
  have c_greatest_divisor := ok_greatest_divisor (P := l.prog) (w := w) (base := base) F_greatest_divisor h_greatest_divisor T ND 
  have c_fraction := ok_fraction (P := l.prog) (w := w) (base := base) F_fraction h_fraction T ND c_greatest_divisor
  have c_minus := ok_minus (P := l.prog) (w := w) (base := base) F_minus h_minus T ND c_fraction
  have c_times := ok_times (P := l.prog) (w := w) (base := base) F_times h_times T ND c_fraction
  have c_is_same_line := ok_is_same_line (P := l.prog) (w := w) (base := base) F_is_same_line h_is_same_line T ND c_minus c_times
  have q_LineParser_signed_fraction := ok_LineParser_signed_fraction (P := l.prog) (w := w) (base := base) h_LineParser_signed_fraction cl_LineParser_signed_fraction mt_LineParser_signed_fraction F_LineParser_signed_fraction T ND c_fraction q_LineParser_accept q_LineParser_fail q_LineParser_take
  have q_LineParser_straight_line := ok_LineParser_straight_line (P := l.prog) (w := w) (base := base) h_LineParser_straight_line cl_LineParser_straight_line mt_LineParser_straight_line F_LineParser_straight_line T ND q_LineParser_take c_is_same_line q_LineParser_fail q_LineParser_signed_fraction q_LineParser_peek
  have q_LineParser_conditions := ok_LineParser_conditions (P := l.prog) (w := w) (base := base) h_LineParser_conditions cl_LineParser_conditions mt_LineParser_conditions F_LineParser_conditions T ND q_LineParser_accept q_LineParser_take q_LineParser_fail
  have q_LineParser_rule := ok_LineParser_rule (P := l.prog) (w := w) (base := base) h_LineParser_rule cl_LineParser_rule mt_LineParser_rule F_LineParser_rule T ND q_LineParser_conditions q_LineParser_accept q_LineParser_take q_LineParser_signed_fraction
  have w_Token := ok_Token_init (P := l.prog) (w := w) (base := base) h_Token_init mk_Token_init F_Token_init T ND 
  have c_end_of_run := ok_end_of_run (P := l.prog) (w := w) (base := base) F_end_of_run h_end_of_run T ND 
  have c_token_at := ok_token_at (P := l.prog) (w := w) (base := base) F_token_at h_token_at T ND w_Token c_end_of_run n_SyntaxProblem
  have c_tokens_of := ok_tokens_of (P := l.prog) (w := w) (base := base) F_tokens_of h_tokens_of T ND w_Token c_token_at n_SyntaxProblem
  have w_LineParser := ok_LineParser_init (P := l.prog) (w := w) (base := base) h_LineParser_init mk_LineParser_init F_LineParser_init T ND c_tokens_of
  have c_parse_plan := ok_parse_plan (P := l.prog) (w := w) (base := base) F_parse_plan h_parse_plan T ND q_LineParser_accept q_LineParser_straight_line q_LineParser_rule q_LineParser_fail q_LineParser_peek w_LineParser n_SyntaxProblem
  have c_L_blown := ok_L_blown (P := l.prog) (w := w) (base := base) F_L_blown h_L_blown T ND 
  have c_L_pull := ok_L_pull (P := l.prog) (w := w) (base := base) F_L_pull h_L_pull T ND c_L_blown
  have c_L_item := ok_L_item (P := l.prog) (w := w) (base := base) F_L_item h_L_item T ND c_L_pull
  have c_L_spaced := ok_L_spaced (P := l.prog) (w := w) (base := base) F_L_spaced h_L_spaced T ND c_L_pull c_L_item
  have c_L_laid := ok_L_laid (P := l.prog) (w := w) (base := base) F_L_laid h_L_laid T ND c_L_item c_L_spaced
  have c_L_condition_tokens := ok_L_condition_tokens (P := l.prog) (w := w) (base := base) F_L_condition_tokens h_L_condition_tokens T ND 
  have c_L_number_tokens := ok_L_number_tokens (P := l.prog) (w := w) (base := base) F_L_number_tokens h_L_number_tokens T ND c_L_pull c_L_item
  have c_L_plan_lines := ok_L_plan_lines (P := l.prog) (w := w) (base := base) F_L_plan_lines h_L_plan_lines T ND c_L_condition_tokens c_L_number_tokens
  have c_L_low := ok_L_low (P := l.prog) (w := w) (base := base) F_L_low h_L_low T ND 
  have c_L_number := ok_L_number (P := l.prog) (w := w) (base := base) F_L_number h_L_number T ND c_L_low c_L_pull c_L_item
  have c_L_mixed := ok_L_mixed (P := l.prog) (w := w) (base := base) F_L_mixed h_L_mixed T ND c_L_pull
  have c_L_plan := ok_L_plan (P := l.prog) (w := w) (base := base) F_L_plan h_L_plan T ND c_L_number c_L_mixed c_L_pull c_L_item
  have c_L_names := ok_L_names (P := l.prog) (w := w) (base := base) F_L_names h_L_names T ND c_L_pull c_L_item
  have c_L_product := ok_L_product (P := l.prog) (w := w) (base := base) F_L_product h_L_product T ND c_L_low
  have c_L_same_place := ok_L_same_place (P := l.prog) (w := w) (base := base) F_L_same_place h_L_same_place T ND c_L_product
  have c_L_lines := ok_L_lines (P := l.prog) (w := w) (base := base) F_L_lines h_L_lines T ND c_L_names c_L_same_place c_L_pull c_L_number
  have c_L_urn := ok_L_urn (P := l.prog) (w := w) (base := base) F_L_urn h_L_urn T ND 
  exact ok_law F_law h_law T ND c_L_twin c_parse_plan c_L_item c_L_laid c_L_plan_lines c_L_plan c_L_pull c_L_lines c_L_urn
end DL
open PySem PySem.W PyProof.Rows in
set_option maxRecDepth 100000 in
set_option maxHeartbeats 0 in
theorem PySem.Challenge.cw_slopeland_k40_plans_parsed_holds : PySem.Challenge.rw_slopeland_k40_plans_parsed.Holds := by
  w_on; o_law; k_head; (case hw => w_witness2)
  k_fill
  refine DL.walk_D (l := PySem.Challenge.rw_slopeland_k40_plans_parsed) (k := 9) (x := "_law_script") (m := DL.m_law) rfl rfl ⟨rfl, by decide, by decide⟩ (fun w h Y => PySem.W.kIn_of Y) ?F DL.law_holds
  case F =>
    intro w mg fa h KX G hmg
    refine' DL.all_mk KX G hmg ?d_L_twin ?d_LineParser_peek ?d_LineParser_accept ?d_LineParser_fail ?d_LineParser_take ?d_greatest_divisor ?d_fraction ?d_minus ?d_times ?d_is_same_line ?d_LineParser_signed_fraction ?d_LineParser_straight_line ?d_LineParser_conditions ?d_LineParser_rule ?d_Token_init ?d_end_of_run ?d_token_at ?d_tokens_of ?d_LineParser_init ?d_parse_plan ?d_L_blown ?d_L_pull ?d_L_item ?d_L_spaced ?d_L_laid ?d_L_condition_tokens ?d_L_number_tokens ?d_L_plan_lines ?d_L_low ?d_L_number ?d_L_mixed ?d_L_plan ?d_L_names ?d_L_product ?d_L_same_place ?d_L_lines ?d_L_urn ?d_law ?a_column ?a_index ?a_kind ?a_names ?a_row ?a_spelling ?a_tokens ?b_abs ?b_all ?b_any ?b_enumerate ?b_int ?b_len ?b_list ?b_max ?b_range ?b_repr ?b_str ?b_tuple ?x_ZeroDivisor ?g_DIGITS ?g_END ?g_KEYWORDS ?g_MAX_DIGITS ?g_MAX_ITEMS ?g_MAX_LINES ?g_MAX_NAME ?g_MAX_RULES ?g_MAX_TOKENS ?g_SMALL ?g_SYMBOLS ?g_ZERO ?n_SyntaxProblem ?y_SlopeError
    (case d_L_twin => exact DL.defK (by k_is) (by k_is) (by k_is) (by k_is) rfl)
    (case d_LineParser_peek => exact DL.mthK (by k_is) (by k_is) (by k_is) (by k_is) (by k_is) (by k_is) (by k_is) (by k_is) (by k_is) (by k_is))
    (case d_LineParser_accept => exact DL.mthK (by k_is) (by k_is) (by k_is) (by k_is) (by k_is) (by k_is) (by k_is) (by k_is) (by k_is) (by k_is))
    (case d_LineParser_fail => exact DL.mthK (by k_is) (by k_is) (by k_is) (by k_is) (by k_is) (by k_is) (by k_is) (by k_is) (by k_is) (by k_is))
    (case d_LineParser_take => exact DL.mthK (by k_is) (by k_is) (by k_is) (by k_is) (by k_is) (by k_is) (by k_is) (by k_is) (by k_is) (by k_is))
    (case d_greatest_divisor => exact DL.defK (by k_is) (by k_is) (by k_is) (by k_is) rfl)
    (case d_fraction => exact DL.defK (by k_is) (by k_is) (by k_is) (by k_is) rfl)
    (case d_minus => exact DL.defK (by k_is) (by k_is) (by k_is) (by k_is) rfl)
    (case d_times => exact DL.defK (by k_is) (by k_is) (by k_is) (by k_is) rfl)
    (case d_is_same_line => exact DL.defK (by k_is) (by k_is) (by k_is) (by k_is) rfl)
    (case d_LineParser_signed_fraction => exact DL.mthK (by k_is) (by k_is) (by k_is) (by k_is) (by k_is) (by k_is) (by k_is) (by k_is) (by k_is) (by k_is))
    (case d_LineParser_straight_line => exact DL.mthK (by k_is) (by k_is) (by k_is) (by k_is) (by k_is) (by k_is) (by k_is) (by k_is) (by k_is) (by k_is))
    (case d_LineParser_conditions => exact DL.mthK (by k_is) (by k_is) (by k_is) (by k_is) (by k_is) (by k_is) (by k_is) (by k_is) (by k_is) (by k_is))
    (case d_LineParser_rule => exact DL.mthK (by k_is) (by k_is) (by k_is) (by k_is) (by k_is) (by k_is) (by k_is) (by k_is) (by k_is) (by k_is))
    (case d_Token_init => exact DL.makK (by k_is) (by k_is) (by k_is) (by k_is) (by k_is) (by k_is) (by k_is) (by k_is))
    (case d_end_of_run => exact DL.defK (by k_is) (by k_is) (by k_is) (by k_is) rfl)
    (case d_token_at => exact DL.defK (by k_is) (by k_is) (by k_is) (by k_is) rfl)
    (case d_tokens_of => exact DL.defK (by k_is) (by k_is) (by k_is) (by k_is) rfl)
    (case d_LineParser_init => exact DL.makK (by k_is) (by k_is) (by k_is) (by k_is) (by k_is) (by k_is) (by k_is) (by k_is))
    (case d_parse_plan => exact DL.defK (by k_is) (by k_is) (by k_is) (by k_is) rfl)
    (case d_L_blown => exact DL.defK (by k_is) (by k_is) (by k_is) (by k_is) rfl)
    (case d_L_pull => exact DL.defK (by k_is) (by k_is) (by k_is) (by k_is) rfl)
    (case d_L_item => exact DL.defK (by k_is) (by k_is) (by k_is) (by k_is) rfl)
    (case d_L_spaced => exact DL.defK (by k_is) (by k_is) (by k_is) (by k_is) rfl)
    (case d_L_laid => exact DL.defK (by k_is) (by k_is) (by k_is) (by k_is) rfl)
    (case d_L_condition_tokens => exact DL.defK (by k_is) (by k_is) (by k_is) (by k_is) rfl)
    (case d_L_number_tokens => exact DL.defK (by k_is) (by k_is) (by k_is) (by k_is) rfl)
    (case d_L_plan_lines => exact DL.defK (by k_is) (by k_is) (by k_is) (by k_is) rfl)
    (case d_L_low => exact DL.defK (by k_is) (by k_is) (by k_is) (by k_is) rfl)
    (case d_L_number => exact DL.defK (by k_is) (by k_is) (by k_is) (by k_is) rfl)
    (case d_L_mixed => exact DL.defK (by k_is) (by k_is) (by k_is) (by k_is) rfl)
    (case d_L_plan => exact DL.defK (by k_is) (by k_is) (by k_is) (by k_is) rfl)
    (case d_L_names => exact DL.defK (by k_is) (by k_is) (by k_is) (by k_is) rfl)
    (case d_L_product => exact DL.defK (by k_is) (by k_is) (by k_is) (by k_is) rfl)
    (case d_L_same_place => exact DL.defK (by k_is) (by k_is) (by k_is) (by k_is) rfl)
    (case d_L_lines => exact DL.defK (by k_is) (by k_is) (by k_is) (by k_is) rfl)
    (case d_L_urn => exact DL.defK (by k_is) (by k_is) (by k_is) (by k_is) rfl)
    (case d_law => exact DL.defK (by k_is) (by k_is) (by k_is) (by k_is) rfl)
    (case a_column => exact (DL.Each.cons (DL.fldPK (by k_is) (by k_is) (by k_is) (by k_is) (by k_is) (by k_is)) DL.Each.nil))
    (case a_index => exact (DL.Each.cons (DL.fldPK (by k_is) (by k_is) (by k_is) (by k_is) (by k_is) (by k_is)) DL.Each.nil))
    (case a_kind => exact (DL.Each.cons (DL.fldPK (by k_is) (by k_is) (by k_is) (by k_is) (by k_is) (by k_is)) DL.Each.nil))
    (case a_names => exact (DL.Each.cons (DL.fldPK (by k_is) (by k_is) (by k_is) (by k_is) (by k_is) (by k_is)) DL.Each.nil))
    (case a_row => exact (DL.Each.cons (DL.fldPK (by k_is) (by k_is) (by k_is) (by k_is) (by k_is) (by k_is)) DL.Each.nil))
    (case a_spelling => exact (DL.Each.cons (DL.fldPK (by k_is) (by k_is) (by k_is) (by k_is) (by k_is) (by k_is)) DL.Each.nil))
    (case a_tokens => exact (DL.Each.cons (DL.fldPK (by k_is) (by k_is) (by k_is) (by k_is) (by k_is) (by k_is)) DL.Each.nil))
    (case b_abs => k_is)
    (case b_all => k_is)
    (case b_any => k_is)
    (case b_enumerate => k_is)
    (case b_int => k_is)
    (case b_len => k_is)
    (case b_list => k_is)
    (case b_max => k_is)
    (case b_range => k_is)
    (case b_repr => k_is)
    (case b_str => k_is)
    (case b_tuple => k_is)
    (case x_ZeroDivisor => exact DL.excK (by k_is) (by k_exc) (by k_is) (by k_is) (by k_is))
    (case g_DIGITS => exact DL.globK (by k_is) (DL.globV_str))
    (case g_END => exact DL.globK (by k_is) (DL.globV_str))
    (case g_KEYWORDS => exact DL.globK (by k_is) (DL.globV_tup (by k_is) (DL.GlobVs.cons (DL.globV_str) (DL.GlobVs.cons (DL.globV_str) (DL.GlobVs.cons (DL.globV_str) (DL.GlobVs.cons (DL.globV_str) DL.GlobVs.nil)))) (by decide)))
    (case g_MAX_DIGITS => exact DL.globK (by k_is) (DL.globV_int))
    (case g_MAX_ITEMS => exact DL.globK (by k_is) (DL.globV_int))
    (case g_MAX_LINES => exact DL.globK (by k_is) (DL.globV_int))
    (case g_MAX_NAME => exact DL.globK (by k_is) (DL.globV_int))
    (case g_MAX_RULES => exact DL.globK (by k_is) (DL.globV_int))
    (case g_MAX_TOKENS => exact DL.globK (by k_is) (DL.globV_int))
    (case g_SMALL => exact DL.globK (by k_is) (DL.globV_str))
    (case g_SYMBOLS => exact DL.globK (by k_is) (DL.globV_tup (by k_is) (DL.GlobVs.cons (DL.globV_str) (DL.GlobVs.cons (DL.globV_str) (DL.GlobVs.cons (DL.globV_str) (DL.GlobVs.cons (DL.globV_str) (DL.GlobVs.cons (DL.globV_str) DL.GlobVs.nil))))) (by decide)))
    (case g_ZERO => exact DL.globK (by k_is) (DL.globV_tup (by k_is) (DL.GlobVs.cons (DL.globV_int) (DL.GlobVs.cons (DL.globV_int) DL.GlobVs.nil)) (by decide)))
    (case n_SyntaxProblem => exact ⟨_, _, _, _, _, _, _, _, _, _, _, by k_is, DL.oexC (by k_is) (by decide +kernel) (by k_is) (by k_is) (by k_is) (by k_is), by k_is, by k_is, by k_is, by k_is, by k_is, (DL.Each.cons (by k_is) (DL.Each.cons (by k_is) DL.Each.nil))⟩)
    (case y_SlopeError => exact DL.baseK (by k_is) (by k_is) (by k_is) (by k_is))

