import PyProof.Rows.All
import Wide.All
import OpenK.AllK
import Wide.FinOn
import HandS.ForMost
import HandS.TupAny
import HandS.NoneIn
import HandS.Small
import HandS.IsInst
import HandS.SortInts
import HandS.Conv
import HandS.Wide
import HandS.Deep
import HandS.SetFor
import HandS.Strs
import HandS.List
import KE.SortData
import PyProof.TupleOfSeq
import HandS.Ends
import HandS.Defaults
import HandS.HeadEnd
import KE.DatumOrd
import HandS.Zip
import HandS.Iter
import HandS.DictComp
import HandS.SortKw
import HandS.Exc
import KE.KStateDown
import HandS.Words
import HandS.Head0
import HandS.Head1
import HandS.Head2
import HandS.HeadHook1
import HandS.HeadHook2
import PyProof.ReprReads
import PyProof.ReprLoop
import PySem.Challenge.RW_wholeparts_k29_whole_forms_of_relative_s
section
set_option Elab.async false
set_option linter.all false
set_option maxRecDepth 100000
/-! Pv: own values (texts, ints, nested tuples as plain data; lists and dicts as cells of a store) over the hand layer. -/
namespace Pv
open PySem PySem.Spec L2

inductive PV where
  | non | bl (b : Bool) | int (i : Int) | str (x : Str) | tup (xs : List PV) | rol (xs : List PV) | loc (n : Nat)

mutual
def PV.deq : (a b : PV) → Decidable (a = b)
  | .non, .non => Decidable.isTrue rfl
  | .bl a, .bl b => if h : a = b then Decidable.isTrue (by rw [h]) else Decidable.isFalse (fun e => h (PV.bl.inj e))
  | .int a, .int b => if h : a = b then Decidable.isTrue (by rw [h]) else Decidable.isFalse (fun e => h (PV.int.inj e))
  | .str a, .str b => if h : a = b then Decidable.isTrue (by rw [h]) else Decidable.isFalse (fun e => h (PV.str.inj e))
  | .tup a, .tup b => match PV.deqs a b with
    | Decidable.isTrue h => Decidable.isTrue (by rw [h])
    | Decidable.isFalse h => Decidable.isFalse (fun e => h (PV.tup.inj e))
  | .rol a, .rol b => match PV.deqs a b with
    | Decidable.isTrue h => Decidable.isTrue (by rw [h])
    | Decidable.isFalse h => Decidable.isFalse (fun e => h (PV.rol.inj e))
  | .loc a, .loc b => if h : a = b then Decidable.isTrue (by rw [h]) else Decidable.isFalse (fun e => h (PV.loc.inj e))
  | .non, .bl _ => Decidable.isFalse (fun e => nomatch e)
  | .non, .int _ => Decidable.isFalse (fun e => nomatch e)
  | .non, .str _ => Decidable.isFalse (fun e => nomatch e)
  | .non, .tup _ => Decidable.isFalse (fun e => nomatch e)
  | .non, .rol _ => Decidable.isFalse (fun e => nomatch e)
  | .non, .loc _ => Decidable.isFalse (fun e => nomatch e)
  | .bl _, .non => Decidable.isFalse (fun e => nomatch e)
  | .bl _, .int _ => Decidable.isFalse (fun e => nomatch e)
  | .bl _, .str _ => Decidable.isFalse (fun e => nomatch e)
  | .bl _, .tup _ => Decidable.isFalse (fun e => nomatch e)
  | .bl _, .rol _ => Decidable.isFalse (fun e => nomatch e)
  | .bl _, .loc _ => Decidable.isFalse (fun e => nomatch e)
  | .int _, .non => Decidable.isFalse (fun e => nomatch e)
  | .int _, .bl _ => Decidable.isFalse (fun e => nomatch e)
  | .int _, .str _ => Decidable.isFalse (fun e => nomatch e)
  | .int _, .tup _ => Decidable.isFalse (fun e => nomatch e)
  | .int _, .rol _ => Decidable.isFalse (fun e => nomatch e)
  | .int _, .loc _ => Decidable.isFalse (fun e => nomatch e)
  | .str _, .non => Decidable.isFalse (fun e => nomatch e)
  | .str _, .bl _ => Decidable.isFalse (fun e => nomatch e)
  | .str _, .int _ => Decidable.isFalse (fun e => nomatch e)
  | .str _, .tup _ => Decidable.isFalse (fun e => nomatch e)
  | .str _, .rol _ => Decidable.isFalse (fun e => nomatch e)
  | .str _, .loc _ => Decidable.isFalse (fun e => nomatch e)
  | .tup _, .non => Decidable.isFalse (fun e => nomatch e)
  | .tup _, .bl _ => Decidable.isFalse (fun e => nomatch e)
  | .tup _, .int _ => Decidable.isFalse (fun e => nomatch e)
  | .tup _, .str _ => Decidable.isFalse (fun e => nomatch e)
  | .tup _, .rol _ => Decidable.isFalse (fun e => nomatch e)
  | .tup _, .loc _ => Decidable.isFalse (fun e => nomatch e)
  | .rol _, .non => Decidable.isFalse (fun e => nomatch e)
  | .rol _, .bl _ => Decidable.isFalse (fun e => nomatch e)
  | .rol _, .int _ => Decidable.isFalse (fun e => nomatch e)
  | .rol _, .str _ => Decidable.isFalse (fun e => nomatch e)
  | .rol _, .tup _ => Decidable.isFalse (fun e => nomatch e)
  | .rol _, .loc _ => Decidable.isFalse (fun e => nomatch e)
  | .loc _, .non => Decidable.isFalse (fun e => nomatch e)
  | .loc _, .bl _ => Decidable.isFalse (fun e => nomatch e)
  | .loc _, .int _ => Decidable.isFalse (fun e => nomatch e)
  | .loc _, .str _ => Decidable.isFalse (fun e => nomatch e)
  | .loc _, .tup _ => Decidable.isFalse (fun e => nomatch e)
  | .loc _, .rol _ => Decidable.isFalse (fun e => nomatch e)
def PV.deqs : (a b : List PV) → Decidable (a = b)
  | [], [] => Decidable.isTrue rfl
  | a :: r, b :: t => match PV.deq a b with
    | Decidable.isTrue h => match PV.deqs r t with
      | Decidable.isTrue h2 => Decidable.isTrue (by rw [h, h2])
      | Decidable.isFalse h2 => Decidable.isFalse (fun e => h2 (List.cons.inj e).2)
    | Decidable.isFalse h => Decidable.isFalse (fun e => h (List.cons.inj e).1)
  | [], _ :: _ => Decidable.isFalse (fun e => nomatch e)
  | _ :: _, [] => Decidable.isFalse (fun e => nomatch e)
end
instance : DecidableEq PV := PV.deq

/-- what stands in a cell of the store -/
inductive MO where
  | lst (xs : List PV) | dic (kvs : List (Key × PV))
  deriving DecidableEq

abbrev Sto := List MO
abbrev Env' := List (Option PV)
abbrev Ev (α : Type) := Env' → Sto → Option (α × Sto)

/-- a list that nobody writes: frozen, or of the written part -/
def SqF (K : PySem.W.Frag) (H : Hp) (a : Addr) (xs : List V) : Prop :=
  (∃ o, H a = some (.frz o (.lst xs))) ∨
    ∃ (o : Obj) (its : Array Value) (n : Nat), K.lookup a = some o ∧ o.cls = .type "list" ∧ o.dict = none ∧ o.data = .seq its n ∧ its.size ≤ sizeLine ∧ Vals xs its.toList
theorem SqF.sq {K : PySem.W.Frag} {H : Hp} {a : Addr} {xs : List V} (h : SqF K H a xs) : SqL K H a xs := h.elim (fun ⟨o, e⟩ => .inl (.inr ⟨o, e⟩)) .inr
section
variable (K : PySem.W.Frag) (H : Hp) (ι : List Addr)
mutual
def Rl : PV → V → Prop
  | .non, v => v = .non
  | .bl b, v => v = .bl b
  | .int i, v => v = .int i
  | .str x, v => v = .str x
  | .tup ps, v => ∃ a vs, v = .ref a ∧ SqT K H a vs ∧ Rls ps vs
  | .rol ps, v => ∃ a vs, v = .ref a ∧ SqF K H a vs ∧ Rls ps vs ∧ ps.length ≤ sizeLine
  | .loc n, v => ∃ a, v = .ref a ∧ ι[n]? = some a
def Rls : List PV → List V → Prop
  | [], vs => vs = []
  | p :: ps, vs => ∃ v r, vs = v :: r ∧ Rl p v ∧ Rls ps r
end
def Rkv : List (Key × PV) → List (Key × V) → Prop
  | [], vs => vs = []
  | p :: ps, vs => ∃ v r, vs = (p.1, v) :: r ∧ Rl K H ι p.2 v ∧ Rkv ps r
def MoR : MO → Addr → Prop
  | .lst ps, a => ps.length ≤ sizeLine ∧ ∃ vs, H a = some (.lst vs) ∧ Rls K H ι ps vs
  | .dic kvs, a => kvs.length ≤ sizeLine ∧ (kvs.map (·.1)).Nodup ∧ ∃ vs, H a = some (.dK vs) ∧ Rkv K H ι kvs vs
structure StR (μ : Sto) : Prop where
  len : ι.length = μ.length
  nd : ι.Nodup
  at_ : ∀ (n : Nat) (mo : MO) (a : Addr), μ[n]? = some mo → ι[n]? = some a → MoR K H ι mo a
def EnvR (ρ : Env') (σ : St) : Prop := ρ.length = σ.length ∧ ∀ (i : Nat) p, ρ[i]? = some (some p) → ∃ v, σ[i]? = some (some v) ∧ Rl K H ι p v
end

/-- what goes on: the store's cells stay where they are, new ones are new; what is not of the store stays -/
structure Ext (ι : List Addr) (H : Hp) (ι' : List Addr) (H' : Hp) : Prop where
  pre : ∃ t, ι' = ι ++ t ∧ ∀ b ∈ t, H b = none
  fr : ∀ b o, H b = some o → b ∉ ι → H' b = some o
  don : ∀ b ∈ ι, H b ≠ none → H' b ≠ none
  
section
variable {K : PySem.W.Frag} {H H1 H' H2 : Hp} {ι ι1 ι' ι2 : List Addr} {μ : Sto}

theorem Ext.refl : Ext ι H ι H := ⟨⟨[], by simp, by simp⟩, fun _ _ h _ => h, fun _ _ h => h⟩
theorem Ext.dom (x : Ext ι H ι' H') {b : Addr} (h : H b ≠ none) : H' b ≠ none := by
  by_cases hb : b ∈ ι
  · exact x.don b hb h
  · cases e : H b with
    | none => exact absurd e h
    | some o => rw [x.fr b o e hb]; exact fun z => nomatch z
theorem Ext.none_of (x : Ext ι H ι' H') {b : Addr} (h : H' b = none) : H b = none := by
  cases e : H b with
  | none => rfl
  | some o => exact absurd h (x.dom (by rw [e]; exact fun z => nomatch z))
theorem Ext.trans (x : Ext ι H ι1 H1) (y : Ext ι1 H1 ι2 H2) : Ext ι H ι2 H2 := by
  obtain ⟨t, e, ht⟩ := x.pre
  obtain ⟨u, e2, hu⟩ := y.pre
  refine ⟨⟨t ++ u, by rw [e2, e, List.append_assoc], fun b hb => ?_⟩, fun b o h hb => ?_, fun b _ h => y.dom (x.dom h)⟩
  · rcases List.mem_append.mp hb with z | z
    · exact ht b z
    · exact x.none_of (hu b z)
  · refine y.fr b o (x.fr b o h hb) fun z => ?_
    rw [e] at z
    rcases List.mem_append.mp z with z | z
    · exact hb z
    · have := ht b z
      rw [h] at this; cases this
theorem Ext.pre_get (x : Ext ι H ι' H') {n : Nat} {a : Addr} (h : ι[n]? = some a) : ι'[n]? = some a := by
  obtain ⟨t, e, _⟩ := x.pre
  rw [e, List.getElem?_append_left (List.getElem?_eq_some_iff.mp h).1]
  exact h

theorem MoR.some (m : MoR K H ι mo a) : H a ≠ none := by
  cases mo with
  | lst ps => obtain ⟨_, vs, e, _⟩ := m; rw [e]; exact fun z => nomatch z
  | dic ps => obtain ⟨_, _, vs, e, _⟩ := m; rw [e]; exact fun z => nomatch z
theorem StR.mem (s : StR K H ι μ) {a : Addr} (h : a ∈ ι) : ∃ (n : Nat) (mo : MO), ι[n]? = some a ∧ μ[n]? = some mo ∧ MoR K H ι mo a := by
  obtain ⟨n, hn, e⟩ := List.getElem_of_mem h
  have hm : n < μ.length := by rw [← s.len]; exact hn
  refine ⟨n, μ[n], ?_, List.getElem?_eq_getElem hm, s.at_ n _ a (List.getElem?_eq_getElem hm) ?_⟩ <;> rw [List.getElem?_eq_getElem hn, e]
theorem StR.no_tup (s : StR K H ι μ) {a : Addr} {vs : List V} (h : Rd H a (.tup vs)) : a ∉ ι := by
  intro z
  obtain ⟨n, mo, _, _, m⟩ := s.mem z
  cases mo with
  | lst ps => obtain ⟨_, us, e, _⟩ := m; rcases h with h | ⟨o, h⟩ <;> rw [e] at h <;> cases h
  | dic ps => obtain ⟨_, _, us, e, _⟩ := m; rcases h with h | ⟨o, h⟩ <;> rw [e] at h <;> cases h
theorem StR.keepT (s : StR K H ι μ) (x : Ext ι H ι' H') {a : Addr} {vs : List V} (h : SqT K H a vs) : SqT K H' a vs := by
  rcases h with h | h
  · have hn := s.no_tup h
    rcases h with h | ⟨o, h⟩
    · exact .inl (.inl (x.fr _ _ h hn))
    · exact .inl (.inr ⟨o, x.fr _ _ h hn⟩)
  · exact .inr h

theorem StR.no_frz (s : StR K H ι μ) {a : Addr} {o : Obj} {u : HO} (h : H a = some (.frz o u)) : a ∉ ι := by
  intro z
  obtain ⟨n, mo, _, _, m⟩ := s.mem z
  cases mo with
  | lst ps => obtain ⟨_, us, e, _⟩ := m; rw [e] at h; cases h
  | dic ps => obtain ⟨_, _, us, e, _⟩ := m; rw [e] at h; cases h
theorem StR.keepF (s : StR K H ι μ) (x : Ext ι H ι' H') {a : Addr} {vs : List V} (h : SqF K H a vs) : SqF K H' a vs := by
  rcases h with ⟨o, h⟩ | h
  · exact .inl ⟨o, x.fr _ _ h (s.no_frz h)⟩
  · exact .inr h
/-- what is kept of tuples, and of lists that nobody writes -/
def TK (K : PySem.W.Frag) (H H' : Hp) : Prop := (∀ a vs, SqT K H a vs → SqT K H' a vs) ∧ ∀ a vs, SqF K H a vs → SqF K H' a vs
theorem StR.tk (s : StR K H ι μ) (x : Ext ι H ι' H') : TK K H H' := ⟨fun _ _ => s.keepT x, fun _ _ => s.keepF x⟩

mutual
theorem Rl.mono (hp : ∀ (n : Nat) a, ι[n]? = some a → ι'[n]? = some a) (tk : TK K H H') : ∀ {p : PV} {v : V}, Rl K H ι p v → Rl K H' ι' p v
  | .non, _, h => h
  | .bl _, _, h => h
  | .int _, _, h => h
  | .str _, _, h => h
  | .tup ps, _, h => by
    simp only [Rl] at h ⊢
    obtain ⟨a, vs, e, t, r⟩ := h
    exact ⟨a, vs, e, tk.1 _ _ t, Rls.mono hp tk r⟩
  | .rol ps, _, h => by
    simp only [Rl] at h ⊢
    obtain ⟨a, vs, e, t, r, z⟩ := h
    exact ⟨a, vs, e, tk.2 _ _ t, Rls.mono hp tk r, z⟩
  | .loc n, _, h => by
    simp only [Rl] at h ⊢
    obtain ⟨a, e, t⟩ := h
    exact ⟨a, e, hp _ _ t⟩
theorem Rls.mono (hp : ∀ (n : Nat) a, ι[n]? = some a → ι'[n]? = some a) (tk : TK K H H') : ∀ {p : List PV} {v : List V}, Rls K H ι p v → Rls K H' ι' p v
  | [], _, h => h
  | p :: ps, _, h => by
    simp only [Rls] at h ⊢
    obtain ⟨v, r, e, a, b⟩ := h
    exact ⟨v, r, e, Rl.mono hp tk a, Rls.mono hp tk b⟩
end
theorem Rkv.mono (hp : ∀ (n : Nat) a, ι[n]? = some a → ι'[n]? = some a) (tk : TK K H H') : ∀ {p : List (Key × PV)} {v : List (Key × V)}, Rkv K H ι p v → Rkv K H' ι' p v
  | [], _, h => h
  | p :: ps, _, h => by
    simp only [Rkv] at h ⊢
    obtain ⟨v, r, e, a, b⟩ := h
    exact ⟨v, r, e, Rl.mono hp tk a, Rkv.mono hp tk b⟩
theorem Rl.ext (s : StR K H ι μ) (x : Ext ι H ι' H') {p : PV} {v : V} (h : Rl K H ι p v) : Rl K H' ι' p v := Rl.mono (fun _ _ => x.pre_get) (s.tk x) h
theorem Rls.ext (s : StR K H ι μ) (x : Ext ι H ι' H') {p : List PV} {v : List V} (h : Rls K H ι p v) : Rls K H' ι' p v := Rls.mono (fun _ _ => x.pre_get) (s.tk x) h
theorem EnvR.ext (s : StR K H ι μ) (x : Ext ι H ι' H') {ρ : Env'} {σ : St} (h : EnvR K H ι ρ σ) : EnvR K H' ι' ρ σ :=
  ⟨h.1, fun i p e => let ⟨v, e1, r⟩ := h.2 i p e; ⟨v, e1, r.ext s x⟩⟩
theorem Rls.length : ∀ {p : List PV} {v : List V}, Rls K H ι p v → p.length = v.length
  | [], _, h => by simp only [Rls] at h; rw [h]; rfl
  | p :: ps, _, h => by
    simp only [Rls] at h
    obtain ⟨v, r, e, a, b⟩ := h
    rw [e, List.length_cons, List.length_cons, Rls.length b]
theorem Rls.get : ∀ {ps : List PV} {vs : List V} {i : Nat} {p : PV}, Rls K H ι ps vs → ps[i]? = some p → ∃ v, vs[i]? = some v ∧ Rl K H ι p v
  | [], _, _, _, _, e => by simp at e
  | q :: ps, _, 0, p, h, e => by
    simp only [Rls] at h
    obtain ⟨v, r, e1, a, b⟩ := h
    simp at e; subst e; subst e1
    exact ⟨v, rfl, a⟩
  | q :: ps, _, i + 1, p, h, e => by
    simp only [Rls] at h
    obtain ⟨v, r, e1, a, b⟩ := h
    subst e1
    obtain ⟨u, h1, h2⟩ := Rls.get (i := i) b (by simpa using e)
    exact ⟨u, by simpa using h1, h2⟩
theorem Rls.append : ∀ {ps : List PV} {vs : List V} {qs : List PV} {us : List V}, Rls K H ι ps vs → Rls K H ι qs us → Rls K H ι (ps ++ qs) (vs ++ us)
  | [], _, _, _, h, k => by simp only [Rls] at h; subst h; exact k
  | p :: ps, _, _, _, h, k => by
    simp only [Rls] at h
    obtain ⟨v, r, e1, a, b⟩ := h
    subst e1
    exact ⟨v, _, rfl, a, Rls.append b k⟩
theorem Rls.take : ∀ {ps : List PV} {vs : List V} (n : Nat), Rls K H ι ps vs → Rls K H ι (ps.take n) (vs.take n)
  | _, _, 0, h => by simp [Rls]
  | [], _, n + 1, h => by simp only [Rls] at h; subst h; simp [Rls]
  | p :: ps, _, n + 1, h => by
    simp only [Rls] at h
    obtain ⟨v, r, e1, a, b⟩ := h
    subst e1
    exact ⟨v, _, rfl, a, Rls.take n b⟩
theorem Rls.drop : ∀ {ps : List PV} {vs : List V} (n : Nat), Rls K H ι ps vs → Rls K H ι (ps.drop n) (vs.drop n)
  | _, _, 0, h => h
  | [], _, n + 1, h => by simp only [Rls] at h; subst h; simp [Rls]
  | p :: ps, _, n + 1, h => by
    simp only [Rls] at h
    obtain ⟨v, r, e1, a, b⟩ := h
    subst e1
    exact Rls.drop n b
theorem Rls.set : ∀ {ps : List PV} {vs : List V} (n : Nat) {p : PV} {v : V}, Rls K H ι ps vs → Rl K H ι p v → Rls K H ι (ps.set n p) (vs.set n v)
  | [], _, _, _, _, h, k => by simp only [Rls] at h; subst h; simp [Rls]
  | q :: ps, _, 0, _, _, h, k => by
    simp only [Rls] at h
    obtain ⟨v, r, e1, a, b⟩ := h
    subst e1
    exact ⟨_, _, rfl, k, b⟩
  | q :: ps, _, n + 1, _, _, h, k => by
    simp only [Rls] at h
    obtain ⟨v, r, e1, a, b⟩ := h
    subst e1
    exact ⟨_, _, rfl, a, Rls.set n b k⟩
theorem Rls.one {p : PV} {v : V} (h : Rl K H ι p v) : Rls K H ι [p] [v] := ⟨v, [], rfl, h, rfl⟩
theorem Rls.reverse : ∀ {ps : List PV} {vs : List V}, Rls K H ι ps vs → Rls K H ι ps.reverse vs.reverse
  | [], _, h => by simp only [Rls] at h; subst h; simp [Rls]
  | p :: ps, _, h => by
    simp only [Rls] at h
    obtain ⟨v, r, e1, a, b⟩ := h
    subst e1
    rw [List.reverse_cons, List.reverse_cons]
    exact (Rls.reverse b).append (.one a)

/-! ### new cells, changed cells -/
theorem ext_new {p : Addr} {o : HO} (h : H p = none) : Ext ι H (ι ++ [p]) (upd H p o) :=
  ⟨⟨[p], rfl, fun b hb => by have e : b = p := by simpa using hb
                             rw [e]; exact h⟩, fun b x e _ => by rw [upd_ne (ne_of_none e h)]; exact e, fun b _ hb => by
    by_cases z : b = p
    · rw [z, upd_same]; exact fun z => nomatch z
    · rw [upd_ne z]; exact hb⟩
theorem ext_tup {p : Addr} {o : HO} (h : H p = none) : Ext ι H ι (upd H p o) :=
  ⟨⟨[], by simp, by simp⟩, fun b x e _ => by rw [upd_ne (ne_of_none e h)]; exact e, fun b _ hb => by
    by_cases z : b = p
    · rw [z, upd_same]; exact fun z => nomatch z
    · rw [upd_ne z]; exact hb⟩
theorem ext_put {p : Addr} {o : HO} (h : p ∈ ι) : Ext ι H ι (upd H p o) :=
  ⟨⟨[], by simp, by simp⟩, fun b x e hb => by rw [upd_ne (fun z => hb (by rw [z]; exact h))]; exact e, fun b _ hb => by
    by_cases z : b = p
    · rw [z, upd_same]; exact fun z => nomatch z
    · rw [upd_ne z]; exact hb⟩
theorem MoR.ext (s : StR K H ι μ) (x : Ext ι H ι' H') {mo : MO} {a : Addr} (h : MoR K H ι mo a) (hk : H' a = H a) : MoR K H' ι' mo a := by
  cases mo with
  | lst ps => obtain ⟨z, vs, e, r⟩ := h; exact ⟨z, vs, by rw [hk]; exact e, r.ext s x⟩
  | dic ps => obtain ⟨z, nd, vs, e, r⟩ := h; exact ⟨z, nd, vs, by rw [hk]; exact e, Rkv.mono (fun _ _ => x.pre_get) (s.tk x) r⟩
theorem StR.tup (s : StR K H ι μ) {p : Addr} {o : HO} (h : H p = none) : StR K (upd H p o) ι μ := by
  refine ⟨s.len, s.nd, fun n mo a e1 e2 => ?_⟩
  have m := s.at_ n mo a e1 e2
  refine m.ext s (ext_tup h) (upd_ne fun z => ?_)
  rw [z] at m
  exact m.some h
theorem StR.new (s : StR K H ι μ) {p : Addr} {o : HO} {mo : MO} (h : H p = none) (m : MoR K (upd H p o) (ι ++ [p]) mo p) : StR K (upd H p o) (ι ++ [p]) (μ ++ [mo]) := by
  have hp : p ∉ ι := fun z => by
    obtain ⟨n, mo, _, _, m⟩ := s.mem z
    exact m.some h
  refine ⟨by rw [List.length_append, List.length_append, s.len]; rfl, ?_, fun n x a e1 e2 => ?_⟩
  · rw [List.nodup_append]
    refine ⟨s.nd, by simp, fun a ha b hb => ?_⟩
    have e : b = p := by simpa using hb
    subst e
    exact fun z => hp (by rw [← z]; exact ha)
  · by_cases hn : n < μ.length
    · rw [List.getElem?_append_left hn] at e1
      rw [List.getElem?_append_left (by rw [s.len]; exact hn)] at e2
      have m2 := s.at_ n x a e1 e2
      refine m2.ext s (ext_new h) (upd_ne fun z => ?_)
      rw [z] at m2
      exact m2.some h
    · have en : n = μ.length := by
        have := (List.getElem?_eq_some_iff.mp e1).1
        rw [List.length_append, List.length_singleton] at this
        omega
      subst en
      rw [List.getElem?_append_right (Nat.le_refl _), Nat.sub_self] at e1
      rw [List.getElem?_append_right (by rw [s.len]; exact Nat.le_refl _), s.len, Nat.sub_self] at e2
      have q1 : mo = x := Option.some.inj e1
      have q2 : p = a := Option.some.inj e2
      subst q1; subst q2
      exact m
theorem StR.put (s : StR K H ι μ) {n : Nat} {p : Addr} {o : HO} {mo : MO} (e : ι[n]? = some p) (m : MoR K (upd H p o) ι mo p) : StR K (upd H p o) ι (μ.set n mo) := by
  have hp : p ∈ ι := List.mem_of_getElem? e
  refine ⟨by rw [List.length_set]; exact s.len, s.nd, fun k x a e1 e2 => ?_⟩
  by_cases hk : k = n
  · subst hk
    have hl : k < μ.length := by rw [← s.len]; exact (List.getElem?_eq_some_iff.mp e).1
    rw [List.getElem?_set_self hl] at e1
    have q1 : mo = x := Option.some.inj e1
    rw [e] at e2
    have q2 : p = a := Option.some.inj e2
    subst q1; subst q2
    exact m
  · rw [List.getElem?_set_ne (Ne.symm hk)] at e1
    have m2 := s.at_ k x a e1 e2
    refine m2.ext s (ext_put hp) (upd_ne fun z => hk ?_)
    subst z
    exact (List.getElem?_inj (List.getElem?_eq_some_iff.mp e2).1 s.nd).mp (e2.trans e.symm)
end
end Pv
end

section
set_option Elab.async false
set_option linter.all false
set_option maxRecDepth 100000
/-! Pv: own syntax trees and what they mean over own values. -/
namespace Pv
open PySem PySem.Spec L2

/-- built-in functions -/
inductive Bi where
  | len | all | any | max2 | min2 | max1 | sum | tuple | list | sorted | sset | int | str | abs | repr
  deriving DecidableEq
/-- methods of built-in types -/
inductive Me where
  | append | extend | pop | join
  deriving DecidableEq
/-- a target: a slot, or a tuple of targets -/
inductive Tg where
  | nm (i : Nat) | tp (ts : List Tg)

mutual
inductive E where
  | var (i : Nat)
  | cst (p : PV)
  | glo (x : Str) (p : PV)
  | bin (o : Operator) (a b : E)
  | neg (a : E)
  | cmp (o : CmpOp) (a b : E)
  | chn (o o' : CmpOp) (a b c : E)
  | bo (isAnd : Bool) (es : Es)
  | nt (a : E)
  | ite (c a b : E)
  | tup (es : Es)
  | lst (es : Es)
  | ix (a b : E)
  | slL (a lo : E)
  | slU (a hi : E)
  | slB (a lo hi : E)
  | call (j : Nat) (es : Es)
  | callK (j : Nat) (perm : List Nat) (n : Nat) (es : Es)
  | bi (b : Bi) (es : Es)
  | mxd (a d : E)
  | isi (a : E) (T : Str)
  | me (m : Me) (o : E) (es : Es)
  | lc (own : List (Str × Nat)) (elt : E) (tg : Tg) (it : It') (cs : Es)
  | lc2 (own : List (Str × Nat)) (own1 : List Nat) (elt : E) (tg : Tg) (it : It') (tg1 : Tg) (it1 : It')
  | dc (own : List (Str × Nat)) (k v : E) (tg : Tg) (it : It') (cs : Es)
inductive Es where
  | nil | cons (e : E) (es : Es)
/-- what is walked -/
inductive It' where
  | val (e : E) | en (e : E) | zp (a b : E) | rg (a : E)
end
mutual
inductive S where
  | asg (tg : Tg) (e : E)
  | sub (o i v : E)
  | ex (e : E)
  | ret (e : E)
  | iff (c : E) (a b : Ss)
  | wh (c : E) (b : Ss)
  | fo (tg : Tg) (it : It') (b : Ss)
  | aug (i : Nat) (o : Operator) (e : E)
  | stop
  | cont
  | brk
inductive Ss where
  | nil | cons (s : S) (r : Ss)
end

section
@[inline] def seqO {α β : Type} (m : Option (α × Sto)) (k : α → Sto → Option β) : Option β := match m with
  | some (a, μ) => k a μ
  | none => none
@[simp] theorem seqO_some {α β : Type} {a : α} {μ : Sto} {k : α → Sto → Option β} : seqO (some (a, μ)) k = k a μ := rfl
@[simp] theorem seqO_none {α β : Type} {k : α → Sto → Option β} : seqO (none : Option (α × Sto)) k = none := rfl
theorem seqO_eq {α β : Type} {m : Option (α × Sto)} {k : α → Sto → Option β} {r : β} (h : seqO m k = some r) : ∃ a μ, m = some (a, μ) ∧ k a μ = some r := by
  cases m with
  | none => cases h
  | some p => exact ⟨p.1, p.2, rfl, h⟩

def newC (mo : MO) (μ : Sto) : Option (PV × Sto) := some (.loc μ.length, μ ++ [mo])
def cellL (μ : Sto) (n : Nat) : Option (List PV) := match μ[n]? with
  | some (.lst xs) => some xs
  | _ => none

/-! ### data as a whole -/
mutual
def datW (f : Nat → Option PyData) : PV → Option PyData
  | .non => some .none
  | .bl b => some (.bool b)
  | .int i => some (.int i)
  | .str x => some (.str x)
  | .tup ps => (datsW f ps).map .tuple
  | .rol ps => (datsW f ps).map .list
  | .loc n => f n
def datsW (f : Nat → Option PyData) : List PV → Option (List PyData)
  | [] => some []
  | p :: ps => match datW f p with
    | some d => (datsW f ps).map (d :: ·)
    | none => none
end
def locD (μ : Sto) : Nat → Nat → Option PyData
  | 0, _ => none
  | k + 1, n => match cellL μ n with
    | some xs => (datsW (locD μ k) xs).map .list
    | none => none
def dat (μ : Sto) (p : PV) : Option PyData := datW (locD μ 3) p
def eqP (p q : PV) (μ : Sto) : Option Bool := match p, q with
  | .int i, .int j => some (decide (i = j))
  | .str x, .str y => some (decide (x = y))
  | .bl x, .bl y => some (decide (x = y))
  | _, _ => match dat μ p, dat μ q with
    | some d, some e => if SeqAt.shaped d = true ∧ SeqAt.shaped e = true then some (PyData.eqv d e) else none
    | _, _ => none

def binP (o : Operator) (p q : PV) (μ : Sto) : Option (PV × Sto) := match o, p, q with
  | .Add, .int i, .int j => some (.int (i + j), μ)
  | .Add, .str x, .str y => if x.length + y.length ≤ sizeLine then some (.str (x ++ y), μ) else none
  | .Add, .tup xs, .tup ys => if xs.length + ys.length ≤ sizeLine then some (.tup (xs ++ ys), μ) else none
  | .Add, .loc a, .loc b => match μ[a]?, μ[b]? with
    | some (.lst xs), some (.lst ys) => if xs.length + ys.length ≤ sizeLine then newC (.lst (xs ++ ys)) μ else none
    | _, _ => none
  | .Sub, .int i, .int j => some (.int (i - j), μ)
  | .Mult, .int i, .int j => if ((-(2 ^ 64) < i ∧ i < 2 ^ 64) ∨ (-(2 ^ 64) < j ∧ j < 2 ^ 64)) ∨ i.natAbs.log2 + j.natAbs.log2 < 1000000 then some (.int (i * j), μ) else none
  | .Mult, .loc a, .int k => match μ[a]? with
    | some (.lst xs) => if (-(2 ^ 63) ≤ k ∧ k < 2 ^ 63) ∧ xs.length * k.toNat ≤ sizeLine then newC (.lst (List.replicate k.toNat xs).flatten) μ else none
    | _ => none
  | .FloorDiv, .int i, .int j => if 0 < j ∧ j.natAbs.log2 < 9000 then some (.int (i / j), μ) else none
  | .Mod, .int i, .int j => if 0 < j then some (.int (i % j), μ) else none
  | .Pow, .int i, .int j => if 0 ≤ j ∧ j ≤ 1000000 ∧ i.natAbs < 2 ^ 64 then some (.int (i ^ j.toNat), μ) else none
  | _, _, _ => none

/-- data without refs: compared item by item -/
def flatP : PV → Bool
  | .tup _ => false
  | .rol _ => false
  | .loc _ => false
  | _ => true
def eqF : PV → PV → Bool
  | .int i, .int j => decide (i = j)
  | .str x, .str y => decide (x = y)
  | .non, .non => true
  | .bl x, .bl y => decide (x = y)
  | .int i, .bl y => decide (i = if y then 1 else 0)
  | .bl x, .int j => decide ((if x then 1 else 0) = j)
  | _, _ => false
def inP (p q : PV) (μ : Sto) : Option Bool := match q with
  | .tup xs => if flatP p = true ∧ xs.all flatP = true then some (xs.any fun y => eqF y p) else none
  | .loc n => match cellL μ n with
    | some xs => if flatP p = true ∧ xs.all flatP = true then some (xs.any fun y => eqF y p) else none
    | none => none
  | .str z => match p with
    | .str x => some (!(Builtin.Str.occurrences z x 0 z.length 1).isEmpty)
    | _ => none
  | _ => none
def cmpB (o : CmpOp) (p q : PV) (μ : Sto) : Option Bool := match o with
  | .Eq => eqP p q μ
  | .NotEq => (eqP p q μ).map (!·)
  | .Is => match q with
    | .non => some (decide (p = .non))
    | _ => none
  | .IsNot => match q with
    | .non => some (!decide (p = .non))
    | _ => none
  | .In => inP p q μ
  | .NotIn => (inP p q μ).map (!·)
  | .Lt => match p, q with
    | .int i, .int j => some (decide (i < j))
    | _, _ => none
  | .LtE => match p, q with
    | .int i, .int j => some (decide (i ≤ j))
    | _, _ => none
  | .Gt => match p, q with
    | .int i, .int j => some (decide (j < i))
    | _, _ => none
  | .GtE => match p, q with
    | .int i, .int j => some (decide (j ≤ i))
    | _, _ => none
def cmpP (o : CmpOp) (p q : PV) (μ : Sto) : Option (PV × Sto) := (cmpB o p q μ).map fun b => (.bl b, μ)

def cutP (xs : List PV) (lo hi : Option Int) : List PV := (xs.drop (HT.sIx xs.length 0 lo)).take (HT.sIx xs.length xs.length hi - HT.sIx xs.length 0 lo)
def slP (p : PV) (lo hi : Option Int) (μ : Sto) : Option (PV × Sto) := match p with
  | .tup xs => some (.tup (cutP xs lo hi), μ)
  | .rol xs => newC (.lst (cutP xs lo hi)) μ
  | .loc n => match cellL μ n with
    | some xs => newC (.lst (cutP xs lo hi)) μ
    | none => none
  | .str z => if z.length ≤ sizeLine then some (.str (cutS z lo hi), μ) else none
  | _ => none
def ixP (p q : PV) (μ : Sto) : Option (PV × Sto) := match p, q with
  | .tup xs, .int i => (atI xs i).map fun v => (v, μ)
  | .rol xs, .int i => (atI xs i).map fun v => (v, μ)
  | .loc n, .int i => match cellL μ n with
    | some xs => (atI xs i).map fun v => (v, μ)
    | none => none
  | .str z, .int i => if z.length ≤ sizeLine then (atI z.cps.toList i).map fun c => (.str ⟨#[c]⟩, μ) else none
  | _, _ => none
def setP (o i v : PV) (μ : Sto) : Option Sto := match o, i with
  | .loc n, .int k => match μ[n]? with
    | some (.lst xs) => (ixN xs.length k).map fun j => μ.set n (.lst (xs.set j v))
    | _ => none
  | _, _ => none

/-! ### built-ins -/
def asInts : List PV → Option (List Int)
  | [] => some []
  | .int i :: r => (asInts r).map (i :: ·)
  | _ :: _ => none
def asBools : List PV → Option (List Bool)
  | [] => some []
  | .bl i :: r => (asBools r).map (i :: ·)
  | _ :: _ => none
def asStrs : List PV → Option (List Str)
  | [] => some []
  | .str i :: r => (asStrs r).map (i :: ·)
  | _ :: _ => none
def insI (x : Int) : List Int → List Int
  | [] => [x]
  | y :: r => if x ≤ y then x :: y :: r else y :: insI x r
def isort : List Int → List Int
  | [] => []
  | x :: r => insI x (isort r)
def keyI : Key → Option Int
  | .inl i => some i
  | .inr _ => none
def allSome {α β : Type} (f : α → Option β) : List α → Option (List β)
  | [] => some []
  | x :: r => match f x with
    | some y => (allSome f r).map (y :: ·)
    | none => none
def leP (p q : Int × Int) : Bool := decide (p.1 < q.1 ∨ (p.1 = q.1 ∧ p.2 ≤ q.2))
/-- pairs in their sequence -/
def psort (ps : List (Int × Int)) : List (Int × Int) := ps.mergeSort leP
def pairP (p : Int × Int) : PV := .tup [.int p.1, .int p.2]
def asPairs : List PV → Option (List (Int × Int))
  | [] => some []
  | .tup [.int i, .int j] :: r => (asPairs r).map ((i, j) :: ·)
  | _ :: _ => none
def maxL : Int → List Int → Int
  | m, [] => m
  | m, x :: r => maxL (if x > m then x else m) r
def dedup : List Int → List Int
  | [] => []
  | x :: r => x :: (dedup r).filter fun y => decide (y ≠ x)
def isTy (T : String) : PV → Sto → Option Bool := fun p μ => match p with
  | .non => kitB "NoneType" T
  | .bl _ => kitB "bool" T
  | .int _ => kitB "int" T
  | .str _ => kitB "str" T
  | .tup _ => kitB "tuple" T
  | .rol _ => none
  | .loc n => match μ[n]? with
    | some (.lst _) => kitB "list" T
    | some (.dic _) => kitB "dict" T
    | none => none
def joinL : List Nat → List (List Nat) → List Nat
  | _, [] => []
  | _, [x] => x
  | s, x :: r => x ++ s ++ joinL s r
/-- what repr takes here -/
def reprF : PV → Bool
  | .int _ => true
  | .tup _ => true
  | .rol _ => true
  | .loc _ => true
  | _ => false
def biP (b : Bi) (vs : List PV) (μ : Sto) : Option (PV × Sto) := match b, vs with
  | .len, [.tup xs] => some (.int xs.length, μ)
  | .len, [.rol xs] => some (.int xs.length, μ)
  | .len, [.str x] => if x.length ≤ sizeLine then some (.int x.length, μ) else none
  | .len, [.loc n] => match cellL μ n with
    | some xs => some (.int xs.length, μ)
    | none => none
  | .all, [.loc n] => match cellL μ n with
    | some xs => (asBools xs).map fun bs => (.bl (bs.all id), μ)
    | none => none
  | .any, [.loc n] => match cellL μ n with
    | some xs => (asBools xs).map fun bs => (.bl (bs.any id), μ)
    | none => none
  | .max2, [.int i, .int j] => some (.int (if j > i then j else i), μ)
  | .min2, [.int i, .int j] => some (.int (if j < i then j else i), μ)
  | .max1, [.loc n] => match cellL μ n with
    | some xs => match asInts xs with
      | some (x :: r) => some (.int (maxL x r), μ)
      | _ => none
    | none => none
  | .sum, [.loc n] => match cellL μ n with
    | some xs => (asInts xs).map fun is => (.int is.sum, μ)
    | none => none
  | .tuple, [.tup xs] => some (.tup xs, μ)
  | .tuple, [.loc n] => match cellL μ n with
    | some xs => some (.tup xs, μ)
    | none => none
  | .list, [.tup xs] => if xs.length ≤ sizeLine then newC (.lst xs) μ else none
  | .list, [.rol xs] => newC (.lst xs) μ
  | .list, [.loc n] => match cellL μ n with
    | some xs => newC (.lst xs) μ
    | none => none
  | .sorted, [.loc n] => match μ[n]? with
    | some (.lst xs) => match asInts xs with
      | some is => newC (.lst ((isort is).map .int)) μ
      | none => none
    | some (.dic kvs) => match allSome keyI (kvs.map (·.1)) with
      | some is => if is.length < 64 then newC (.lst ((isort is).map .int)) μ else none
      | none => none
    | _ => none
  | .sorted, [.tup xs] => match asPairs xs with
    | some ps => newC (.lst ((psort ps).map pairP)) μ
    | none => none
  | .sset, [.loc n] => match μ[n]? with
    | some (.lst xs) => match asInts xs with
      | some is => if is.length < 63 then newC (.lst ((isort (dedup is)).map .int)) μ else none
      | none => none
    | _ => none
  | .int, [.int i] => some (.int i, μ)
  | .int, [.bl k] => some (.int (if k then 1 else 0), μ)
  | .int, [.str a] => if a.length ≤ 640 then (intText? a).map fun n => (.int n, μ) else none
  | .str, [.int i] => if i.natAbs.log2 < 1920 then some (.str (toString i), μ) else none
  | .abs, [.int i] => some (.int (if i < 0 then -i else i), μ)
  | .repr, [p] => match dat μ p with
    | some d => if d.shown.length ≤ sizeLine ∧ d.depth ≤ 60 ∧ d.showable = true ∧ reprF p = true then some (.str d.shown, μ) else none
    | none => none
  | _, _ => none
def mxdP (a d : PV) (μ : Sto) : Option (PV × Sto) := match a with
  | .loc n => match cellL μ n with
    | some xs => match asInts xs with
      | some (x :: r) => some (.int (maxL x r), μ)
      | some [] => some (d, μ)
      | none => none
    | none => none
  | _ => none
/-- the receiver is one -/
def recvB (m : Me) (o : PV) (μ : Sto) : Bool := match m, o with
  | .join, .str _ => true
  | .join, _ => false
  | _, .loc n => match μ[n]? with
    | some (.lst _) => true
    | _ => false
  | _, _ => false
def meP (m : Me) (o : PV) (vs : List PV) (μ : Sto) : Option (PV × Sto) := match m, o, vs with
  | .append, .loc n, [v] => match μ[n]? with
    | some (.lst xs) => if xs.length < sizeLine then some (.non, μ.set n (.lst (xs ++ [v]))) else none
    | _ => none
  | .extend, .loc n, [.tup ys] => match μ[n]? with
    | some (.lst xs) => if xs.length + ys.length ≤ sizeLine then some (.non, μ.set n (.lst (xs ++ ys))) else none
    | _ => none
  | .extend, .loc n, [.loc m] => match μ[n]?, μ[m]? with
    | some (.lst xs), some (.lst ys) => if xs.length + ys.length ≤ sizeLine then some (.non, μ.set n (.lst (xs ++ ys))) else none
    | _, _ => none
  | .pop, .loc n, [] => match μ[n]? with
    | some (.lst xs) => match xs[xs.length - 1]? with
      | some y => some (y, μ.set n (.lst xs.dropLast))
      | none => none
    | _ => none
  | .join, .str z, [.loc n] => match cellL μ n with
    | some xs => match asStrs xs with
      | some ys => if (ys.map (·.length)).sum + ys.length * z.length ≤ 16777216 then some (.str (Str.join z ys), μ) else none
      | none => none
    | none => none
  | _, _, _ => none

/-! ### targets -/
mutual
def bindT : Tg → PV → Env' → Option Env'
  | .nm i, p, ρ => some (ρ.set i (some p))
  | .tp ts, p, ρ => match p with
    | .tup ps => bindTs ts ps ρ
    | _ => none
def bindTs : List Tg → List PV → Env' → Option Env'
  | [], [], ρ => some ρ
  | t :: ts, p :: ps, ρ => match bindT t p ρ with
    | some ρ1 => bindTs ts ps ρ1
    | none => none
  | _, _, _ => none
end
def wipeE (ρ : Env') : List Nat → Env'
  | [] => ρ
  | v :: vs => (wipeE ρ vs).set v none

/-! ### what is walked: the items, and the cells that have to stay -/
abbrev Chk := List (Nat × MO)
def chkOk (c : Chk) (μ : Sto) : Bool := c.all fun x => decide (μ[x.1]? = some x.2)
def seqI (p : PV) (μ : Sto) : Option (List PV × Chk) := match p with
  | .tup xs => some (xs, [])
  | .rol xs => some (xs, [])
  | .loc n => match μ[n]? with
    | some (.lst xs) => some (xs, [(n, .lst xs)])
    | _ => none
  | _ => none
def isTup : PV → Bool
  | .tup _ => true
  | _ => false
def numI (xs : List PV) : List PV := (List.range xs.length).zipWith (fun i x => .tup [.int (i : Nat), x]) xs
def rangeI (n : Int) : List PV := (List.range n.toNat).map fun i => .int (i : Nat)

/-- a comprehension's turns: acc is what it has made -/
def lcE (c : Chk) (turn : PV → Sto → Option (Option PV × Sto)) : List PV → List PV → Sto → Option (List PV × Sto)
  | [], acc, μ => if chkOk c μ = true then some (acc, μ) else none
  | x :: xs, acc, μ => if chkOk c μ = true then seqO (turn x μ) fun r μ1 => match r with
      | some y => if acc.length < sizeLine then lcE c turn xs (acc ++ [y]) μ1 else none
      | none => lcE c turn xs acc μ1
    else none
def lc2E (c : Chk) (turn : PV → List PV → Sto → Option (List PV × Sto)) : List PV → List PV → Sto → Option (List PV × Sto)
  | [], acc, μ => if chkOk c μ = true then some (acc, μ) else none
  | x :: xs, acc, μ => if chkOk c μ = true then seqO (turn x acc μ) fun acc1 μ1 => lc2E c turn xs acc1 μ1 else none
def keyOf : PV → Option Key
  | .int i => some (.inl i)
  | .str x => some (.inr x)
  | _ => none
def putP (kvs : List (Key × PV)) (k : Key) (v : PV) : List (Key × PV) :=
  if (kvs.any fun p => decide (p.1 = k)) = true then kvs.map (fun p => if p.1 = k then (p.1, v) else p) else kvs ++ [(k, v)]
def dcE (c : Chk) (turn : PV → Sto → Option (Option (Key × PV) × Sto)) : List PV → List (Key × PV) → Sto → Option (List (Key × PV) × Sto)
  | [], acc, μ => if chkOk c μ = true then some (acc, μ) else none
  | x :: xs, acc, μ => if chkOk c μ = true then seqO (turn x μ) fun r μ1 => match r with
      | some y => if acc.length < sizeLine then dcE c turn xs (putP acc y.1 y.2) μ1 else none
      | none => dcE c turn xs acc μ1
    else none

/-- the tests of a comprehension -/
def testB (r : Option (PV × Sto)) : Option (Bool × Sto) := match r with
  | some (.bl b, μ) => some (b, μ)
  | _ => none

variable (Φ : Nat → List PV → Sto → Option (PV × Sto))
mutual
def evE : E → Env' → Sto → Option (PV × Sto)
  | .var i, ρ, μ => match ρ[i]? with
    | some (some p) => some (p, μ)
    | _ => none
  | .cst p, _, μ => some (p, μ)
  | .glo _ p, _, μ => some (p, μ)
  | .bin o a b, ρ, μ => seqO (evE a ρ μ) fun x μ1 => seqO (evE b ρ μ1) fun y μ2 => binP o x y μ2
  | .neg a, ρ, μ => seqO (evE a ρ μ) fun x μ1 => match x with
    | .int i => some (.int (-i), μ1)
    | _ => none
  | .cmp o a b, ρ, μ => seqO (evE a ρ μ) fun x μ1 => seqO (evE b ρ μ1) fun y μ2 => cmpP o x y μ2
  | .chn o o' a b c, ρ, μ => seqO (evE a ρ μ) fun x μ1 => seqO (evE b ρ μ1) fun y μ2 => match cmpB o x y μ2 with
    | some true => seqO (evE c ρ μ2) fun z μ3 => cmpP o' y z μ3
    | some false => some (.bl false, μ2)
    | none => none
  | .bo k es, ρ, μ => evB k es ρ μ
  | .nt a, ρ, μ => seqO (testB (evE a ρ μ)) fun b μ1 => some (.bl (!b), μ1)
  | .ite c a b, ρ, μ => seqO (testB (evE c ρ μ)) fun t μ1 => if t = true then evE a ρ μ1 else evE b ρ μ1
  | .tup es, ρ, μ => seqO (evEs es ρ μ) fun vs μ1 => if vs.length ≤ sizeLine then some (.tup vs, μ1) else none
  | .lst es, ρ, μ => seqO (evEs es ρ μ) fun vs μ1 => if vs.length ≤ sizeLine then newC (.lst vs) μ1 else none
  | .ix a b, ρ, μ => seqO (evE a ρ μ) fun x μ1 => seqO (evE b ρ μ1) fun y μ2 => ixP x y μ2
  | .slL a lo, ρ, μ => seqO (evE a ρ μ) fun x μ1 => seqO (evE lo ρ μ1) fun l μ2 => match l with
    | .int i => slP x (some i) none μ2
    | _ => none
  | .slU a hi, ρ, μ => seqO (evE a ρ μ) fun x μ1 => seqO (evE hi ρ μ1) fun l μ2 => match l with
    | .int i => slP x none (some i) μ2
    | _ => none
  | .slB a lo hi, ρ, μ => seqO (evE a ρ μ) fun x μ1 => seqO (evE lo ρ μ1) fun l μ2 => seqO (evE hi ρ μ2) fun u μ3 => match l, u with
    | .int i, .int j => slP x (some i) (some j) μ3
    | _, _ => none
  | .call j es, ρ, μ => seqO (evEs es ρ μ) fun vs μ1 => Φ j vs μ1
  | .callK j perm n es, ρ, μ => seqO (evEs es ρ μ) fun vs μ1 => match allSome (fun i => vs[i]?) perm with
    | some ws => Φ j ws μ1
    | none => none
  | .bi b es, ρ, μ => seqO (evEs es ρ μ) fun vs μ1 => biP b vs μ1
  | .mxd a d, ρ, μ => seqO (evE a ρ μ) fun x μ1 => seqO (evE d ρ μ1) fun y μ2 => mxdP x y μ2
  | .isi a T, ρ, μ => seqO (evE a ρ μ) fun x μ1 => (isTy T.toString x μ1).map fun b => (.bl b, μ1)
  | .me m o es, ρ, μ => seqO (evE o ρ μ) fun x μ1 => if recvB m x μ1 = true then seqO (evEs es ρ μ1) fun vs μ2 => meP m x vs μ2 else none
  | .lc own elt tg it cs, ρ, μ => seqO (evI it ρ μ) fun xc μ1 =>
      seqO (lcE xc.2 (fun x μ2 => match bindT tg x (wipeE ρ (own.map (·.2))) with
        | some ρ1 => seqO (testB (evB true cs ρ1 μ2)) fun b μ3 => if b = true then (evE elt ρ1 μ3).map fun r => (some r.1, r.2) else some (none, μ3)
        | none => none) xc.1 [] μ1) fun acc μ4 => newC (.lst acc) μ4
  | .lc2 own own1 elt tg it tg1 it1, ρ, μ => seqO (evI it ρ μ) fun xc μ1 =>
      seqO (lc2E xc.2 (fun x acc μ2 => match bindT tg x (wipeE ρ (own.map (·.2))) with
        | some ρ1 => seqO (evI it1 ρ1 μ2) fun xc1 μ3 => lcE xc1.2 (fun y μ4 => match bindT tg1 y (wipeE ρ1 own1) with
            | some ρ2 => (evE elt ρ2 μ4).map fun r => (some r.1, r.2)
            | none => none) xc1.1 acc μ3
        | none => none) xc.1 [] μ1) fun acc μ4 => newC (.lst acc) μ4
  | .dc own k v tg it cs, ρ, μ => seqO (evI it ρ μ) fun xc μ1 =>
      seqO (dcE xc.2 (fun x μ2 => match bindT tg x (wipeE ρ (own.map (·.2))) with
        | some ρ1 => seqO (testB (evB true cs ρ1 μ2)) fun b μ3 => if b = true then seqO (evE k ρ1 μ3) fun kv μ4 => seqO (evE v ρ1 μ4) fun vv μ5 => (keyOf kv).map fun kk => (some (kk, vv), μ5) else some (none, μ3)
        | none => none) xc.1 [] μ1) fun acc μ4 => newC (.dic acc) μ4
/-- and, or: of truths alone -/
def evB : Bool → Es → Env' → Sto → Option (PV × Sto)
  | k, .nil, _, μ => some (.bl k, μ)
  | k, .cons e es, ρ, μ => seqO (testB (evE e ρ μ)) fun b μ1 => if b = k then evB k es ρ μ1 else some (.bl b, μ1)
def evEs : Es → Env' → Sto → Option (List PV × Sto)
  | .nil, _, μ => some ([], μ)
  | .cons e es, ρ, μ => seqO (evE e ρ μ) fun x μ1 => seqO (evEs es ρ μ1) fun xs μ2 => some (x :: xs, μ2)
def evI : It' → Env' → Sto → Option ((List PV × Chk) × Sto)
  | .val e, ρ, μ => seqO (evE e ρ μ) fun x μ1 => (seqI x μ1).map fun r => (r, μ1)
  | .en e, ρ, μ => seqO (evE e ρ μ) fun x μ1 => if isTup x = true then none else (seqI x μ1).map fun r => ((numI r.1, r.2), μ1)
  | .zp a b, ρ, μ => seqO (evE a ρ μ) fun x μ1 => seqO (evE b ρ μ1) fun y μ2 => if isTup x = isTup y then match seqI x μ2, seqI y μ2 with
      | some r, some t => some ((r.1.zipWith (fun u v => .tup [u, v]) t.1, r.2 ++ t.2), μ2)
      | _, _ => none
    else none
  | .rg a, ρ, μ => seqO (evE a ρ μ) fun x μ1 => match x with
    | .int n => if -(2 ^ 62) ≤ n ∧ n < 2 ^ 62 then some ((rangeI n, []), μ1) else none
    | _ => none
end

/-- how a statement ends -/
inductive Out where
  | nx (ρ : Env') (μ : Sto)
  | rt (p : PV) (μ : Sto)
  | bk (ρ : Env') (μ : Sto)
  | ct (ρ : Env') (μ : Sto)
def thenO (o : Option Out) (k : Env' → Sto → Option Out) : Option Out := match o with
  | some (.nx ρ μ) => k ρ μ
  | o => o
@[simp] theorem thenO_nx {ρ : Env'} {μ : Sto} {k : Env' → Sto → Option Out} : thenO (some (.nx ρ μ)) k = k ρ μ := rfl
@[simp] theorem thenO_rt {p : PV} {μ : Sto} {k : Env' → Sto → Option Out} : thenO (some (.rt p μ)) k = some (.rt p μ) := rfl
@[simp] theorem thenO_bk {ρ : Env'} {μ : Sto} {k : Env' → Sto → Option Out} : thenO (some (.bk ρ μ)) k = some (.bk ρ μ) := rfl
@[simp] theorem thenO_ct {ρ : Env'} {μ : Sto} {k : Env' → Sto → Option Out} : thenO (some (.ct ρ μ)) k = some (.ct ρ μ) := rfl
@[simp] theorem thenO_none {k : Env' → Sto → Option Out} : thenO none k = none := rfl
def loopO (o : Option Out) (k : Env' → Sto → Option Out) : Option Out := match o with
  | some (.nx ρ μ) => k ρ μ
  | some (.ct ρ μ) => k ρ μ
  | some (.bk ρ μ) => some (.nx ρ μ)
  | some (.rt p μ) => some (.rt p μ)
  | none => none
def forE (c : Chk) (tg : Tg) (body : Env' → Sto → Option Out) : List PV → Env' → Sto → Option Out
  | [], ρ, μ => if chkOk c μ = true then some (.nx ρ μ) else none
  | x :: xs, ρ, μ => if chkOk c μ = true then match bindT tg x ρ with
      | some ρ1 => loopO (body ρ1 μ) fun ρ2 μ2 => forE c tg body xs ρ2 μ2
      | none => none
    else none
def whileE (cond : Env' → Sto → Option (Bool × Sto)) (body : Env' → Sto → Option Out) : Nat → Env' → Sto → Option Out
  | 0, _, _ => none
  | n + 1, ρ, μ => seqO (cond ρ μ) fun b μ1 => if b = true then loopO (body ρ μ1) fun ρ2 μ2 => whileE cond body n ρ2 μ2 else some (.nx ρ μ1)
def augP (o : Operator) (x y : PV) : Option PV := match o, x, y with
  | .Add, .int a, .int b => some (.int (a + b))
  | .Sub, .int a, .int b => some (.int (a - b))
  | _, _, _ => none
/-- no while goes on for so long -/
def fuelW : Nat := 1099511627776
mutual
def evS : S → Env' → Sto → Option Out
  | .asg tg e, ρ, μ => seqO (evE Φ e ρ μ) fun x μ1 => (bindT tg x ρ).map fun ρ1 => .nx ρ1 μ1
  | .sub o i v, ρ, μ => seqO (evE Φ v ρ μ) fun x μ1 => seqO (evE Φ o ρ μ1) fun y μ2 => seqO (evE Φ i ρ μ2) fun z μ3 => (setP y z x μ3).map fun μ4 => .nx ρ μ4
  | .ex e, ρ, μ => seqO (evE Φ e ρ μ) fun _ μ1 => some (.nx ρ μ1)
  | .ret e, ρ, μ => seqO (evE Φ e ρ μ) fun x μ1 => some (.rt x μ1)
  | .iff c a b, ρ, μ => seqO (testB (evE Φ c ρ μ)) fun t μ1 => if t = true then evSs a ρ μ1 else evSs b ρ μ1
  | .wh c b, ρ, μ => whileE (fun ρ μ => testB (evE Φ c ρ μ)) (fun ρ μ => evSs b ρ μ) fuelW ρ μ
  | .fo tg it b, ρ, μ => seqO (evI Φ it ρ μ) fun xc μ1 => forE xc.2 tg (fun ρ μ => evSs b ρ μ) xc.1 ρ μ1
  | .aug i o e, ρ, μ => match ρ[i]? with
    | some (some x) => seqO (evE Φ e ρ μ) fun y μ1 => (augP o x y).map fun z => .nx (ρ.set i (some z)) μ1
    | _ => none
  | .stop, _, _ => none
  | .cont, ρ, μ => some (.ct ρ μ)
  | .brk, ρ, μ => some (.bk ρ μ)
def evSs : Ss → Env' → Sto → Option Out
  | .nil, ρ, μ => some (.nx ρ μ)
  | .cons s r, ρ, μ => thenO (evS s ρ μ) fun ρ1 μ1 => evSs r ρ1 μ1
end
end
/-- a def: its parameters' number, its slots' number, its body -/
structure Fd where
  ar : Nat
  ns : Nat
  body : Ss
def runF (Φ : Nat → List PV → Sto → Option (PV × Sto)) (d : Fd) (vs : List PV) (μ : Sto) : Option (PV × Sto) :=
  if vs.length = d.ar then match evSs Φ d.body (vs.map some ++ List.replicate (d.ns - vs.length) none) μ with
    | some (.rt p μ1) => some (p, μ1)
    | some (.nx _ μ1) => some (.non, μ1)
    | _ => none
  else none
/-- the defs of a table, called at most so deep -/
def runT (T : List Fd) : Nat → Nat → List PV → Sto → Option (PV × Sto)
  | 0, _, _, _ => none
  | k + 1, j, vs, μ => match T[j]? with
    | some d => runF (runT T k) d vs μ
    | none => none
end Pv
end

section
set_option Elab.async false
set_option linter.all false
set_option maxRecDepth 100000
/-! Pv: the readings tM, tB', tS of own meanings; the rules of expressions. -/
namespace Pv
open PySem PySem.Spec L2

section
variable (K : PySem.W.Frag)
structure Rel (ι : List Addr) (μ : Sto) (ρ : Env') (σ : L2.St) (H : Hp) : Prop where
  st : StR K H ι μ
  env : EnvR K H ι ρ σ
/-- an expression's reading by own values -/
def tM (m : Env' → Sto → Option (PV × Sto)) : TE := fun σ H Q => ∃ ι μ ρ p μ', Rel K ι μ ρ σ H ∧ m ρ μ = some (p, μ') ∧ ∀ ι' H' v, StR K H' ι' μ' → Ext ι H ι' H' → Rl K H' ι' p v → Q v H'
def tMB (m : Env' → Sto → Option (Bool × Sto)) : TT := fun σ H Q => ∃ ι μ ρ b μ', Rel K ι μ ρ σ H ∧ m ρ μ = some (b, μ') ∧ ∀ ι' H', StR K H' ι' μ' → Ext ι H ι' H' → Q b H'
def tMA (m : Env' → Sto → Option (List PV × Sto)) : TA := fun σ H Q => ∃ ι μ ρ ps μ', Rel K ι μ ρ σ H ∧ m ρ μ = some (ps, μ') ∧ ∀ ι' H' vs, StR K H' ι' μ' → Ext ι H ι' H' → Rls K H' ι' ps vs → Q vs H'
/-- what is wanted behind an outcome -/
def Fit (ι : List Addr) (H : Hp) (o : Out) (D : Ends) : Prop := match o with
  | .nx ρ' μ' => ∀ ι' H' σ', StR K H' ι' μ' → EnvR K H' ι' ρ' σ' → Ext ι H ι' H' → D.nx σ' H'
  | .rt p μ' => ∀ ι' H' v, StR K H' ι' μ' → Ext ι H ι' H' → Rl K H' ι' p v → D.rt v H'
  | .bk ρ' μ' => ∀ ι' H' σ', StR K H' ι' μ' → EnvR K H' ι' ρ' σ' → Ext ι H ι' H' → D.bk σ' H'
  | .ct ρ' μ' => ∀ ι' H' σ', StR K H' ι' μ' → EnvR K H' ι' ρ' σ' → Ext ι H ι' H' → D.ct σ' H'
def tMS (m : Env' → Sto → Option Out) : TS := fun D σ H => ∃ ι μ ρ o, Rel K ι μ ρ σ H ∧ m ρ μ = some o ∧ Fit K ι H o D
/-- a def's promise by own values -/
def spM (n : Nat) (m : List PV → Sto → Option (PV × Sto)) : Sp := fun vs H Q _ => ∃ ι μ ps p μ', StR K H ι μ ∧ Rls K H ι ps vs ∧ ps.length = n ∧ m ps μ = some (p, μ') ∧ ∀ ι' H' v, StR K H' ι' μ' → Ext ι H ι' H' → Rl K H' ι' p v → Q v H'
end
/-- an operator by own values -/
def r2M (K : PySem.W.Frag) (f : PV → PV → Sto → Option (PV × Sto)) : R2 := fun x y H Q => ∃ ι μ p q r μ', StR K H ι μ ∧ Rl K H ι p x ∧ Rl K H ι q y ∧ f p q μ = some (r, μ') ∧ ∀ ι' H' v, StR K H' ι' μ' → Ext ι H ι' H' → Rl K H' ι' r v → Q v H'
def rAM (K : PySem.W.Frag) (f : List PV → Sto → Option (PV × Sto)) : List V → Hp → VK → Prop := fun xs H Q => ∃ ι μ ps r μ', StR K H ι μ ∧ Rls K H ι ps xs ∧ f ps μ = some (r, μ') ∧ ∀ ι' H' v, StR K H' ι' μ' → Ext ι H ι' H' → Rl K H' ι' r v → Q v H'

abbrev QE (X : Cx) (x : Expr) (m : Env' → Sto → Option (PV × Sto)) : Prop := PE X x (tM X.K m)
abbrev QT (X : Cx) (x : Expr) (m : Env' → Sto → Option (PV × Sto)) : Prop := PT X x (tMB X.K fun ρ μ => testB (m ρ μ))
abbrev QA (X : Cx) (xs : List Expr) (m : Env' → Sto → Option (List PV × Sto)) : Prop := PA X xs (tMA X.K m)

section
variable {X : Cx} {K : PySem.W.Frag}
theorem PE.le {e : Expr} {t t' : TE} (h : PE X e t) (k : ∀ σ H Q, t' σ H Q → t σ H Q) : PE X e t' := ⟨fun pins s σ H Q I q => h.run pins s σ H Q I (k σ H Q q)⟩
theorem PT.le {e : Expr} {t t' : TT} (h : PT X e t) (k : ∀ σ H Q, t' σ H Q → t σ H Q) : PT X e t' := ⟨fun pins s σ H Q I q => h.run pins s σ H Q I (k σ H Q q)⟩
theorem PW.le {e : Expr} {t t' : TT} (h : PW X e t) (k : ∀ σ H Q, t' σ H Q → t σ H Q) : PW X e t' := ⟨fun wh pins s σ H Q I q => h.run wh pins s σ H Q I (k σ H Q q)⟩
theorem PA.le {e : List Expr} {t t' : TA} (h : PA X e t) (k : ∀ σ H Q, t' σ H Q → t σ H Q) : PA X e t' := ⟨fun pos pins s σ H Q I q => h.run pos pins s σ H Q I (k σ H Q q)⟩
theorem PS.le {e : Stmt} {t t' : TS} (h : PS X e t) (k : ∀ D σ H, t' D σ H → t D σ H) : PS X e t' := ⟨fun pins s σ H D I q => h.run pins s σ H D I (k D σ H q)⟩
theorem PSs.le {e : List Stmt} {t t' : TS} (h : PSs X e t) (k : ∀ D σ H, t' D σ H → t D σ H) : PSs X e t' := ⟨fun pins s σ H D I q => h.run pins s σ H D I (k D σ H q)⟩

/-- first this, then what is wanted behind it -/
theorem tM_go {ι : List Addr} {μ : Sto} {ρ : Env'} {σ : L2.St} {H : Hp} {m : Env' → Sto → Option (PV × Sto)} {p : PV} {μ1 : Sto} {Q : VK} (r : Rel K ι μ ρ σ H) (e : m ρ μ = some (p, μ1))
    (h : ∀ ι1 H1 v, Rel K ι1 μ1 ρ σ H1 → Ext ι H ι1 H1 → Rl K H1 ι1 p v → Q v H1) : tM K m σ H Q :=
  ⟨ι, μ, ρ, p, μ1, r, e, fun ι1 H1 v s x q => h ι1 H1 v ⟨s, r.env.ext r.st x⟩ x q⟩
theorem tMB_go {ι : List Addr} {μ : Sto} {ρ : Env'} {σ : L2.St} {H : Hp} {m : Env' → Sto → Option (Bool × Sto)} {b : Bool} {μ1 : Sto} {Q : Bool → Hp → Prop} (r : Rel K ι μ ρ σ H) (e : m ρ μ = some (b, μ1))
    (h : ∀ ι1 H1, Rel K ι1 μ1 ρ σ H1 → Ext ι H ι1 H1 → Q b H1) : tMB K m σ H Q :=
  ⟨ι, μ, ρ, b, μ1, r, e, fun ι1 H1 s x => h ι1 H1 ⟨s, r.env.ext r.st x⟩ x⟩
theorem tMA_go {ι : List Addr} {μ : Sto} {ρ : Env'} {σ : L2.St} {H : Hp} {m : Env' → Sto → Option (List PV × Sto)} {ps : List PV} {μ1 : Sto} {Q : List V → Hp → Prop} (r : Rel K ι μ ρ σ H) (e : m ρ μ = some (ps, μ1))
    (h : ∀ ι1 H1 vs, Rel K ι1 μ1 ρ σ H1 → Ext ι H ι1 H1 → Rls K H1 ι1 ps vs → Q vs H1) : tMA K m σ H Q :=
  ⟨ι, μ, ρ, ps, μ1, r, e, fun ι1 H1 v s x q => h ι1 H1 v ⟨s, r.env.ext r.st x⟩ x q⟩

/-! ### names, constants -/
theorem q_var {i : Nat} {x : Str} {pos : Pos} (hN : X.N[i]? = some x) (hv : Vis X.env.scope x) (hd : (x == ("__debug__" : Str)) = false) (hcd : (x == ("__classdict__" : Str)) = false) {Φ} : QE X (.Name x pos) (evE Φ (.var i)) := by
  refine PE.le (pe_var hN hv hd hcd) fun σ H Q h => ?_
  obtain ⟨ι, μ, ρ, p, μ', r, e, q⟩ := h
  simp only [evE] at e
  split at e
  · rename_i p' hp
    obtain ⟨rfl, rfl⟩ := Prod.mk.inj (Option.some.inj e)
    obtain ⟨v, hs, rl⟩ := r.env.2 i _ hp
    exact ⟨v, hs, q ι H v r.st .refl rl⟩
  · cases e
def cstB : PV → Const → Bool
  | .non, .none => true
  | .bl a, .bool b => decide (a = b)
  | .int a, .int b => decide (a = b)
  | .str a, .str b => decide (a = b)
  | _, _ => false
theorem q_cst {p : PV} {c : Const} {j : Nat} {pos : Pos} (h : cstB p c = true) {Φ} : QE X (.Constant c j pos) (evE Φ (.cst p)) := by
  have go : ∀ {v : V}, PE X (.Constant c j pos) (tC v) → (∀ ι H, Rl X.K H ι p v) → QE X (.Constant c j pos) (evE Φ (.cst p)) := fun {v} k r => PE.le k fun σ H Q h => by
    obtain ⟨ι, μ, ρ, p', μ', rr, e, q⟩ := h
    simp only [evE] at e
    obtain ⟨rfl, rfl⟩ := Prod.mk.inj (Option.some.inj e)
    exact q ι H v rr.st .refl (r ι H)
  cases p <;> cases c <;> simp only [cstB] at h <;> first
    | exact go pe_non fun _ _ => rfl
    | (have e := of_decide_eq_true h; subst e; first | exact go pe_bl fun _ _ => rfl | exact go pe_int fun _ _ => rfl | exact go pe_str fun _ _ => rfl)
    | cases h
theorem q_glo {x : Str} {p : PV} {pos : Pos} {u : Value} {v : V} (hg : Gl X x) (hm : X.mg x = some u) (r : RelV v u) (rl : ∀ ι H, Rl X.K H ι p v) (hd : (x == ("__debug__" : Str)) = false) {Φ} : QE X (.Name x pos) (evE Φ (.glo x p)) := by
  refine PE.le (pe_glob hg hm r hd) fun σ H Q h => ?_
  obtain ⟨ι, μ, ρ, p', μ', rr, e, q⟩ := h
  simp only [evE] at e
  obtain ⟨rfl, rfl⟩ := Prod.mk.inj (Option.some.inj e)
  exact q ι H v rr.st .refl (rl ι H)

/-! ### two operands -/
variable {a b c : Expr} {pos : Pos}
theorem two_op {f : PV → PV → Sto → Option (PV × Sto)} {ma mb : Env' → Sto → Option (PV × Sto)} {σ : L2.St} {H : Hp} {Q : VK}
    (h : tM K (fun ρ μ => seqO (ma ρ μ) fun x μ1 => seqO (mb ρ μ1) fun y μ2 => f x y μ2) σ H Q) : tOp (r2M K f) (tM K ma) (tM K mb) σ H Q := by
  obtain ⟨ι, μ, ρ, p, μ', r, e, q⟩ := h
  obtain ⟨x, μ1, e1, e⟩ := seqO_eq e
  obtain ⟨y, μ2, e2, e⟩ := seqO_eq e
  refine tM_go r e1 fun ι1 H1 v1 r1 x1 l1 => tM_go r1 e2 fun ι2 H2 v2 r2 x2 l2 => ?_
  exact ⟨ι2, μ2, x, y, p, μ', r2.st, l1.ext r1.st x2, l2, e, fun ι' H' v s xx l => q ι' H' v s ((x1.trans x2).trans xx) l⟩
theorem q_bin {o : Operator} {f : PV → PV → Sto → Option (PV × Sto)} {ma mb : Env' → Sto → Option (PV × Sto)} (ho : OpR X (binaryOp o) (r2M X.K f)) (ha : QE X a ma) (hb : QE X b mb) :
    QE X (.BinOp a o b pos) (fun ρ μ => seqO (ma ρ μ) fun x μ1 => seqO (mb ρ μ1) fun y μ2 => f x y μ2) :=
  PE.le (pe_op ho ha hb) fun _ _ _ h => two_op h
theorem q_cmp {o : CmpOp} {f : PV → PV → Sto → Option (PV × Sto)} {ma mb : Env' → Sto → Option (PV × Sto)} (ho : OpR X (compareOp o) (r2M X.K f)) (ha : QE X a ma) (hb : QE X b mb) (hm : behindInMarks o b = false) :
    QE X (.Compare a [o] [b] pos) (fun ρ μ => seqO (ma ρ μ) fun x μ1 => seqO (mb ρ μ1) fun y μ2 => f x y μ2) :=
  PE.le (pe_cmpR ho ha hb hm) fun _ _ _ h => two_op h
theorem testB_eq {r : Option (PV × Sto)} {b : Bool} {μ : Sto} (h : testB r = some (b, μ)) : r = some (.bl b, μ) := by
  unfold testB at h
  split at h
  · obtain ⟨rfl, rfl⟩ := Prod.mk.inj (Option.some.inj h)
    rfl
  · cases h
theorem testB_of {r : Option (PV × Sto)} {b : Bool} {μ : Sto} (h : r = some (.bl b, μ)) : testB r = some (b, μ) := by
  rw [h]
  rfl
/-- a value's test from its reading -/
theorem tM_of_tMB {m : Env' → Sto → Option (PV × Sto)} {σ : L2.St} {H : Hp} {Q : Bool → Hp → Prop} (h : tMB K (fun ρ μ => testB (m ρ μ)) σ H Q) : tM K m σ H (fun x H' => ∃ k, x = .bl k ∧ Q k H') := by
  obtain ⟨ι, μ, ρ, k, μ', r, e, q⟩ := h
  refine tM_go r (testB_eq e) fun ι1 H1 v r1 x1 l => ?_
  exact ⟨k, l, q ι1 H1 r1.st x1⟩
theorem qt_cmp {o : CmpOp} {f : PV → PV → Sto → Option (PV × Sto)} {ma mb : Env' → Sto → Option (PV × Sto)} (ho : OpR X (compareOp o) (r2M X.K f)) (ha : QE X a ma) (hb : QE X b mb) (hm : behindInMarks o b = false) :
    QT X (.Compare a [o] [b] pos) (fun ρ μ => seqO (ma ρ μ) fun x μ1 => seqO (mb ρ μ1) fun y μ2 => f x y μ2) :=
  PT.le (pt_cmpR ho ha hb hm) fun _ _ _ h => two_op (tM_of_tMB h)
/-- an expression that is tested by its value -/
def plainT : Expr → Bool
  | .UnaryOp .Not _ _ => false
  | .BoolOp _ _ _ => false
  | .IfExp _ _ _ _ => false
  | .Compare _ _ _ _ => false
  | _ => true
theorem plainT_eq {e : Expr} (h : plainT e = true) {env : Env} : ∀ whole, isTrue e env whole = (do let v ← whole; standAt e.pos; holding [v] (truthy v)) := by
  intro whole
  cases e <;> first | rfl | (rename_i o _ _; cases o <;> first | rfl | cases h) | cases h
theorem qt_plain {m : Env' → Sto → Option (PV × Sto)} (h : QE X a m) (hp : plainT a = true) : QT X a m := PT.le (pt_val h (plainT_eq hp)) fun _ _ _ k => tM_of_tMB k

/-! ### chains -/
theorem chain_op {f f' : PV → PV → Sto → Option Bool} {ma mb mc : Env' → Sto → Option (PV × Sto)} {σ : L2.St} {H : Hp} {Q : VK}
    (h : tM K (fun ρ μ => seqO (ma ρ μ) fun x μ1 => seqO (mb ρ μ1) fun y μ2 => match f x y μ2 with
    | some true => seqO (mc ρ μ2) fun z μ3 => (f' y z μ3).map fun b => (PV.bl b, μ3)
    | some false => some (.bl false, μ2)
    | none => none) σ H Q) : tChain (r2M K fun p q μ => (f p q μ).map fun b => (PV.bl b, μ)) (r2M K fun p q μ => (f' p q μ).map fun b => (PV.bl b, μ)) (tM K ma) (tM K mb) (tM K mc) σ H Q := by
  obtain ⟨ι, μ, ρ, p, μ', r, e, q⟩ := h
  obtain ⟨x, μ1, e1, e⟩ := seqO_eq e
  obtain ⟨y, μ2, e2, e⟩ := seqO_eq e
  refine tM_go r e1 fun ι1 H1 v1 r1 x1 l1 => tM_go r1 e2 fun ι2 H2 v2 r2 x2 l2 => ?_
  cases ef : f x y μ2 with
  | none => rw [ef] at e; cases e
  | some k =>
    rw [ef] at e
    refine ⟨ι2, μ2, x, y, .bl k, μ2, r2.st, l1.ext r1.st x2, l2, by show (f x y μ2).map _ = _; rw [ef]; rfl, fun ι3 H3 v3 s3 x3 l3 => ⟨k, l3, ?_⟩⟩
    cases k with
    | false =>
      obtain ⟨rfl, rfl⟩ := Prod.mk.inj (Option.some.inj e)
      rw [if_neg (by decide)]
      exact q ι3 H3 _ s3 ((x1.trans x2).trans x3) rfl
    | true =>
      obtain ⟨z, μ3, e3, e⟩ := seqO_eq e
      rw [if_pos rfl]
      refine tM_go ⟨s3, r2.env.ext r2.st x3⟩ e3 fun ι4 H4 v4 r4 x4 l4 => ?_
      exact ⟨ι4, μ3, y, z, p, μ', r4.st, (l2.ext r2.st x3).ext s3 x4, l4, e, fun ι' H' v s xx l => q ι' H' v s (((x1.trans x2).trans (x3.trans x4)).trans xx) l⟩
theorem q_chn {o o' : CmpOp} {f f' : PV → PV → Sto → Option Bool} {ma mb mc : Env' → Sto → Option (PV × Sto)} (ho : OpR X (compareOp o) (r2M X.K fun p q μ => (f p q μ).map fun b => (PV.bl b, μ)))
    (ho' : OpR X (compareOp o') (r2M X.K fun p q μ => (f' p q μ).map fun b => (PV.bl b, μ))) (ha : QE X a ma) (hb : QE X b mb) (hc : QE X c mc) (hm : lastMarks [o, o'] [b, c] = false) :
    QE X (.Compare a [o, o'] [b, c] pos) (fun ρ μ => seqO (ma ρ μ) fun x μ1 => seqO (mb ρ μ1) fun y μ2 => match f x y μ2 with
    | some true => seqO (mc ρ μ2) fun z μ3 => (f' y z μ3).map fun b => (PV.bl b, μ3)
    | some false => some (.bl false, μ2)
    | none => none) :=
  PE.le (pe_chain ho ho' ha hb hc hm) fun _ _ _ h => chain_op h
theorem qt_chn {o o' : CmpOp} {f f' : PV → PV → Sto → Option Bool} {ma mb mc : Env' → Sto → Option (PV × Sto)} (ho : OpR X (compareOp o) (r2M X.K fun p q μ => (f p q μ).map fun b => (PV.bl b, μ)))
    (ho' : OpR X (compareOp o') (r2M X.K fun p q μ => (f' p q μ).map fun b => (PV.bl b, μ))) (ha : QE X a ma) (hb : QE X b mb) (hc : QE X c mc) (hm : lastMarks [o, o'] [b, c] = false) :
    QT X (.Compare a [o, o'] [b, c] pos) (fun ρ μ => seqO (ma ρ μ) fun x μ1 => seqO (mb ρ μ1) fun y μ2 => match f x y μ2 with
    | some true => seqO (mc ρ μ2) fun z μ3 => (f' y z μ3).map fun b => (PV.bl b, μ3)
    | some false => some (.bl false, μ2)
    | none => none) :=
  PT.le (pt_chain ho ho' ha hb hc hm) fun _ _ _ h => chain_op (tM_of_tMB h)

/-! ### not, if .. else -/
theorem q_nt {ma : Env' → Sto → Option (PV × Sto)} (ha : QE X a ma) : QE X (.UnaryOp .Not a pos) (fun ρ μ => seqO (testB (ma ρ μ)) fun b μ1 => some (.bl (!b), μ1)) := by
  refine PE.le (pe_not ha) fun σ H Q h => ?_
  obtain ⟨ι, μ, ρ, p, μ', r, e, q⟩ := h
  obtain ⟨b, μ1, e1, e⟩ := seqO_eq e
  obtain ⟨rfl, rfl⟩ := Prod.mk.inj (Option.some.inj e)
  refine tM_go r (testB_eq e1) fun ι1 H1 v1 r1 x1 l1 => ⟨b, l1, q ι1 H1 _ r1.st x1 rfl⟩
theorem qt_nt {ma : Env' → Sto → Option (PV × Sto)} (ha : QT X a ma) : QT X (.UnaryOp .Not a pos) (fun ρ μ => seqO (testB (ma ρ μ)) fun b μ1 => some (.bl (!b), μ1)) := by
  refine PT.le (pt_not ha) fun σ H Q h => ?_
  obtain ⟨ι, μ, ρ, p, μ', r, e, q⟩ := h
  have e := testB_eq e
  obtain ⟨b, μ1, e1, e⟩ := seqO_eq e
  obtain ⟨e2, rfl⟩ := Prod.mk.inj (Option.some.inj e)
  injection e2 with e2
  subst e2
  exact tMB_go r e1 fun ι1 H1 r1 x1 => q ι1 H1 r1.st x1
theorem if_op {mc : Env' → Sto → Option (Bool × Sto)} {ma mb : Env' → Sto → Option (PV × Sto)} {σ : L2.St} {H : Hp} {Q : VK}
    (h : tM K (fun ρ μ => seqO (mc ρ μ) fun t μ1 => if t = true then ma ρ μ1 else mb ρ μ1) σ H Q) : tIf (tMB K mc) (tM K ma) (tM K mb) σ H Q := by
  obtain ⟨ι, μ, ρ, p, μ', r, e, q⟩ := h
  obtain ⟨t, μ1, e1, e⟩ := seqO_eq e
  refine tMB_go r e1 fun ι1 H1 r1 x1 => ?_
  cases t with
  | true => exact ⟨ι1, μ1, ρ, p, μ', r1, e, fun ι' H' v s x l => q ι' H' v s (x1.trans x) l⟩
  | false => exact ⟨ι1, μ1, ρ, p, μ', r1, e, fun ι' H' v s x l => q ι' H' v s (x1.trans x) l⟩
theorem q_ite {mc ma mb : Env' → Sto → Option (PV × Sto)} (hc : QT X c mc) (ha : QE X a ma) (hb : QE X b mb) :
    QE X (.IfExp c a b pos) (fun ρ μ => seqO (testB (mc ρ μ)) fun t μ1 => if t = true then ma ρ μ1 else mb ρ μ1) := PE.le (pe_ifExp hc ha hb) fun _ _ _ h => if_op h
def tIfT (t ta tb : TT) : TT := fun σ H Q => t σ H fun c H1 => if c = true then ta σ H1 Q else tb σ H1 Q
theorem pt_ifExp {c a b : Expr} {t ta tb : TT} (hc : PT X c t) (ha : PT X a ta) (hb : PT X b tb) : PT X (.IfExp c a b pos) (tIfT t ta tb) := by
  refine ⟨fun pins s σ H Q I h => ?_⟩
  show wpAny _ _ (isTrue c X.env (eval c X.env) >>= fun d => if d = true then isTrue a X.env (eval a X.env) else isTrue b X.env (eval b X.env)) _ _ s
  refine wpAny_bind (thn (hc.run pins s σ H _ I h) fun d s1 ⟨H1, I1, q1⟩ => ?_)
  cases d with
  | true => exact ha.run pins s1 σ H1 Q I1 q1
  | false => exact hb.run pins s1 σ H1 Q I1 q1
theorem qt_ite {mc ma mb : Env' → Sto → Option (PV × Sto)} (hc : QT X c mc) (ha : QT X a ma) (hb : QT X b mb) :
    QT X (.IfExp c a b pos) (fun ρ μ => seqO (testB (mc ρ μ)) fun t μ1 => if t = true then ma ρ μ1 else mb ρ μ1) := by
  refine PT.le (pt_ifExp hc ha hb) fun σ H Q h => ?_
  obtain ⟨ι, μ, ρ, p, μ', r, e, q⟩ := h
  have e := testB_eq e
  obtain ⟨t, μ1, e1, e⟩ := seqO_eq e
  refine tMB_go r e1 fun ι1 H1 r1 x1 => ?_
  cases t with
  | true => exact ⟨ι1, μ1, ρ, p, μ', r1, testB_of (by rw [if_pos rfl] at e; exact e), fun ι' H' s x => q ι' H' s (x1.trans x)⟩
  | false => exact ⟨ι1, μ1, ρ, p, μ', r1, testB_of (by rw [if_neg (by decide)] at e; exact e), fun ι' H' s x => q ι' H' s (x1.trans x)⟩

/-! ### and, or -/
def evBo (k : Bool) : List (Env' → Sto → Option (PV × Sto)) → Env' → Sto → Option (PV × Sto)
  | [], _, μ => some (.bl k, μ)
  | m :: ms, ρ, μ => seqO (testB (m ρ μ)) fun b μ1 => if b = k then evBo k ms ρ μ1 else some (.bl b, μ1)
theorem last_bo {k : Bool} {m : Env' → Sto → Option (PV × Sto)} {ρ : Env'} {μ μ' : Sto} {p : PV} (e : evBo k [m] ρ μ = some (p, μ')) : m ρ μ = some (p, μ') := by
  obtain ⟨b, μ1, e1, e⟩ := seqO_eq e
  rw [testB_eq e1]
  by_cases hb : b = k
  · rw [if_pos hb] at e
    obtain ⟨rfl, rfl⟩ := Prod.mk.inj (Option.some.inj e)
    rw [hb]
  · rw [if_neg hb] at e
    exact e
def bop : Bool → BoolOp
  | true => .And
  | false => .Or
theorem q_bo1 {k : Bool} {m : Env' → Sto → Option (PV × Sto)} (ha : QE X a m) : QE X (.BoolOp (bop k) [a] pos) (evBo k [m]) :=
  PE.le (pe_one ha) fun σ H Q h => by
    obtain ⟨ι, μ, ρ, p, μ', r, e, q⟩ := h
    exact ⟨ι, μ, ρ, p, μ', r, last_bo e, q⟩
theorem q_bo2 {k : Bool} {m : Env' → Sto → Option (PV × Sto)} {ms : List (Env' → Sto → Option (PV × Sto))} {rest : List Expr} (ha : QE X a m) (hb : QE X (.BoolOp (bop k) (b :: rest) pos) (evBo k ms)) : QE X (.BoolOp (bop k) (a :: b :: rest) pos) (evBo k (m :: ms)) := by
  have main : ∀ σ H Q, tM X.K (evBo k (m :: ms)) σ H Q → tM X.K m σ H fun x H1 => ∃ c, x = .bl c ∧ if c = k then tM X.K (evBo k ms) σ H1 Q else Q (.bl c) H1 := fun σ H Q h => by
    obtain ⟨ι, μ, ρ, p, μ', r, e, q⟩ := h
    obtain ⟨t, μ1, e1, e⟩ := seqO_eq e
    refine tM_go r (testB_eq e1) fun ι1 H1 v1 r1 x1 l1 => ⟨t, l1, ?_⟩
    by_cases ht : t = k
    · rw [if_pos ht] at e ⊢
      exact ⟨ι1, μ1, ρ, p, μ', r1, e, fun ι' H' v s x l => q ι' H' v s (x1.trans x) l⟩
    · rw [if_neg ht] at e ⊢
      obtain ⟨rfl, rfl⟩ := Prod.mk.inj (Option.some.inj e)
      exact q ι1 H1 _ r1.st x1 rfl
  have imp : ∀ {σ : L2.St} {H : Hp} {Q Q' : VK}, tM X.K m σ H Q → (∀ v H', Q v H' → Q' v H') → tM X.K m σ H Q' := fun {σ H Q Q'} h i => by
    obtain ⟨ι, μ, ρ, p, μ', r, e, q⟩ := h
    exact ⟨ι, μ, ρ, p, μ', r, e, fun ι' H' v s x l => i _ _ (q ι' H' v s x l)⟩
  cases k with
  | true => exact PE.le (pe_and ha hb) fun σ H Q h => imp (main σ H Q h) fun v H' ⟨c, e, z⟩ => ⟨c, e, (by cases c <;> exact z)⟩
  | false => exact PE.le (pe_or ha hb) fun σ H Q h => imp (main σ H Q h) fun v H' ⟨c, e, z⟩ => ⟨c, e, (by cases c <;> exact z)⟩
abbrev QW (X : Cx) (x : Expr) (m : Env' → Sto → Option (PV × Sto)) : Prop := PW X x (tMB X.K fun ρ μ => testB (m ρ μ))
theorem qw_bo1 {k : Bool} {m : Env' → Sto → Option (PV × Sto)} (ha : QT X a m) : QW X (.BoolOp (bop k) [a] pos) (evBo k [m]) := by
  have z : ∀ σ H Q, tMB X.K (fun ρ μ => testB (evBo k [m] ρ μ)) σ H Q → tMB X.K (fun ρ μ => testB (m ρ μ)) σ H Q := fun σ H Q h => by
    obtain ⟨ι, μ, ρ, p, μ', r, e, q⟩ := h
    exact ⟨ι, μ, ρ, p, μ', r, testB_of (last_bo (testB_eq e)), q⟩
  cases k with
  | true => exact PW.le (pw_and1 ha) z
  | false => exact PW.le (pw_or1 ha) z
theorem qw_bo2 {k : Bool} {m : Env' → Sto → Option (PV × Sto)} {ms : List (Env' → Sto → Option (PV × Sto))} {rest : List Expr} (ha : QT X a m) (hb : QW X (.BoolOp (bop k) (b :: rest) pos) (evBo k ms)) : QW X (.BoolOp (bop k) (a :: b :: rest) pos) (evBo k (m :: ms)) := by
  have main : ∀ σ H Q, tMB X.K (fun ρ μ => testB (evBo k (m :: ms) ρ μ)) σ H Q → tMB X.K (fun ρ μ => testB (m ρ μ)) σ H fun c H1 => if c = k then tMB X.K (fun ρ μ => testB (evBo k ms ρ μ)) σ H1 Q else Q c H1 := fun σ H Q h => by
    obtain ⟨ι, μ, ρ, p, μ', r, e, q⟩ := h
    have e := testB_eq e
    obtain ⟨t, μ1, e1, e⟩ := seqO_eq e
    refine tMB_go r e1 fun ι1 H1 r1 x1 => ?_
    by_cases ht : t = k
    · rw [if_pos ht] at e ⊢
      exact ⟨ι1, μ1, ρ, p, μ', r1, testB_of e, fun ι' H' s x => q ι' H' s (x1.trans x)⟩
    · rw [if_neg ht] at e ⊢
      obtain ⟨e2, rfl⟩ := Prod.mk.inj (Option.some.inj e)
      injection e2 with e2
      subst e2
      exact q ι1 H1 r1.st x1
  have imp : ∀ {σ : L2.St} {H : Hp} {Q Q' : Bool → Hp → Prop}, tMB X.K (fun ρ μ => testB (m ρ μ)) σ H Q → (∀ v H', Q v H' → Q' v H') → tMB X.K (fun ρ μ => testB (m ρ μ)) σ H Q' := fun {σ H Q Q'} h i => by
    obtain ⟨ι, μ, ρ, p, μ', r, e, q⟩ := h
    exact ⟨ι, μ, ρ, p, μ', r, e, fun ι' H' s x => i _ _ (q ι' H' s x)⟩
  cases k with
  | true => exact PW.le (pw_and ha hb) fun σ H Q h => imp (main σ H Q h) fun c H' z => (by cases c <;> exact z)
  | false => exact PW.le (pw_or ha hb) fun σ H Q h => imp (main σ H Q h) fun c H' z => (by cases c <;> exact z)

/-! ### argument lists, displays -/
variable {e : Expr} {es : List Expr}
def notStar : Expr → Bool
  | .Starred _ _ => false
  | _ => true
theorem star_of (h : notStar e = true) {env : Env} : starEach (e :: es) env = (false, eval e env) :: starEach es env := by
  cases e <;> first | rfl | cases h
theorem qa_nil : QA X [] (fun _ μ => some ([], μ)) := PA.le pa_nil fun σ H Q h => by
  obtain ⟨ι, μ, ρ, p, μ', r, e, q⟩ := h
  obtain ⟨rfl, rfl⟩ := Prod.mk.inj (Option.some.inj e)
  exact q ι H [] r.st .refl rfl
theorem qa_cons {m : Env' → Sto → Option (PV × Sto)} {ms : Env' → Sto → Option (List PV × Sto)} (hs : notStar e = true) (ha : QE X e m) (hr : QA X es ms) :
    QA X (e :: es) (fun ρ μ => seqO (m ρ μ) fun x μ1 => seqO (ms ρ μ1) fun xs μ2 => some (x :: xs, μ2)) := PA.le (pa_cons ha hr (star_of hs)) fun σ H Q h => by
  obtain ⟨ι, μ, ρ, p, μ', r, e, q⟩ := h
  obtain ⟨x, μ1, e1, e⟩ := seqO_eq e
  obtain ⟨xs, μ2, e2, e⟩ := seqO_eq e
  obtain ⟨rfl, rfl⟩ := Prod.mk.inj (Option.some.inj e)
  refine tM_go r e1 fun ι1 H1 v1 r1 x1 l1 => tMA_go r1 e2 fun ι2 H2 v2 r2 x2 l2 => ?_
  exact q ι2 H2 _ r2.st (x1.trans x2) ⟨v1, v2, rfl, l1.ext r1.st x2, l2⟩
theorem loc_new {ι : List Addr} {μ : Sto} {H : Hp} {p : Addr} (s : StR K H ι μ) : (ι ++ [p])[μ.length]? = some p := by
  rw [← s.len, List.getElem?_append_right (Nat.le_refl _), Nat.sub_self]
  rfl
theorem newC_q {ι : List Addr} {μ : Sto} {H : Hp} {p : Addr} {o : HO} {mo : MO} {Q : VK} (s : StR K H ι μ) (hp : H p = none) (m : MoR K (upd H p o) (ι ++ [p]) mo p) {r : PV × Sto} (e : newC mo μ = some r)
    (q : ∀ ι' H' v, StR K H' ι' r.2 → Ext ι H ι' H' → Rl K H' ι' r.1 v → Q v H') : Q (.ref p) (upd H p o) := by
  have e : (PV.loc μ.length, μ ++ [mo]) = r := Option.some.inj e
  subst e
  exact q (ι ++ [p]) _ _ (s.new hp m) (ext_new hp) ⟨p, rfl, loc_new s⟩
theorem q_tup {k : Nat} {ms : Env' → Sto → Option (List PV × Sto)} (h : QA X es ms) : QE X (.Tuple es k pos) (fun ρ μ => seqO (ms ρ μ) fun vs μ1 => if vs.length ≤ sizeLine then some (.tup vs, μ1) else none) := PE.le (pe_tup h) fun σ H Q h => by
  obtain ⟨ι, μ, ρ, p, μ', r, e, q⟩ := h
  obtain ⟨xs, μ1, e1, e⟩ := seqO_eq e
  refine tMA_go r e1 fun ι1 H1 v1 r1 x1 l1 => ?_
  split at e
  · rename_i hz
    obtain ⟨rfl, rfl⟩ := Prod.mk.inj (Option.some.inj e)
    refine ⟨by rw [← l1.length]; exact hz, fun p hp => q ι1 _ _ (r1.st.tup hp) (x1.trans (ext_tup hp)) ?_⟩
    exact ⟨p, v1, rfl, SqT.of upd_same, l1.ext r1.st (ext_tup hp)⟩
  · cases e
theorem q_lst {ms : Env' → Sto → Option (List PV × Sto)} (h : QA X es ms) : QE X (.List es pos) (fun ρ μ => seqO (ms ρ μ) fun vs μ1 => if vs.length ≤ sizeLine then newC (.lst vs) μ1 else none) := PE.le (pe_lst h) fun σ H Q h => by
  obtain ⟨ι, μ, ρ, p, μ', r, e, q⟩ := h
  obtain ⟨xs, μ1, e1, e⟩ := seqO_eq e
  refine tMA_go r e1 fun ι1 H1 v1 r1 x1 l1 => ?_
  split at e
  · rename_i hz
    refine ⟨by rw [← l1.length]; exact hz, fun p hp => newC_q r1.st hp ?_ e fun ι' H' v s x l => q ι' H' v s (x1.trans x) l⟩
    exact ⟨hz, v1, upd_same, l1.ext r1.st (ext_new hp)⟩
  · cases e
end
end Pv
end

section
set_option Elab.async false
set_option linter.all false
set_option maxRecDepth 100000
/-! Pv: operators, comparisons, subscripts of own values keep to the model. -/
namespace Pv
open PySem PySem.Spec L2
section
variable {X : Cx} {K : PySem.W.Frag} {H H' : Hp} {ι ι' : List Addr} {μ : Sto}
theorem cell_of (st : StR K H ι μ) {n : Nat} {xs : List PV} {v : V} (l : Rl K H ι (.loc n) v) (e : cellL μ n = some xs) : ∃ a vs, v = .ref a ∧ ι[n]? = some a ∧ SqL K H a vs ∧ Rls K H ι xs vs ∧ xs.length ≤ sizeLine := by
  obtain ⟨a, ev, ei⟩ := l
  unfold cellL at e
  split at e
  · rename_i ys h
    obtain rfl := Option.some.inj e
    obtain ⟨z, vs, hH, r⟩ := st.at_ n _ a h ei
    exact ⟨a, vs, ev, ei, .inl (.inl hH), r, z⟩
  · cases e
theorem lst_of (st : StR K H ι μ) {n : Nat} {xs : List PV} {v : V} (l : Rl K H ι (.loc n) v) (e : μ[n]? = some (.lst xs)) : ∃ a vs, v = .ref a ∧ ι[n]? = some a ∧ H a = some (.lst vs) ∧ Rls K H ι xs vs ∧ xs.length ≤ sizeLine := by
  obtain ⟨a, ev, ei⟩ := l
  obtain ⟨z, vs, hH, r⟩ := st.at_ n _ a e ei
  exact ⟨a, vs, ev, ei, hH, r, z⟩
theorem Rls.rep {ps : List PV} {vs : List V} (h : Rls K H ι ps vs) : ∀ n : Nat, Rls K H ι (List.replicate n ps).flatten (List.replicate n vs).flatten
  | 0 => rfl
  | n + 1 => by
    rw [List.replicate_succ, List.flatten_cons, List.replicate_succ, List.flatten_cons]
    exact h.append (Rls.rep h n)
theorem lst_new (st : StR K H ι μ) {ps : List PV} {vs : List V} (h : Rls K H ι ps vs) (hz : ps.length ≤ sizeLine) {p : Addr} (hp : H p = none) : MoR K (upd H p (.lst vs)) (ι ++ [p]) (.lst ps) p :=
  ⟨hz, vs, upd_same, h.ext st (ext_new hp)⟩
theorem some_inj2 {α β : Type} {a a' : α} {b b' : β} (h : some (a, b) = some (a', b')) : a = a' ∧ b = b' := Prod.mk.inj (Option.some.inj h)

theorem op_binP (o : Operator) : OpR X (binaryOp o) (r2M X.K (binP o)) := by
  intro pins s σ H x y v u Q I rx ry h
  obtain ⟨ι, μ, p, q, r, μ', st, lp, lq, e, k⟩ := h
  unfold binP at e
  split at e
  · obtain ⟨rfl, rfl⟩ := some_inj2 e
    exact op_add pins s σ H x y v u Q I rx ry ⟨_, _, lp, lq, k ι H _ st .refl rfl⟩
  · split at e
    · obtain ⟨rfl, rfl⟩ := some_inj2 e
      exact op_add_str pins s σ H x y v u Q I rx ry ⟨_, _, lp, lq, by assumption, k ι H _ st .refl rfl⟩
    · cases e
  · split at e
    · rename_i xs ys hz
      obtain ⟨rfl, rfl⟩ := some_inj2 e
      obtain ⟨a, vs, ea, ha, ra⟩ := lp
      obtain ⟨b, us, eb, hb, rb⟩ := lq
      have e1 := ra.length
      have e2 := rb.length
      refine op_catA pins s σ H x y v u Q I rx ry ⟨a, b, vs, us, ea, eb, ha, hb, by omega, fun z => ?_, fun _ z => ?_, fun _ _ p hp => ?_⟩
      · subst z
        have : xs = [] := List.eq_nil_of_length_eq_zero (by rw [e1]; rfl)
        subst this
        exact k ι H _ st .refl ⟨b, us, rfl, hb, rb⟩
      · subst z
        have : ys = [] := List.eq_nil_of_length_eq_zero (by rw [e2]; rfl)
        subst this
        rw [List.append_nil] at k
        exact k ι H _ st .refl ⟨a, vs, rfl, ha, ra⟩
      · exact k ι _ _ (st.tup hp) (ext_tup hp) ⟨p, vs ++ us, rfl, SqT.of upd_same, (ra.append rb).ext st (ext_tup hp)⟩
    · cases e
  · split at e
    · rename_i xs ys h1 h2
      split at e
      · rename_i hz
        obtain ⟨a, vs, ea, ia, ha, ra, _⟩ := lst_of st lp h1
        obtain ⟨b, us, eb, ib, hb, rb, _⟩ := lst_of st lq h2
        have e1 := ra.length
        have e2 := rb.length
        refine op_cat pins s σ H x y v u Q I rx ry ⟨a, b, vs, us, ea, eb, ha, hb, by omega, fun p hp => newC_q st hp (lst_new st (ra.append rb) (by rw [List.length_append]; exact hz) hp) e k⟩
      · cases e
    · cases e
  · obtain ⟨rfl, rfl⟩ := some_inj2 e
    exact op_sub pins s σ H x y v u Q I rx ry ⟨_, _, lp, lq, k ι H _ st .refl rfl⟩
  · split at e
    · rename_i hc
      obtain ⟨rfl, rfl⟩ := some_inj2 e
      rcases hc with hc | hc
      · exact op_mul pins s σ H x y v u Q I rx ry ⟨_, _, lp, lq, hc, k ι H _ st .refl rfl⟩
      · exact op_mulW pins s σ H x y v u Q I rx ry ⟨_, _, lp, lq, hc, k ι H _ st .refl rfl⟩
    · cases e
  · split at e
    · rename_i xs h1
      split at e
      · rename_i hz
        obtain ⟨a, vs, ea, ia, ha, ra, _⟩ := lst_of st lp h1
        have e1 := ra.length
        refine op_rep pins s σ H x y v u Q I rx ry ⟨a, _, vs, ea, lq, ha, hz.1.1, hz.1.2, by rw [← e1]; exact hz.2, fun p hp => newC_q st hp (lst_new st (ra.rep _) ?_ hp) e k⟩
        rw [List.length_flatten, List.map_replicate, List.sum_replicate_nat, Nat.mul_comm]
        exact hz.2
      · cases e
    · cases e
  · split at e
    · rename_i hc
      obtain ⟨rfl, rfl⟩ := some_inj2 e
      exact op_fdivW pins s σ H x y v u Q I rx ry ⟨_, _, lp, lq, hc, k ι H _ st .refl rfl⟩
    · cases e
  · split at e
    · rename_i hc
      obtain ⟨rfl, rfl⟩ := some_inj2 e
      exact op_mod pins s σ H x y v u Q I rx ry ⟨_, _, lp, lq, hc, k ι H _ st .refl rfl⟩
    · cases e
  · split at e
    · rename_i hc
      obtain ⟨rfl, rfl⟩ := some_inj2 e
      exact op_pow pins s σ H x y v u Q I rx ry ⟨_, _, lp, lq, hc, k ι H _ st .refl rfl⟩
    · cases e
  · cases e

/-! ### data as a whole -/
mutual
theorem dp_W {f : Nat → Option PyData} (hf : ∀ n a d, ι[n]? = some a → f n = some d → Dp K H (.ref a) d) : ∀ (p : PV) (v : V) (d : PyData), Rl K H ι p v → datW f p = some d → Dp K H v d
  | .non, v, d, l, e => by
    obtain rfl : v = .non := l
    obtain rfl := Option.some.inj e
    exact .non
  | .bl b, v, d, l, e => by
    obtain rfl : v = .bl b := l
    obtain rfl := Option.some.inj e
    exact .bl b
  | .int i, v, d, l, e => by
    obtain rfl : v = .int i := l
    obtain rfl := Option.some.inj e
    exact .int i
  | .str x, v, d, l, e => by
    obtain rfl : v = .str x := l
    obtain rfl := Option.some.inj e
    exact .str x
  | .tup ps, v, d, l, e => by
    simp only [Rl] at l
    obtain ⟨a, vs, rfl, ht, r⟩ := l
    simp only [datW] at e
    cases e2 : datsW f ps with
    | none => rw [e2] at e; cases e
    | some ds =>
      rw [e2] at e
      obtain rfl := Option.some.inj e
      exact .tup ht (dp_Ws hf ps vs ds r e2)
  | .rol ps, v, d, l, e => by
    simp only [Rl] at l
    obtain ⟨a, vs, rfl, ht, r, _⟩ := l
    simp only [datW] at e
    cases e2 : datsW f ps with
    | none => rw [e2] at e; cases e
    | some ds =>
      rw [e2] at e
      obtain rfl := Option.some.inj e
      exact .lst ht.sq (dp_Ws hf ps vs ds r e2)
  | .loc n, v, d, l, e => by
    simp only [Rl] at l
    obtain ⟨a, rfl, i⟩ := l
    exact hf n a d i e
theorem dp_Ws {f : Nat → Option PyData} (hf : ∀ n a d, ι[n]? = some a → f n = some d → Dp K H (.ref a) d) : ∀ (ps : List PV) (vs : List V) (ds : List PyData), Rls K H ι ps vs → datsW f ps = some ds → DpAll K H vs ds
  | [], vs, ds, l, e => by
    obtain rfl : vs = [] := l
    obtain rfl := Option.some.inj e
    exact .nil
  | p :: ps, vs, ds, l, e => by
    simp only [Rls] at l
    obtain ⟨v, r, rfl, a, b⟩ := l
    simp only [datsW] at e
    cases e1 : datW f p with
    | none => rw [e1] at e; cases e
    | some d =>
      rw [e1] at e
      cases e2 : datsW f ps with
      | none => rw [e2] at e; cases e
      | some t =>
        rw [e2] at e
        obtain rfl := Option.some.inj e
        exact .cons (dp_W hf p v d a e1) (dp_Ws hf ps r t b e2)
end
theorem dp_loc (st : StR K H ι μ) : ∀ (k : Nat) (n : Nat) (a : Addr) (d : PyData), ι[n]? = some a → locD μ k n = some d → Dp K H (.ref a) d
  | 0, _, _, _, _, e => by cases e
  | k + 1, n, a, d, i, e => by
    simp only [locD] at e
    cases ec : cellL μ n with
    | none => rw [ec] at e; cases e
    | some xs =>
      rw [ec] at e
      have e : (datsW (locD μ k) xs).map PyData.list = some d := e
      obtain ⟨a', vs, ea, ia, hs, r, _⟩ := cell_of st (show Rl K H ι (.loc n) (.ref a) from ⟨a, rfl, i⟩) ec
      obtain rfl := V.ref.inj ea
      cases e2 : datsW (locD μ k) xs with
      | none => rw [e2] at e; cases e
      | some ds =>
        rw [e2] at e
        obtain rfl := Option.some.inj e
        exact .lst hs (dp_Ws (fun n a d => dp_loc st k n a d) xs vs ds r e2)
theorem dp_of (st : StR K H ι μ) {p : PV} {v : V} {d : PyData} (l : Rl K H ι p v) (e : dat μ p = some d) : Dp K H v d := dp_W (dp_loc st 3) p v d l e

theorem sc_dec {x y : V} {p q : PV} (lp : Rl K H ι p x) (lq : Rl K H ι q y) (hp : flatP p = true) (hq : flatP q = true) : decide (x = y) = decide (p = q) := by
  cases p <;> first | cases hp | skip
  all_goals (cases q <;> first | cases hq | skip)
  all_goals (simp only [Rl] at lp lq; subst lp; subst lq; simp)
theorem flat_scal {x y : V} {p q : PV} : True := trivial
/-- ==: the value, nothing else -/
theorem eq_run (hu : X.A.units + 64 < cLine) {pins : List (Addr × Obj)} {s : Shared} {σ : L2.St} {x y : V} {v u : Value} {Q : VK} {p q : PV} {b : Bool} (I : Inv X pins σ H s) (rx : RelV x v) (ry : RelV y u)
    (st : StR X.K H ι μ) (lp : Rl X.K H ι p x) (lq : Rl X.K H ι q y) (e : eqP p q μ = some b) :
    (Q (.bl b) H → wpAny (model X.prog X.w) X.A (compareOp .Eq v u) (EP X pins σ Q) X.xe s) ∧ (Q (.bl (!b)) H → wpAny (model X.prog X.w) X.A (compareOp .NotEq v u) (EP X pins σ Q) X.xe s) := by
  unfold eqP at e
  split at e
  · obtain rfl := Option.some.inj e
    obtain rfl : x = .int _ := lp
    obtain rfl : y = .int _ := lq
    exact ⟨fun k => op_eq pins s σ H _ _ v u Q I rx ry ⟨rfl, by simpa using k⟩, fun k => op_ne pins s σ H _ _ v u Q I rx ry ⟨rfl, by simpa using k⟩⟩
  · obtain rfl := Option.some.inj e
    obtain rfl : x = .str _ := lp
    obtain rfl : y = .str _ := lq
    exact ⟨fun k => op_eq pins s σ H _ _ v u Q I rx ry ⟨rfl, by simpa using k⟩, fun k => op_ne pins s σ H _ _ v u Q I rx ry ⟨rfl, by simpa using k⟩⟩
  · obtain rfl := Option.some.inj e
    obtain rfl : x = .bl _ := lp
    obtain rfl : y = .bl _ := lq
    exact ⟨fun k => op_eq pins s σ H _ _ v u Q I rx ry ⟨rfl, by simpa using k⟩, fun k => op_ne pins s σ H _ _ v u Q I rx ry ⟨rfl, by simpa using k⟩⟩
  · split at e
    · rename_i d1 d2 h1 h2
      split at e
      · rename_i hs
        obtain rfl := Option.some.inj e
        exact ⟨fun k => op_eqD hu pins s σ H x y v u Q I rx ry ⟨d1, d2, dp_of st lp h1, dp_of st lq h2, hs.1, hs.2, k⟩, fun k => op_neD hu pins s σ H x y v u Q I rx ry ⟨d1, d2, dp_of st lp h1, dp_of st lq h2, hs.1, hs.2, k⟩⟩
      · cases e
    · cases e
theorem eqF_V {x y : V} {p q : PV} (lp : Rl K H ι p x) (lq : Rl K H ι q y) (hp : flatP p = true) (hq : flatP q = true) : eqV x y = eqF p q ∧ flatV x = true ∧ flatV y = true := by
  cases p <;> first | cases hp | skip
  all_goals (cases q <;> first | cases hq | skip)
  all_goals (simp only [Rl] at lp lq; subst lp; subst lq; refine ⟨?_, rfl, rfl⟩)
  all_goals simp [eqV, eqF]
  all_goals first | rfl | (rename_i a b; cases a <;> cases b <;> rfl) | skip
theorem any_F {x : V} {p : PV} (lp : Rl K H ι p x) (hp : flatP p = true) : ∀ {ps : List PV} {vs : List V}, Rls K H ι ps vs → ps.all flatP = true → (vs.any fun y => eqV y x) = (ps.any fun y => eqF y p) ∧ vs.all flatV = true
  | [], vs, r, _ => by
    obtain rfl : vs = [] := r
    exact ⟨rfl, rfl⟩
  | q :: ps, vs, r, hq => by
    simp only [Rls] at r
    obtain ⟨v, t, rfl, a, b⟩ := r
    rw [List.all_cons, Bool.and_eq_true] at hq
    obtain ⟨h1, h2, _⟩ := eqF_V a lp hq.1 hp
    obtain ⟨i1, i2⟩ := any_F lp hp b hq.2
    rw [List.any_cons, List.any_cons, List.all_cons, h1, i1, h2, i2]
    exact ⟨rfl, rfl⟩
theorem in_run {pins : List (Addr × Obj)} {s : Shared} {σ : L2.St} {x y : V} {v u : Value} {Q : VK} {p q : PV} {b : Bool} (I : Inv X pins σ H s) (rx : RelV x v) (ry : RelV y u)
    (st : StR X.K H ι μ) (lp : Rl X.K H ι p x) (lq : Rl X.K H ι q y) (e : inP p q μ = some b) :
    (Q (.bl b) H → wpAny (model X.prog X.w) X.A (compareOp .In v u) (EP X pins σ Q) X.xe s) ∧ (Q (.bl (!b)) H → wpAny (model X.prog X.w) X.A (compareOp .NotIn v u) (EP X pins σ Q) X.xe s) := by
  have seq : ∀ {xs : List PV} {vs : List V} {a : Addr}, flatP p = true ∧ xs.all flatP = true → b = (xs.any fun y => eqF y p) → y = .ref a → (SqL X.K H a vs ∨ SqT X.K H a vs) → Rls X.K H ι xs vs →
      (Q (.bl b) H → wpAny (model X.prog X.w) X.A (compareOp .In v u) (EP X pins σ Q) X.xe s) ∧ (Q (.bl (!b)) H → wpAny (model X.prog X.w) X.A (compareOp .NotIn v u) (EP X pins σ Q) X.xe s) := fun {xs vs a} hc hb ey hs r => by
    obtain ⟨i1, i2⟩ := any_F lp hc.1 r hc.2
    have fx : flatV x = true := (eqF_V lp lp hc.1 hc.1).2.1
    have eb : inV x vs = b := by rw [hb, ← i1]; rfl
    exact ⟨fun k => op_in_seq pins s σ H x y v u Q I rx ry ⟨a, vs, ey, hs, fx, i2, by rw [eb]; exact k⟩, fun k => op_notIn_seq pins s σ H x y v u Q I rx ry ⟨a, vs, ey, hs, fx, i2, by rw [eb]; exact k⟩⟩
  unfold inP at e
  split at e
  · rename_i xs
    split at e
    · rename_i hc
      obtain ⟨a, vs, ea, ha, ra⟩ := lq
      exact seq hc (Option.some.inj e).symm ea (.inr ha) ra
    · cases e
  · rename_i n
    split at e
    · rename_i xs hx
      split at e
      · rename_i hc
        obtain ⟨a, vs, ea, ia, ha, ra, _⟩ := cell_of st lq hx
        exact seq hc (Option.some.inj e).symm ea (.inl ha) ra
      · cases e
    · cases e
  · split at e
    · obtain rfl := Option.some.inj e
      exact ⟨fun k => op_in_str pins s σ H x y v u Q I rx ry ⟨_, _, lp, lq, k⟩, fun k => op_notin_str pins s σ H x y v u Q I rx ry ⟨_, _, lp, lq, k⟩⟩
    · cases e
  · cases e
theorem non_dec {x : V} {p : PV} (l : Rl K H ι p x) : decide (x = .non) = decide (p = .non) := by
  cases p <;> simp only [Rl] at l
  · subst l; simp
  · subst l; simp
  · subst l; simp
  · subst l; simp
  · obtain ⟨a, vs, rfl, _⟩ := l; simp
  · obtain ⟨a, vs, rfl, _⟩ := l; simp
  · obtain ⟨a, rfl, _⟩ := l; simp
theorem op_cmpP (hu : X.A.units + 64 < cLine) (o : CmpOp) : OpR X (compareOp o) (r2M X.K (cmpP o)) := by
  intro pins s σ H x y v u Q I rx ry h
  obtain ⟨ι, μ, p, q, r, μ', st, lp, lq, e, k⟩ := h
  unfold cmpP at e
  cases eb : cmpB o p q μ with
  | none => rw [eb] at e; cases e
  | some b =>
    rw [eb] at e
    obtain ⟨rfl, rfl⟩ := some_inj2 e
    have kk : Q (.bl b) H := k ι H _ st .refl rfl
    unfold cmpB at eb
    split at eb
    · exact (eq_run hu I rx ry st lp lq eb).1 kk
    · cases e2 : eqP p q μ with
      | none => rw [e2] at eb; cases eb
      | some c =>
        rw [e2] at eb
        obtain rfl := Option.some.inj eb
        exact (eq_run hu I rx ry st lp lq e2).2 kk
    · split at eb
      · obtain rfl := Option.some.inj eb
        exact op_isN pins s σ H x y v u Q I rx ry ⟨lq, by rw [non_dec lp]; exact kk⟩
      · cases eb
    · split at eb
      · obtain rfl := Option.some.inj eb
        exact op_notN pins s σ H x y v u Q I rx ry ⟨lq, by rw [non_dec lp]; exact kk⟩
      · cases eb
    · exact (in_run I rx ry st lp lq eb).1 kk
    · cases e2 : inP p q μ with
      | none => rw [e2] at eb; cases eb
      | some c =>
        rw [e2] at eb
        obtain rfl := Option.some.inj eb
        exact (in_run I rx ry st lp lq e2).2 kk
    · split at eb
      · obtain rfl := Option.some.inj eb
        exact op_lt pins s σ H x y v u Q I rx ry ⟨_, _, lp, lq, kk⟩
      · cases eb
    · split at eb
      · obtain rfl := Option.some.inj eb
        exact op_le pins s σ H x y v u Q I rx ry ⟨_, _, lp, lq, kk⟩
      · cases eb
    · split at eb
      · obtain rfl := Option.some.inj eb
        exact op_gt pins s σ H x y v u Q I rx ry ⟨_, _, lp, lq, kk⟩
      · cases eb
    · split at eb
      · obtain rfl := Option.some.inj eb
        exact op_ge pins s σ H x y v u Q I rx ry ⟨_, _, lp, lq, kk⟩
      · cases eb

/-! ### subscripts -/
theorem Rls.atI {ps : List PV} {vs : List V} {i : Int} {p : PV} (h : Rls K H ι ps vs) (e : atI ps i = some p) : ∃ v, L2.atI vs i = some v ∧ Rl K H ι p v := by
  unfold L2.atI at e ⊢
  rw [← h.length]
  cases e1 : ixN ps.length i with
  | none => rw [e1] at e; cases e
  | some j =>
    rw [e1] at e
    exact h.get e
theorem ix_P : IxR X (r2M X.K ixP) := by
  intro value slice pins s σ H x y v u Q I rx ry h hsub
  obtain ⟨ι, μ, p, q, r, μ', st, lp, lq, e, k⟩ := h
  refine ix_seq value slice pins s σ H x y v u Q I rx ry ?_ hsub
  unfold ixP at e
  split at e
  · rename_i xs i
    cases e1 : L2.atI xs i with
    | none => rw [e1] at e; cases e
    | some w =>
      rw [e1] at e
      obtain ⟨rfl, rfl⟩ := some_inj2 e
      obtain ⟨a, vs, ea, ha, ra⟩ := lp
      obtain ⟨z, hz, lz⟩ := ra.atI e1
      exact .inr (.inl ⟨a, vs, i, z, ea, lq, ha, hz, k ι H z st .refl lz⟩)
  · rename_i xs i
    cases e1 : L2.atI xs i with
    | none => rw [e1] at e; cases e
    | some w =>
      rw [e1] at e
      obtain ⟨rfl, rfl⟩ := some_inj2 e
      obtain ⟨a, vs, ea, ha, ra, _⟩ := lp
      obtain ⟨z, hz, lz⟩ := ra.atI e1
      exact .inl ⟨a, vs, i, z, ea, lq, ha.sq, hz, k ι H z st .refl lz⟩
  · rename_i n i
    split at e
    · rename_i xs hx
      cases e1 : L2.atI xs i with
      | none => rw [e1] at e; cases e
      | some w =>
        rw [e1] at e
        obtain ⟨rfl, rfl⟩ := some_inj2 e
        obtain ⟨a, vs, ea, ia, ha, ra, _⟩ := cell_of st lp hx
        obtain ⟨z, hz, lz⟩ := ra.atI e1
        exact .inl ⟨a, vs, i, z, ea, lq, ha, hz, k ι H z st .refl lz⟩
    · cases e
  · rename_i z i
    split at e
    · rename_i hl
      cases e1 : L2.atI z.cps.toList i with
      | none => rw [e1] at e; cases e
      | some c =>
        rw [e1] at e
        obtain ⟨rfl, rfl⟩ := some_inj2 e
        exact .inr (.inr ⟨z, i, c, lp, lq, hl, e1, k ι H _ st .refl rfl⟩)
    · cases e
  · cases e
theorem Rls.cut {ps : List PV} {vs : List V} {lo hi : Option Int} (h : Rls K H ι ps vs) : Rls K H ι (cutP ps lo hi) (cutV vs lo hi) := by
  unfold cutP cutV
  rw [← h.length]
  exact (h.drop _).take _
theorem cutP_length (xs : List PV) (lo hi : Option Int) : (cutP xs lo hi).length ≤ xs.length := by
  unfold cutP
  rw [List.length_take, List.length_drop]
  omega
theorem cutP_all {xs : List PV} {lo hi : Option Int} (h : HT.sIx xs.length 0 lo = 0 ∧ HT.sIx xs.length xs.length hi = xs.length) : cutP xs lo hi = xs := by
  unfold cutP
  rw [h.1, h.2, List.drop_zero, Nat.sub_zero, List.take_length]
def rSlM (K : PySem.W.Frag) : V → Option Int → Option Int → Hp → VK → Prop := fun x lo hi H Q => ∃ ι μ p r μ', StR K H ι μ ∧ Rl K H ι p x ∧ slP p lo hi μ = some (r, μ') ∧ ∀ ι' H' v, StR K H' ι' μ' → Ext ι H ι' H' → Rl K H' ι' r v → Q v H'
theorem sl_P : SlR X (rSlM X.K) := by
  intro pins s σ H x v vl vu lo hi sl Q I rx hs pl pu h
  obtain ⟨ι, μ, p, r, μ', st, lp, e, k⟩ := h
  unfold slP at e
  split at e
  · rename_i xs
    obtain ⟨rfl, rfl⟩ := some_inj2 e
    obtain ⟨a, vs, ea, ha, ra⟩ := lp
    refine sl_tupA pins s σ H x v vl vu lo hi sl Q I rx hs pl pu ⟨a, vs, ea, ha, fun z => ?_, fun _ p hp => ?_⟩
    · rw [← ra.length] at z
      refine k ι H _ st .refl ?_
      rw [cutP_all z]
      exact ⟨a, vs, rfl, ha, ra⟩
    · exact k ι _ _ (st.tup hp) (ext_tup hp) ⟨p, _, rfl, SqT.of upd_same, ra.cut.ext st (ext_tup hp)⟩
  · rename_i xs
    obtain ⟨a, vs, ea, ha, ra, hz⟩ := lp
    exact sl_list pins s σ H x v vl vu lo hi sl Q I rx hs pl pu ⟨a, vs, ea, ha.sq, fun p hp => newC_q st hp (lst_new st ra.cut (Nat.le_trans (cutP_length _ _ _) hz) hp) e k⟩
  · rename_i n
    split at e
    · rename_i xs hx
      obtain ⟨a, vs, ea, ia, ha, ra, hz⟩ := cell_of st lp hx
      exact sl_list pins s σ H x v vl vu lo hi sl Q I rx hs pl pu ⟨a, vs, ea, ha, fun p hp => newC_q st hp (lst_new st ra.cut (Nat.le_trans (cutP_length _ _ _) hz) hp) e k⟩
    · cases e
  · split at e
    · rename_i z hz
      obtain ⟨rfl, rfl⟩ := some_inj2 e
      exact L2.sl_str pins s σ H x v vl vu lo hi sl Q I rx hs pl pu ⟨z, lp, hz, k ι H _ st .refl rfl⟩
    · cases e
  · cases e
end
end Pv
end

section
set_option Elab.async false
set_option linter.all false
set_option maxRecDepth 100000
set_option maxHeartbeats 4000000
/-! Pv: set(a list of ints), and sorted of it. -/
namespace Pv
open PySem PySem.Spec PyProof.Rows L2
section
variable {P : Program} {w : World} {A : Around} {E : Value → Shared → Prop} {s : Shared}
abbrev set0 (w : World) : Obj := { cls := .type "set", dict := none, data := .set #[] 0 (.fresh 0 0 (!w.params.followText "set-order")) }
set_option maxRecDepth 100000 in
set_option maxHeartbeats 3200000 in
/-- set(xs), xs a list of ints: its members are theirs -/
theorem set_of_list {l : Addr} {items : Array Value} (ns : List Int) {Q : Value → Shared → Prop} (noX : A.handled = none) (isL : s.heap.IsList l items) (areI : IntsAre items.toList ns) (few : ns.length + 1 < scanBound)
    (done : ∀ (g : Heap) (tk c : Nat), SetR w g s.heap.objs.size (fun j => decide (j ∈ ns)) c → c ≤ ns.length → (∀ b o, s.heap.get? b = some o → g.get? b = some o) → Q (.ref s.heap.objs.size) { s with heap := g, toks := tk }) :
    wpAny (model P w) A (call (.type "set") [.ref l]) Q E s := by
  have size_eq : items.size = ns.length := by
    have q := areI.length
    rwa [Array.length_toList] at q
  obtain ⟨c, tl, e_mro⟩ := F.called_set.mro
  have a1 := F.called_set.made
  have a2 := F.called_set.sub
  refine wpAny_call (codeAny_of_tree ?_)
  show wpAny _ _ (callAny (.type "set") _) _ _ _
  refine wpAny_pure ⟨Code.quiet_builtin _ (by decide +kernel), codeAny_builtin F.entry_type_call ?_⟩
  rw [Around.under_plain (weight_type_call_type "set" [.ref l] []) rfl]
  have a3 := F.called_set.notType
  have a4 := F.called_set.canCreate
  have a5 := F.typeCall_set_1 (.ref l)
  repeat (any_goals (first | assumption | wp_step))
  refine codeAny_mono (code_set_led1 (.ref l) (E := E) (Q₁ := fun v t => v = .ref s.heap.objs.size ∧ t = { s with heap := s.heap.push (set0 w) }) ⟨rfl, rfl⟩) fun r t hr => ?_
  cases r with
  | error e => exact hr
  | ok fl =>
    cases fl with
    | ret v =>
      obtain ⟨rfl, rfl⟩ := hr
      have at0 : (s.heap.push (set0 w)).get? s.heap.objs.size = some (set0 w) := Heap.get?_push_size _ rfl
      have ty0 : Shared.TypeIs { s with heap := s.heap.push (set0 w) } (.ref s.heap.objs.size) "set" := ⟨_, at0, rfl⟩
      have b1 := F.called_set.init.lookup
      have b2 := F.called_set.init.bind (.ref s.heap.objs.size)
      repeat (any_goals (first | assumption | wp_step))
      refine codeAny_mono (codeAny_call_builtin (R := wants (fun r t => r = .none ∧ ∃ g tk c, t = { s with heap := g, toks := tk } ∧ SetR w g s.heap.objs.size (fun j => decide (j ∈ ns)) c ∧ c ≤ ns.length ∧ ∀ b o, s.heap.get? b = some o → g.get? b = some o) E)
        F.called_set.init.plain F.entry_set_init (check_set_init_1 ty0 ?_)) fun r2 t2 hr2 => ?_
      · obtain ⟨ol, hol, c1, nl, d1⟩ := isL
        obtain ⟨oc, od, odt, osl⟩ := ol
        simp only at c1 d1
        subst c1; subst d1
        have hol2 : (s.heap.push (set0 w)).get? l = some { cls := .type "list", dict := od, data := .seq items nl, slots := osl } := Heap.get?_push_of_some _ hol
        have b3 := F.sub_list_set
        have b4 := F.sub_list_frozenset
        have b5 : (Value.type "list" == Value.type "dict") = false := by decide
        have isL1 : (s.heap.push (set0 w)).IsList l items := ⟨_, hol2, rfl, nl, rfl⟩
        unfold Builtin.«set.__init__» noKeywords Builtin.Frozenset.updateFrom
        generalize hPI : pyIter = PI
        wp_walk
        subst hPI
        refine wpAny_pyIter_list isL1 ?_
        refine wpAny_bind (wpAny_runValue ?_)
        have lt0 : l < s.heap.objs.size := Heap.lt_size hol
        have noX3 : A.in1.in1.in1.handled = none := by simp [noX]
        have ne0 : l ≠ (s.heap.push (set0 w)).objs.size := by
          rw [Heap.size_push]
          exact Nat.ne_of_lt (Nat.lt_succ_of_lt lt0)
        have out0 : s.heap.objs.size ∉ [(s.heap.push (set0 w)).objs.size, l] := by
          rw [Heap.size_push]; simp only [List.mem_cons, List.mem_singleton, List.not_mem_nil, or_false, not_or]
          exact ⟨Nat.ne_of_lt (Nat.lt_succ_self _), Nat.ne_of_gt lt0⟩
        have each : ∀ (i : Nat) (v : Value), items[i]? = some v → ∃ k t, ns[i]? = some k ∧ v = .int k t := fun i v hv => by
          have hi : i < ns.length := by rw [← size_eq]; exact (Array.getElem?_eq_some_iff.mp hv).1
          obtain ⟨t, e⟩ := PyProof.Rows.IntsAre.int_at areI i v (by rw [Array.getElem?_toList]; exact hv)
          refine ⟨ns[i], t, List.getElem?_eq_getElem hi, ?_⟩
          rw [e, List.getD_eq_getElem?_getD, List.getElem?_eq_getElem hi] <;> rfl
        refine set_update_ints ((Walks.list noX3 _ l ne0 items).toS) s.heap.objs.size out0 ns size_eq few each (items.size - 0) 0 _ (by omega) (Nat.zero_le _)
          ⟨⟨_, Heap.get?_push_size _ rfl, rfl, rfl⟩, (isL1.push _)⟩ ?hS0 ?hR
        case hS0 => exact ⟨0, Nat.le_refl 0, setR_new_at (Heap.get?_push_of_some _ at0)⟩
        case hR =>
          intro t3 c3 hm hc3 hS3
          obtain ⟨g, g2, d', tk', os'⟩ := t3
          obtain rfl : g2 = s.gens := hm.gens
          obtain rfl : d' = s.drawn := hm.drawn
          obtain rfl : os' = s.os := hm.os
          show wpAny _ _ _ _ _ _
          refine wpAny_pure ?_
          show wpAny _ _ (ret Value.none) _ _ _
          rw [size_eq] at hc3
          refine wpAny_pure ⟨rfl, g, tk', c3, rfl, hS3, hc3, fun b o e => ?_⟩
          have hb0 : b < s.heap.objs.size := Heap.lt_size e
          refine hm.heap b o ?_ (Heap.get?_push_of_some _ (Heap.get?_push_of_some _ e))
          rw [Heap.size_push]
          simp only [List.mem_cons, List.mem_singleton, List.not_mem_nil, or_false, not_or]
          exact ⟨Nat.ne_of_lt hb0, Nat.ne_of_lt (Nat.lt_succ_of_lt hb0)⟩
      · cases r2 with
        | error e => exact hr2
        | ok f2 =>
          cases f2 with
          | ret r =>
            obtain ⟨rfl, g, tk, c3, rfl, h1, h2, h3⟩ := hr2
            repeat (any_goals (first | assumption | wp_step))
            exact done _ _ _ h1 h2 h3
          | _ => exact hr2.elim
    | _ => exact hr.elim
end
end Pv
end

section
set_option Elab.async false
set_option linter.all false
set_option maxRecDepth 100000
namespace Pv
open PySem PySem.Spec PyProof.Rows L2
theorem ext_tupAny (l : Addr) (its : Array Value) (n : Nat) (b : Addr) (od : Option Addr) (sl : Array (Option Value)) (jts : Array Value) (m : Nat)
    (h0 : ¬(!its.isEmpty && Builtin.List.listTooLong (its.size + jts.size)) = true) (h1 : its.size ≤ sizeLine) (h2 : its.size + jts.size ≤ sizeLine + 1) :
    Meets (Builtin.«list.extend» ⟨[.ref l, .ref b], []⟩) (fun _ R s =>
      s.heap.get? l = some { cls := .type "list", dict := none, data := .seq its n, slots := #[] } ∧
      s.heap.get? b = some { cls := .type "tuple", dict := od, data := .seq jts m, slots := sl } ∧
      R (.ok (.ret Value.none)) { s with heap := s.heap.update l (Obj.mapSeq fun x => x ++ jts), toks := s.toks }) := by
  refine .of_wp fun prog w A R s h => ?_
  obtain ⟨hp, g, d, tk, os⟩ := s
  obtain ⟨hl, hb, h⟩ := h
  have z1 := AutoSeq1.idx_int
  have z2 := AutoSeq1.sub_tuple_list
  have z3 := AutoSeq1.sub_list_list
  have z4 := AutoSeq1.sub_tuple_tuple
  have z5 := AutoSeq1.sub_list_tuple
  have hz' : (its ++ jts).size ≤ sizeLine + 1 := by
    rw [Array.size_append]
    exact h2
  wp_walk using (wpAny_updateSeq hl rfl (hz := h1) (_hz' := hz')), AutoSeq1.wpAny_loadPart' hl, AutoSeq1.wpAny_loadPart' hb
  exact ⟨_, rfl, h⟩
section
variable {X : Cx} {K : PySem.W.Frag} {H : Hp} {ι : List Addr} {μ : Sto}
theorem mt_extT : MtM X "list.extend" (fun x vs H Q => ∃ l b xs zs, x = .ref l ∧ vs = [.ref b] ∧ H l = some (.lst xs) ∧ SqT X.K H b zs ∧ xs.length + zs.length ≤ sizeLine ∧ Q .non (upd H l (.lst (xs ++ zs)))) := by
  intro pins s σ H x vs v us Q I rx rv h
  obtain ⟨l, b, xs, zs, rfl, rfl, hH, hB, hz, q⟩ := h
  cases rx
  obtain ⟨u, rfl, ru⟩ := rv.one
  cases ru
  obtain ⟨z, its, n, r, hl, e⟩ := I.lstM hH
  obtain ⟨jts, r2, ⟨⟨oc, od, dt, sl⟩, e2, hc, m, hd⟩, hz2⟩ := I.tuple hB
  simp only at hc hd
  subst hc hd
  have l2 := r2.length
  have hsz : its.toArray.size + jts.toArray.size ≤ sizeLine := by
    rw [List.size_toArray, List.size_toArray]
    omega
  have hlong : ¬ (!its.toArray.isEmpty && Builtin.List.listTooLong (its.toArray.size + jts.toArray.size)) = true := by
    rw [notLongL hsz, Bool.and_false]
    exact Bool.false_ne_true
  refine call_meets F.slot_list_extend ⟨_, e, rfl⟩ F.entry_list_extend (F.args_list_extend_2 _ _)
    (ext_tupAny l its.toArray n b od sl jts.toArray m hlong (by rw [List.size_toArray]; omega) (by omega)) ⟨e, e2, ?_⟩
  refine ⟨.non, _, I.lset (its' := its ++ jts) hH e (by simp) (r.append r2) ?_, rfl, q⟩
  rw [List.length_append]
  omega

/-! ### sorted of a tuple of pairs -/
def encP (b : Int × Int) : PyData := .tuple [.int b.1, .int b.2]
def PairsR (K : PySem.W.Frag) (H : Hp) (xs : List V) (bs : List (Int × Int)) : Prop := Paired (fun x b => ∃ r, x = V.ref r ∧ SqT K H r [.int b.1, .int b.2]) xs bs
theorem each_of {α β γ : Type} {R : α → β → Prop} {S : α → γ → Prop} {T : γ → β → Prop} (h : ∀ a b c, R a b → S a c → T c b) : ∀ {xs : List α} {us : List γ} {bs : List β}, Paired S xs us → Paired R xs bs → PySem.W.EachIs T us bs
  | _, _, _, .nil, .nil => .nil
  | _, _, _, .cons r t, .cons r2 t2 => .cons (h _ _ _ r2 r) (each_of h t t2)
theorem pairs_of : ∀ {out : List Value} {bs : List (Int × Int)}, PySem.W.EachIs (fun v b => ∃ r, v = Value.ref r ∧ SqT K H r [.int b.1, .int b.2]) out bs → ∃ ys, Vals ys out ∧ PairsR K H ys bs
  | _, _, .nil => ⟨[], .nil, .nil⟩
  | _, _, .cons ⟨r, e, t⟩ k => by
    obtain ⟨ys, h1, h2⟩ := pairs_of k
    subst e
    exact ⟨.ref r :: ys, .cons rfl h1, .cons ⟨r, rfl, t⟩ h2⟩
theorem collect_tup {P : Program} {w : World} {A : Around} {E : Value → Shared → Prop} {s : Shared} {t : Addr} {us : List Value} {Q : List Value → Shared → Prop} (ht : IsTup s.heap t us.toArray) (hz : us.length ≤ sizeLine)
    (q : ∀ h', (∀ b o, s.heap.get? b = some o → h'.get? b = some o) → s.heap.objs.size ≤ h'.objs.size → Q us { s with heap := h' }) : wpAny (model P w) A (collect (.ref t)) Q E s := by
  obtain ⟨o, e, c, n, d⟩ := ht
  let hN := s.heap.push (seqObj "list" #[] 0)
  have atN : hN.get? s.heap.objs.size = some (seqObj "list" #[] 0) := Heap.get?_push_size _ rfl
  have atT : hN.get? t = some o := Heap.get?_push_of_some _ e
  have lim : (#[] ++ us.toArray).size ≤ sizeLine + 1 := by
    rw [Array.size_append, List.size_toArray]
    show 0 + us.length ≤ _
    omega
  have zero : (#[] : Array Value).size ≤ sizeLine := Nat.zero_le _
  unfold collect
  refine wpAny_bind (wpAny_runValue (codeAny_builtin entry_proto_collect' ?_))
  show wpAny _ _ (newList [] >>= fun l => again (.builtin "list.__iadd__" ⟨[l, .ref t], []⟩)) _ _ s
  refine wpAny_bind (wpAny_newList (wpAny_pure ⟨Code.quiet_builtin _ (by decide +kernel), codeAny_builtin entry_list_iadd' ?_⟩))
  show wpAny _ _ (Builtin.List.listExtendWith (.ref s.heap.objs.size) (.ref t) (.ref s.heap.objs.size)) _ _ { s with heap := hN }
  unfold Builtin.List.listExtendWith
  refine wpAny_bind (wpAny_typeOf (T := "tuple") ⟨o, atT, c⟩ ?_)
  have two : (Value.type "tuple" == Value.type "tuple") = true := rfl
  rw [if_pos (by rw [two]; simp)]
  refine wpAny_bind (listItems_at atT d ?_)
  refine wpAny_bind (listItems_at (xs := #[]) (n := 0) atN rfl ?_)
  rw [if_neg (by simp)]
  refine wpAny_bind (listUpdate_at (xs := #[]) (n := 0) atN rfl ?_ zero lim)
  refine wpAny_pure ?_
  refine wpAny_bind (m := load s.heap.objs.size) (wpAny_load (get?_update_seq atN _) ?_)
  show wpAny _ _ (pure ((#[] : Array Value) ++ us.toArray).toList) Q E _
  have el : ((#[] : Array Value) ++ us.toArray).toList = us := by simp
  rw [el]
  refine wpAny_pure (q _ (fun b ob hb => ?_) ?_)
  · rw [Heap.get?_update_ne _ _ _ _ (Nat.ne_of_lt (Heap.lt_size hb))]
    exact Heap.get?_push_of_some _ hb
  · rw [Heap.size_update, Heap.size_push]
    exact Nat.le_succ _
theorem sorted_pairs (hu : X.A.units + 64 < cLine) : CallR X (.builtin "sorted") (fun vs H Q => ∃ a xs bs, vs = [V.ref a] ∧ SqT X.K H a xs ∧ PairsR X.K H xs bs ∧
    ∀ ys p, PairsR X.K H ys (psort bs) → ys.length = xs.length → H p = none → Q (.ref p) (upd H p (.lst ys))) := by
  intro pins s σ H vs us Q I r h
  obtain ⟨a, xs, bs, rfl, hs, hp, q⟩ := h
  obtain ⟨its, rv, ⟨o, ho, hc, m, hd⟩, hz⟩ := I.tuple hs
  rw [Vals.ref1 r]
  have hlen := rv.length
  refine call_function_entry_kw kind_sorted plain_sorted entry_sorted (args_sorted1 _) ?_
  unfold Builtin.«sorted»
  refine wpAny_bind (m := checkCount "sorted" 1 1 _) (wpAny_pure ?_)
  have sz : its.toArray.size ≤ sizeLine := by
    rw [List.size_toArray]
    omega
  refine wpAny_bind (collect_tup ⟨o, ho, hc, m, hd⟩ (by omega) fun h' hk hge => ?_)
  refine wpAny_bind (wpAny_newList ?_ (by omega))
  have hat : (h'.push (seqObj "list" its.toArray 0)).get? h'.objs.size = some (seqObj "list" its.toArray 0) := Heap.get?_push_size _ rfl
  have old : ∀ b o, s.heap.get? b = some o → (PySem.W.sortingHeap (h'.push (seqObj "list" its.toArray 0)) h'.objs.size its).get? b = some o := fun b o e => by
    have e1 := hk b o e
    exact PySem.W.sortingHeap_old (Nat.ne_of_lt (Heap.lt_size e1)) (Heap.get?_push_of_some _ e1)
  have eR : PySem.W.EachIs (fun v b => ∃ r, v = Value.ref r ∧ SqT X.K H r [.int b.1, .int b.2]) its bs := each_of (fun x b u hx hu => by
    obtain ⟨r, rfl, ht⟩ := hx
    cases hu
    exact ⟨r, rfl, ht⟩) rv hp
  have eD : PySem.W.EachIs (fun v b => ∃ as, Reads (PySem.W.sortingHeap (h'.push (seqObj "list" its.toArray 0)) h'.objs.size its) v (encP b) as) its bs := eR.mono fun v b ⟨r, ev, ht⟩ => by
    subst ev
    have dp : Dp X.K H (.ref r) (encP b) := .tup ht (.cons (.int _) (.cons (.int _) .nil))
    obtain ⟨as, rd⟩ := Dp.reads I (encP b) (.ref r) (.ref r) dp rfl
    exact ⟨as, PyProof.Rows.Reads.keeps old rd⟩
  have al : PySem.W.AllAlike (bs.map encP) := .of fun b b' => by simp [encP, PySem.W.alike, PySem.W.alikeAll]
  have so : PySem.W.Sortable (bs.map encP) := .tuples fun b => ⟨_, _, rfl⟩
  have bd : ∀ d, d ∈ bs.map encP → X.A.in1.in1.units + d.depth < cLine := fun d hd => by
    obtain ⟨b, _, rfl⟩ := List.mem_map.mp hd
    have e1 : (encP b).depth = 1 := by simp [encP, PyData.depth, PyData.depthAll]
    rw [e1]
    show X.A.units + 1 + 1 + 1 < cLine
    omega
  have S : PySem.W.SortsAt X.prog X.w X.A.in1.in1 { s with heap := PySem.W.sortingHeap (h'.push (seqObj "list" its.toArray 0)) h'.objs.size its } _ its :=
    PySem.W.SortsAt.data (PySem.W.each_map (R := fun v d => ∃ as, Reads (PySem.W.sortingHeap (h'.push (seqObj "list" its.toArray 0)) h'.objs.size its) v d as) encP eD) al so bd
  have out := PySem.W.sortVals_data false eR eD al
  refine wpAny_bind (wpAny_holding (wpAny_call_entry_kw slot_list_sort ⟨_, hat, rfl⟩ entry_list_sort ?body (args_list_sort _)))
  case body =>
    refine wpAny_mono (PySem.W.list_sort_vals (s := { s with heap := h'.push (seqObj "list" its.toArray 0) }) (P := fun f s' => f = .done (.ret .none) ∧ EP X pins σ Q (.ref h'.objs.size) s') hat S (by omega) ⟨rfl, ?_⟩) (fun f s' hf => ?_) fun _ _ e => e
    · have e1 : bs.mergeSort (PySem.W.dataLe false encP) = psort bs := by
        have z := PySem.W.dataLe_ii (fun b : Int × Int => b.1) (fun b => b.2)
        have z2 : PySem.W.dataLe false encP = leP := z
        rw [z2]
        rfl
      rw [e1] at out
      generalize hO : PySem.W.sortVals (PySem.W.dataKind (PySem.W.sortingHeap (h'.push (seqObj "list" its.toArray 0)) h'.objs.size its) (bs.map encP)) false its its = O at out ⊢
      obtain ⟨ys, rys, pys⟩ := pairs_of out
      have hb : bs.length = xs.length := (Paired.length hp).symm
      have hl2 : ys.length = xs.length := by
        rw [Paired.length pys, ← hb]
        exact (List.mergeSort_perm bs leP).length_eq
      obtain ⟨ep, he'⟩ := sortedHeap_at (out := O.toArray) hat
      refine ⟨.ref h'.objs.size, upd H h'.objs.size (.lst ys), I.laid (t' := s.toks) (fun b o e => ?_) hge ⟨by omega, O, ep, rys, he'⟩, rfl, q ys _ pys hl2 (I.hok.fresh hge)⟩
      have e1 := hk b o e
      have hlt := Heap.lt_size e1
      rw [sortedHeap_old (Nat.ne_of_lt hlt) (by rw [Heap.size_push]; exact Nat.lt_succ_of_lt hlt)]
      exact Heap.get?_push_of_some _ e1
    · obtain ⟨rfl, hq⟩ := hf
      exact ⟨_, rfl, wpAny_pure ⟨_, rfl, hq⟩⟩
end
end Pv
end

section
set_option Elab.async false
set_option linter.all false
set_option maxRecDepth 100000
/-! Pv: defs and their calls where no text is being shown around (guards: none). -/
namespace Pv
open PySem PySem.Spec PyProof.Rows L2

def nothX : CXT := fun _ _ _ _ _ _ => False
def noX : XK := fun _ _ _ => False
/-- a def that keeps a promise, called with room for k calls, no guard around -/
structure FnG (P : Program) (w : World) (K : PySem.W.Frag) (mg : Str → Option Value) (base : Heap) (k : Nat) (f : Addr) (fd : FuncData) (ps : List Str) (sp : Sp) : Prop where
  len : ∀ vs H Q, sp vs H Q noX → vs.length = ps.length
  run : ∀ (A : Around) (outer : List Env) (s : Shared) (H : Hp) (args : Args) (us : List Value) (vs : List V) (Q : VK), Room k A → A.guards = some [] → Env0 P w K mg base A outer s H →
    BindsTo s fd args (ps.zip us) → Vals vs us → sp vs H Q noX → codeAny (model P w) A (.call (.ref f) args) (CR nothX outer P w H s Q noX) s
section
variable {P : Program} {w : World} {K : PySem.W.Frag} {mg : Str → Option Value} {base : Heap} {k : Nat} {f : Addr} {fd : FuncData} {N ps : List Str} {sp : Sp} {x qual : Str} {params : Arguments} {body : List Stmt} {scope : Scope}
theorem FnG.of (F : FunD K x qual params body scope [] [] f fd) (S : FnScope N ps scope) (len : ∀ vs H Q, sp vs H Q noX → vs.length = ps.length)
    (go : ∀ (cdv : Value) (A : Around) (outer : List Env) (s : Shared) (H : Hp) (vs : List V) (Q : VK), Room k (A.deeper (envOfC qual scope s.heap.objs.size f cdv)) → A.guards = some [] → sp vs H Q noX →
      ∃ t, PSs (cxOf nothX P w K mg base N qual scope f cdv A outer s H noX) body t ∧ t { nx := fun _ H' => Q .non H', rt := Q } (start N vs) H) : FnG P w K mg base (k + 1) f fd ps sp := by
  obtain ⟨oc, od, dV, kV, doc, pm, an, cdv, ct, osl, rfl, at_f, code_f, _, _⟩ := F.ex
  refine ⟨len, fun A outer s H args us vs Q room gd e0 binds vals want => ?_⟩
  have nvs := len _ _ _ want
  have old : ∀ b o, base.get? b = some o → s.heap.get? b = some o := fun b o e => (e0.bs b o e).1
  have inK : K.In s.heap := e0.mod.kin.keeps old
  have kinds : ∀ y ∈ ps.zip us, scope.names.lookup y.1 = some .local ∨ (scope.names.lookup y.1 = some .cell ∧ ((cellsFrom (s.heap.objs.size + 1) scope.names []).lookup y.1).isSome = true) := by
    rintro ⟨n, v⟩ hy
    rcases S.par n (List.of_mem_zip hy).1 with q | q
    · exact .inl q
    · exact .inr ⟨q, PySem.W.cellsFrom_some _ _ _ (.inl q)⟩
  refine codeAny_call_function room.depth (inK _ _ at_f) rfl S.co S.gen rfl (PySem.W.codeRec_of inK code_f) (binds _ _ _ _ ?_)
  refine wpAny_newFunctionEnv_cells S.kind kinds fun env he s1 made => ?_
  subst he
  refine ⟨(e0.mod.nolimit.keeps old).keeps made.toInCall.keep, codeAny_func ?_⟩
  obtain ⟨t, ht, begun⟩ := go cdv A outer s H vs Q (room.deeper _) gd want
  have I := inv_start (CX := nothX) (E := noX) S room.hd e0 nvs vals made
  refine wpAny_mono (ht.run [] s1 (start N vs) H _ I begun) (fun fl s' fin => ?_) fun e s' fin => fin
  cases fl with
  | ret u =>
    obtain ⟨v, σ', H', J, rv, q⟩ := fin
    exact ⟨v, H', J.os, J.bare, J.base, J.hok, rv, q⟩
  | next =>
    obtain ⟨σ', H', J, q⟩ := fin
    exact ⟨V.non, H', J.os, J.bare, J.base, J.hok, rfl, q⟩
  | brk => exact fin.choose_spec.choose_spec.2.elim
  | cont => exact fin.choose_spec.choose_spec.2.elim
end
section
variable {X : Cx} {k : Nat} {f : Addr} {fd : FuncData} {ps : List Str} {sp : Sp} {x : Str} {p pos : Pos} {e : Expr} {es : List Expr} {t : TA}
theorem run_G {pins : List (Addr × Obj)} {σ : L2.St} {H : Hp} {s : Shared} {Q : VK} {us : List Value} {vs : List V} (F : FnG X.prog X.w X.K X.mg X.base k f fd ps sp) (room : Room k X.A) (gd : X.A.guards = some [])
    (binds : Binds X.K fd ps []) (I : Inv X pins σ H s) (r : Vals vs us) (want : sp vs H Q noX) : wpAny (model X.prog X.w) X.A (PySem.call (.ref f) us) (EP X pins σ Q) X.xe s := by
  have n1 : us.length = ps.length := by rw [← r.length]; exact F.len _ _ _ want
  have b := binds s us I.kIn (by rw [List.append_nil]; exact n1)
  rw [List.append_nil] at b
  refine wpAny_call (codeAny_mono (F.run X.A X.stack s H ⟨us, []⟩ us vs Q room gd I.env0 b r want) fun r' s' fin => ?_)
  cases r' with
  | error e => exact fin.elim
  | ok fl => cases fl with
    | ret u => exact I.after fin
    | next => exact fin.elim
    | brk => exact fin.elim
    | cont => exact fin.elim
/-- f(e, ..), f a def of the text -/
def tCallG (sp : Sp) (t : TA) : TE := fun σ H Q => t σ H fun vs H1 => sp vs H1 Q noX
theorem stars_plain : ∀ {es : List Expr} {env : Env}, (es.all notStar) = true → (starEach es env).any (·.1) = false
  | [], _, _ => rfl
  | e :: es, env, h => by
    rw [List.all_cons, Bool.and_eq_true] at h
    rw [star_of h.1, List.any_cons, stars_plain h.2]
    rfl
theorem backs_plain {es : List Expr} {env : Env} (h : (es.all notStar) = true) (pos : Pos) : (backTo pos (starEach es env)).any (·.1) = false := by
  unfold backTo
  rw [List.any_map]
  exact stars_plain h
theorem pe_callG (F : FnG X.prog X.w X.K X.mg X.base k f fd ps sp) (room : Room k X.A) (gd : X.A.guards = some []) (hg : Gl X x) (hm : X.mg x = some (.ref f)) (hk : PySem.W.keepIn X.K (.ref f) = true) (binds : Binds X.K fd ps [])
    (ha : PA X (e :: es) t) (hdb : (x == ("__debug__" : Str)) = false) (ns : ((e :: es).all notStar) = true) : PE X (.Call (.Name x p) (e :: es) [] pos) (tCallG sp t) := by
  have ns' := ns
  rw [List.all_cons, Bool.and_eq_true] at ns'
  refine ⟨fun pins s σ H Q I h => wpAny_Call_Name_kw (ld_glob I hg hm ?_ hdb)⟩
  refine PySem.W.callWith_K (h₀ := X.base) I.ok.mod.kin hk (thn (ha.run pos pins s σ H _ I h) fun us s1 ⟨vs, H1, I1, r, q⟩ => ⟨I1.kIn, run_G F room gd binds I1 r q⟩) (star_of ns'.1) (backs_plain ns'.2 pos)
theorem pe_callG0 (F : FnG X.prog X.w X.K X.mg X.base k f fd ps sp) (room : Room k X.A) (gd : X.A.guards = some []) (hg : Gl X x) (hm : X.mg x = some (.ref f)) (hk : PySem.W.keepIn X.K (.ref f) = true) (binds : Binds X.K fd ps [])
    (hdb : (x == ("__debug__" : Str)) = false) : PE X (.Call (.Name x p) [] [] pos) (tCallG sp tNil) :=
  ⟨fun pins s σ H Q I h => wpAny_Call_Name_kw (ld_glob I hg hm (PySem.W.callWith_K0 I.kIn hk (run_G (us := []) F room gd binds I .nil h)) hdb)⟩
end
end Pv
end

section
set_option Elab.async false
set_option linter.all false
set_option maxRecDepth 100000
/-! Pv: built-in functions and methods. -/
namespace Pv
open PySem PySem.Spec PyProof.Rows L2
section
variable {X : Cx} {K : PySem.W.Frag} {H H' : Hp} {ι ι' : List Addr} {μ : Sto}
theorem rls1 {p : PV} {xs : List V} (h : Rls K H ι [p] xs) : ∃ v, xs = [v] ∧ Rl K H ι p v := by
  obtain ⟨v, r, rfl, a, b⟩ := h
  obtain rfl : r = [] := b
  exact ⟨v, rfl, a⟩
theorem rls2 {p q : PV} {xs : List V} (h : Rls K H ι [p, q] xs) : ∃ v u, xs = [v, u] ∧ Rl K H ι p v ∧ Rl K H ι q u := by
  obtain ⟨v, r, rfl, a, b⟩ := h
  obtain ⟨u, rfl, c⟩ := rls1 b
  exact ⟨v, u, rfl, a, c⟩
theorem rls0 {xs : List V} (h : Rls K H ι [] xs) : xs = [] := h
theorem asInts_eq : ∀ {ps : List PV} {is : List Int} {vs : List V}, asInts ps = some is → Rls K H ι ps vs → ps = is.map PV.int ∧ vs = is.map V.int
  | [], is, vs, e, r => by
    obtain rfl := Option.some.inj e
    exact ⟨rfl, r⟩
  | p :: ps, is, vs, e, r => by
    cases p with
    | int i =>
      simp only [asInts] at e
      cases e2 : asInts ps with
      | none => rw [e2] at e; cases e
      | some js =>
        rw [e2] at e
        obtain rfl := Option.some.inj e
        obtain ⟨v, t, rfl, a, b⟩ := r
        obtain ⟨h1, h2⟩ := asInts_eq e2 b
        obtain rfl : v = .int i := a
        exact ⟨by rw [h1]; rfl, by rw [h2]; rfl⟩
    | _ => cases e
theorem asBools_eq : ∀ {ps : List PV} {is : List Bool} {vs : List V}, asBools ps = some is → Rls K H ι ps vs → vs = is.map V.bl
  | [], is, vs, e, r => by
    obtain rfl := Option.some.inj e
    exact r
  | p :: ps, is, vs, e, r => by
    cases p with
    | bl i =>
      simp only [asBools] at e
      cases e2 : asBools ps with
      | none => rw [e2] at e; cases e
      | some js =>
        rw [e2] at e
        obtain rfl := Option.some.inj e
        obtain ⟨v, t, rfl, a, b⟩ := r
        obtain rfl : v = .bl i := a
        rw [asBools_eq e2 b]
        rfl
    | _ => cases e
theorem asStrs_eq : ∀ {ps : List PV} {is : List Str} {vs : List V}, asStrs ps = some is → Rls K H ι ps vs → vs = is.map V.str
  | [], is, vs, e, r => by
    obtain rfl := Option.some.inj e
    exact r
  | p :: ps, is, vs, e, r => by
    cases p with
    | str i =>
      simp only [asStrs] at e
      cases e2 : asStrs ps with
      | none => rw [e2] at e; cases e
      | some js =>
        rw [e2] at e
        obtain rfl := Option.some.inj e
        obtain ⟨v, t, rfl, a, b⟩ := r
        obtain rfl : v = .str i := a
        rw [asStrs_eq e2 b]
        rfl
    | _ => cases e
theorem ints_R : ∀ is : List Int, Rls K H ι (is.map PV.int) (is.map V.int)
  | [] => rfl
  | i :: r => ⟨_, _, rfl, rfl, ints_R r⟩

theorem keys_R : ∀ {kvs : List (Key × PV)} {vs : List (Key × V)} {is : List Int}, allSome keyI (kvs.map (·.1)) = some is → Rkv K H ι kvs vs → vs.map (·.1) = is.map Sum.inl
  | [], vs, is, e, r => by
    obtain rfl : vs = [] := r
    obtain rfl := Option.some.inj e
    rfl
  | x :: t, vs, is, e, rk => by
    obtain ⟨v, r, rfl, _, b⟩ := rk
    rw [List.map_cons] at e
    simp only [allSome] at e
    cases e1 : keyI x.1 with
    | none => rw [e1] at e; cases e
    | some i =>
      rw [e1] at e
      cases e2 : allSome keyI (t.map (·.1)) with
      | none => rw [e2] at e; cases e
      | some js =>
        rw [e2] at e
        obtain rfl := Option.some.inj e
        have ex : x.1 = .inl i := by
          cases q : x.1 with
          | inl j => rw [q] at e1; exact congrArg _ (Option.some.inj e1)
          | inr z => rw [q] at e1; cases e1
        rw [List.map_cons, List.map_cons, keys_R e2 b, ex]

/-! ### sorting -/
theorem insI_perm (x : Int) : ∀ l : List Int, (insI x l).Perm (x :: l)
  | [] => .refl _
  | y :: r => by
    unfold insI
    split
    · exact .refl _
    · exact ((insI_perm x r).cons y).trans (.swap x y r)
theorem isort_perm : ∀ l : List Int, (isort l).Perm l
  | [] => .refl _
  | x :: r => (insI_perm x _).trans ((isort_perm r).cons x)
theorem insI_sorted (x : Int) : ∀ {l : List Int}, l.Pairwise (· ≤ ·) → (insI x l).Pairwise (· ≤ ·)
  | [], _ => by simp [insI]
  | y :: r, h => by
    unfold insI
    rw [List.pairwise_cons] at h
    split
    · rename_i hxy
      rw [List.pairwise_cons]
      refine ⟨fun z hz => ?_, List.pairwise_cons.mpr h⟩
      rcases List.mem_cons.mp hz with e | hz
      · rw [e]; exact hxy
      · exact Int.le_trans hxy (h.1 z hz)
    · rename_i hxy
      rw [List.pairwise_cons]
      refine ⟨fun z hz => ?_, insI_sorted x h.2⟩
      rcases List.mem_cons.mp ((insI_perm x r).mem_iff.mp hz) with e | hz
      · rw [e]; omega
      · exact h.1 z hz
theorem isort_sorted : ∀ l : List Int, (isort l).Pairwise (· ≤ ·)
  | [] => .nil
  | x :: r => insI_sorted x (isort_sorted r)
theorem isort_uniq {a b : List Int} (h : a.Perm b) (s : a.Pairwise (· ≤ ·)) : a = isort b :=
  (h.trans (isort_perm b).symm).eq_of_pairwise (fun x y _ _ h1 h2 => Int.le_antisymm h1 h2) s (isort_sorted b)
theorem mem_dedup (k : Int) : ∀ l : List Int, k ∈ dedup l ↔ k ∈ l
  | [] => by simp [dedup]
  | x :: r => by
    simp only [dedup, List.mem_cons, List.mem_filter, mem_dedup k r, decide_eq_true_eq]
    by_cases h : k = x <;> simp [h]
theorem nodup_dedup : ∀ l : List Int, (dedup l).Nodup
  | [] => .nil
  | x :: r => by
    unfold dedup
    rw [List.nodup_cons]
    exact ⟨fun h => by simp [List.mem_filter] at h, (nodup_dedup r).filter _⟩
theorem dedup_len : ∀ l : List Int, (dedup l).length ≤ l.length
  | [] => Nat.le_refl _
  | x :: r => by
    have h1 := dedup_len r
    have h2 := List.length_filter_le (fun y => decide (y ≠ x)) (dedup r)
    show ((dedup r).filter _).length + 1 ≤ r.length + 1
    omega
theorem sset_uniq {a l : List Int} (s : a.Pairwise (· < ·)) (m : ∀ k : Int, k ∈ a ↔ k ∈ l) : a = isort (dedup l) := by
  refine isort_uniq ?_ (s.imp fun h => Int.le_of_lt h)
  exact (List.perm_ext_iff_of_nodup (s.imp fun h => Int.ne_of_lt h) (nodup_dedup l)).mpr fun k => (m k).trans (mem_dedup k l).symm
theorem maxL_spec : ∀ (r : List Int) (m : Int), maxL m r ∈ m :: r ∧ ∀ y ∈ m :: r, y ≤ maxL m r
  | [], m => by simp [maxL]
  | x :: r, m => by
    obtain ⟨h1, h2⟩ := maxL_spec r (if x > m then x else m)
    unfold maxL
    refine ⟨?_, fun y hy => ?_⟩
    · rcases List.mem_cons.mp h1 with e | h
      · rw [e]
        split <;> simp
      · simp [h]
    · have hm := h2 _ List.mem_cons_self
      rcases List.mem_cons.mp hy with e | hy
      · subst e
        refine Int.le_trans ?_ hm
        split <;> omega
      · rcases List.mem_cons.mp hy with e | hy
        · subst e
          refine Int.le_trans ?_ hm
          split <;> omega
        · exact h2 y (List.mem_cons_of_mem _ hy)

/-! ### no dicts within -/
mutual
theorem nd_W {f : Nat → Option PyData} (hf : ∀ n d, f n = some d → d.hasDict = false) : ∀ (p : PV) (d : PyData), datW f p = some d → d.hasDict = false
  | .non, d, e => by obtain rfl := Option.some.inj e; rfl
  | .bl b, d, e => by obtain rfl := Option.some.inj e; rfl
  | .int i, d, e => by obtain rfl := Option.some.inj e; rfl
  | .str x, d, e => by obtain rfl := Option.some.inj e; rfl
  | .tup ps, d, e => by
    simp only [datW] at e
    cases e2 : datsW f ps with
    | none => rw [e2] at e; cases e
    | some ds =>
      rw [e2] at e
      obtain rfl := Option.some.inj e
      exact nd_Ws hf ps ds e2
  | .rol ps, d, e => by
    simp only [datW] at e
    cases e2 : datsW f ps with
    | none => rw [e2] at e; cases e
    | some ds =>
      rw [e2] at e
      obtain rfl := Option.some.inj e
      exact nd_Ws hf ps ds e2
  | .loc n, d, e => hf n d e
theorem nd_Ws {f : Nat → Option PyData} (hf : ∀ n d, f n = some d → d.hasDict = false) : ∀ (ps : List PV) (ds : List PyData), datsW f ps = some ds → PyData.hasDictAll ds = false
  | [], ds, e => by obtain rfl := Option.some.inj e; rfl
  | p :: ps, ds, e => by
    simp only [datsW] at e
    cases e1 : datW f p with
    | none => rw [e1] at e; cases e
    | some d =>
      rw [e1] at e
      cases e2 : datsW f ps with
      | none => rw [e2] at e; cases e
      | some t =>
        rw [e2] at e
        obtain rfl := Option.some.inj e
        simp only [PyData.hasDictAll, nd_W hf p d e1, nd_Ws hf ps t e2, Bool.or_self]
end
theorem nd_loc : ∀ (k n : Nat) (d : PyData), locD μ k n = some d → d.hasDict = false
  | 0, _, _, e => by cases e
  | k + 1, n, d, e => by
    simp only [locD] at e
    cases ec : cellL μ n with
    | none => rw [ec] at e; cases e
    | some xs =>
      rw [ec] at e
      have e : (datsW (locD μ k) xs).map PyData.list = some d := e
      cases e2 : datsW (locD μ k) xs with
      | none => rw [e2] at e; cases e
      | some ds =>
        rw [e2] at e
        obtain rfl := Option.some.inj e
        exact nd_Ws (nd_loc k) xs ds e2

theorem pairs_R : ∀ {ps : List PV} {bs : List (Int × Int)} {vs : List V}, asPairs ps = some bs → Rls K H ι ps vs → PairsR K H vs bs
  | [], bs, vs, e, r => by
    obtain rfl := Option.some.inj e
    obtain rfl : vs = [] := r
    exact .nil
  | p :: ps, bs, vs, e, r => by
    unfold asPairs at e
    split at e
    · rename_i heq
      cases heq
    · rename_i i j t heq
      obtain ⟨rfl, rfl⟩ := List.cons.inj heq
      cases e2 : asPairs ps with
      | none => rw [e2] at e; cases e
      | some cs =>
        rw [e2] at e
        obtain rfl := Option.some.inj e
        obtain ⟨v, u, rfl, a, b⟩ := r
        obtain ⟨q, us, rfl, ht, ru⟩ := a
        obtain ⟨x, y, rfl, lx, ly⟩ := rls2 ru
        obtain rfl : x = .int i := lx
        obtain rfl : y = .int j := ly
        exact .cons ⟨q, rfl, ht⟩ (pairs_R e2 b)
    · cases e
theorem rls_pairs : ∀ {ys : List V} {bs : List (Int × Int)}, PairsR K H ys bs → Rls K H ι (bs.map pairP) ys
  | _, _, .nil => rfl
  | _, _, .cons ⟨r, e, t⟩ k => ⟨_, _, rfl, ⟨r, _, e, t, _, _, rfl, rfl, _, _, rfl, rfl, rfl⟩, rls_pairs k⟩

/-! ### built-in functions -/
def biVal : Bi → Value
  | .len => .builtin "len"
  | .all => .builtin "all"
  | .any => .builtin "any"
  | .max2 => .builtin "max"
  | .min2 => .builtin "min"
  | .max1 => .builtin "max"
  | .sum => .builtin "sum"
  | .tuple => .type "tuple"
  | .list => .type "list"
  | .sorted => .builtin "sorted"
  | .sset => .none
  | .int => .type "int"
  | .str => .type "str"
  | .abs => .builtin "abs"
  | .repr => .builtin "repr"
theorem flat_dp {d : PyData} {v : V} {i : Int} (h : Dp K H v d) (e : v = .int i) : d = .int i := by
  subst e
  cases h
  rfl
theorem bi_ok (hc : X.calm = true) (gd : X.A.guards = some []) (hu : X.A.units + 64 < cLine) : ∀ b : Bi, b ≠ .sset → CallR X (biVal b) (rAM X.K (biP b)) := by
  intro b hb pins s σ H xs us Q I rv h
  obtain ⟨ι, μ, ps, r, μ', st, ls, e, k⟩ := h
  unfold biP at e
  split at e
  · -- len of a tuple
    obtain ⟨v, rfl, l⟩ := rls1 ls
    obtain ⟨rfl, rfl⟩ := some_inj2 e
    obtain ⟨a, vs, rfl, ha, ra⟩ := l
    exact call_len pins s σ H _ us Q I rv ⟨_, vs.length, rfl, .inr ⟨vs, ha, rfl⟩, by rw [← ra.length]; exact k ι H _ st .refl rfl⟩
  · obtain ⟨v, rfl, l⟩ := rls1 ls
    obtain ⟨rfl, rfl⟩ := some_inj2 e
    obtain ⟨a, vs, rfl, ha, ra, _⟩ := l
    exact call_len pins s σ H _ us Q I rv ⟨_, vs.length, rfl, .inl ⟨vs, ha.sq, rfl⟩, by rw [← ra.length]; exact k ι H _ st .refl rfl⟩
  · obtain ⟨v, rfl, l⟩ := rls1 ls
    split at e
    · rename_i hz
      obtain ⟨rfl, rfl⟩ := some_inj2 e
      obtain rfl : v = .str _ := l
      exact call_len pins s σ H _ us Q I rv ⟨_, _, rfl, ⟨hz, rfl⟩, k ι H _ st .refl rfl⟩
    · cases e
  · obtain ⟨v, rfl, l⟩ := rls1 ls
    split at e
    · rename_i ys hx
      obtain ⟨rfl, rfl⟩ := some_inj2 e
      obtain ⟨a, vs, rfl, ia, ha, ra, _⟩ := cell_of st l hx
      exact call_len pins s σ H _ us Q I rv ⟨_, vs.length, rfl, .inl ⟨vs, ha, rfl⟩, by rw [← ra.length]; exact k ι H _ st .refl rfl⟩
    · cases e
  · -- all
    obtain ⟨v, rfl, l⟩ := rls1 ls
    split at e
    · rename_i ys hx
      obtain ⟨a, vs, rfl, ia, ha, ra, _⟩ := cell_of st l hx
      cases e2 : asBools ys with
      | none => rw [e2] at e; cases e
      | some bs =>
        rw [e2] at e
        obtain ⟨rfl, rfl⟩ := some_inj2 e
        rw [asBools_eq e2 ra] at ha
        exact cr_all hc pins s σ H _ us Q I rv ⟨a, bs, rfl, ha, k ι H _ st .refl rfl⟩
    · cases e
  · obtain ⟨v, rfl, l⟩ := rls1 ls
    split at e
    · rename_i ys hx
      obtain ⟨a, vs, rfl, ia, ha, ra, _⟩ := cell_of st l hx
      cases e2 : asBools ys with
      | none => rw [e2] at e; cases e
      | some bs =>
        rw [e2] at e
        obtain ⟨rfl, rfl⟩ := some_inj2 e
        rw [asBools_eq e2 ra] at ha
        exact cr_any hc pins s σ H _ us Q I rv ⟨a, bs, rfl, ha, k ι H _ st .refl rfl⟩
    · cases e
  · obtain ⟨v, u, rfl, l1, l2⟩ := rls2 ls
    obtain ⟨rfl, rfl⟩ := some_inj2 e
    obtain rfl : v = .int _ := l1
    obtain rfl : u = .int _ := l2
    exact call_max2 hc pins s σ H _ us Q I rv ⟨_, _, rfl, k ι H _ st .refl rfl⟩
  · obtain ⟨v, u, rfl, l1, l2⟩ := rls2 ls
    obtain ⟨rfl, rfl⟩ := some_inj2 e
    obtain rfl : v = .int _ := l1
    obtain rfl : u = .int _ := l2
    exact call_min2 hc pins s σ H _ us Q I rv ⟨_, _, rfl, k ι H _ st .refl rfl⟩
  · -- max of a list
    obtain ⟨v, rfl, l⟩ := rls1 ls
    split at e
    · rename_i ys hx
      split at e
      · rename_i y r' hy
        obtain ⟨rfl, rfl⟩ := some_inj2 e
        obtain ⟨a, vs, rfl, ia, ha, ra, _⟩ := cell_of st l hx
        rw [(asInts_eq hy ra).2] at ha
        refine cr_max hc pins s σ H _ us Q I rv ⟨a, y :: r', rfl, ha, Nat.succ_pos _, fun m h1 h2 => ?_⟩
        obtain ⟨h3, h4⟩ := maxL_spec r' y
        have em : m = maxL y r' := Int.le_antisymm (h4 m h1) (h2 _ h3)
        rw [em]
        exact k ι H _ st .refl rfl
      · cases e
    · cases e
  · obtain ⟨v, rfl, l⟩ := rls1 ls
    split at e
    · rename_i ys hx
      obtain ⟨a, vs, rfl, ia, ha, ra, _⟩ := cell_of st l hx
      cases e2 : asInts ys with
      | none => rw [e2] at e; cases e
      | some bs =>
        rw [e2] at e
        obtain ⟨rfl, rfl⟩ := some_inj2 e
        rw [(asInts_eq e2 ra).2] at ha
        exact cr_sum hc pins s σ H _ us Q I rv ⟨a, bs, rfl, ha, k ι H _ st .refl rfl⟩
    · cases e
  · -- tuple
    obtain ⟨v, rfl, l⟩ := rls1 ls
    obtain ⟨rfl, rfl⟩ := some_inj2 e
    obtain ⟨a, vs, rfl, ha, ra⟩ := l
    exact call_tuple_of pins s σ H _ us Q I rv ⟨a, vs, rfl, .inr ⟨ha, k ι H _ st .refl ⟨a, vs, rfl, ha, ra⟩⟩⟩
  · obtain ⟨v, rfl, l⟩ := rls1 ls
    split at e
    · rename_i ys hx
      obtain ⟨rfl, rfl⟩ := some_inj2 e
      obtain ⟨a, vs, rfl, ia, ha, ra, _⟩ := cell_of st l hx
      exact call_tuple_of pins s σ H _ us Q I rv ⟨a, vs, rfl, .inl ⟨ha, fun p hp => k ι _ _ (st.tup hp) (ext_tup hp) ⟨p, vs, rfl, SqT.of upd_same, ra.ext st (ext_tup hp)⟩⟩⟩
    · cases e
  · -- list
    obtain ⟨v, rfl, l⟩ := rls1 ls
    split at e
    · rename_i hz
      obtain ⟨a, vs, rfl, ha, ra⟩ := l
      exact call_list_of pins s σ H _ us Q I rv ⟨a, vs, rfl, .inr ha, fun p hp => newC_q st hp (lst_new st ra hz hp) e k⟩
    · cases e
  · obtain ⟨v, rfl, l⟩ := rls1 ls
    obtain ⟨a, vs, rfl, ha, ra, hz⟩ := l
    exact call_list_of pins s σ H _ us Q I rv ⟨a, vs, rfl, .inl ha.sq, fun p hp => newC_q st hp (lst_new st ra hz hp) e k⟩
  · obtain ⟨v, rfl, l⟩ := rls1 ls
    split at e
    · rename_i ys hx
      obtain ⟨a, vs, rfl, ia, ha, ra, hz⟩ := cell_of st l hx
      exact call_list_of pins s σ H _ us Q I rv ⟨a, vs, rfl, .inl ha, fun p hp => newC_q st hp (lst_new st ra hz hp) e k⟩
    · cases e
  · -- sorted
    obtain ⟨v, rfl, l⟩ := rls1 ls
    split at e
    · rename_i ys hx
      split at e
      · rename_i is hi
        obtain ⟨a, vs, rfl, ia, ha, ra, hz⟩ := lst_of st l hx
        obtain ⟨h1, h2⟩ := asInts_eq hi ra
        subst h2
        refine cr_sortedI pins s σ H _ us Q I rv ⟨a, is, rfl, .inl (.inl ha), fun ns' p hp hs hn => ?_⟩
        rw [isort_uniq hp hs]
        have m : MoR X.K (upd H p (.lst ((isort is).map V.int))) (ι ++ [p]) (.lst ((isort is).map PV.int)) p := ⟨by
          rw [List.length_map, (isort_perm is).length_eq]
          rw [h1, List.length_map] at hz
          exact hz, _, upd_same, ints_R _⟩
        exact newC_q st hn m e k
      · cases e
    · rename_i kvs hx
      split at e
      · rename_i is hi
        split at e
        · rename_i h64
          obtain ⟨a, rfl, ia⟩ := l
          obtain ⟨hz, nd, vs, hH, rk⟩ := st.at_ _ _ a hx ia
          have ek : vs.map (·.1) = is.map Sum.inl := keys_R hi rk
          refine call_sortedDI hc pins s σ H _ us Q I rv ⟨a, vs, is, rfl, .inl hH, ek, h64, fun ns' p hp hs hn => ?_⟩
          rw [isort_uniq hp hs]
          have m : MoR X.K (upd H p (.lst ((isort is).map V.int))) (ι ++ [p]) (.lst ((isort is).map PV.int)) p := ⟨by
            rw [List.length_map, (isort_perm is).length_eq, sizeLine_eq]
            omega, _, upd_same, ints_R _⟩
          exact newC_q st hn m e k
        · cases e
      · cases e
    · cases e
  · -- sorted, a tuple of pairs
    obtain ⟨v, rfl, l⟩ := rls1 ls
    split at e
    · rename_i bs hy
      obtain ⟨a, vs, rfl, ha, ra⟩ := l
      refine sorted_pairs hu pins s σ H _ us Q I rv ⟨a, vs, bs, rfl, ha, pairs_R hy ra, fun ys p hp hl hn => ?_⟩
      have tl : (psort bs).length = vs.length := by rw [← hl]; exact (Paired.length hp).symm
      have lv : vs.length ≤ sizeLine := (I.tuple ha).choose_spec.2.2
      have rr := rls_pairs (ι := ι) hp
      have m : MoR X.K (upd H p (.lst ys)) (ι ++ [p]) (.lst ((psort bs).map pairP)) p := ⟨by rw [List.length_map, tl]; exact lv, _, upd_same, rr.ext st (ext_new hn)⟩
      exact newC_q st hn m e k
    · cases e
  · exact absurd rfl hb
  · -- int
    obtain ⟨v, rfl, l⟩ := rls1 ls
    obtain ⟨rfl, rfl⟩ := some_inj2 e
    obtain rfl : v = .int _ := l
    exact call_int1 pins s σ H _ us Q I rv (.inl ⟨_, rfl, k ι H _ st .refl rfl⟩)
  · obtain ⟨v, rfl, l⟩ := rls1 ls
    obtain ⟨rfl, rfl⟩ := some_inj2 e
    obtain rfl : v = .bl _ := l
    exact call_int1 pins s σ H _ us Q I rv (.inr ⟨_, rfl, k ι H _ st .refl rfl⟩)
  · obtain ⟨v, rfl, l⟩ := rls1 ls
    split at e
    · rename_i a hz
      cases e2 : intText? a with
      | none => rw [e2] at e; cases e
      | some n =>
        rw [e2] at e
        obtain ⟨rfl, rfl⟩ := some_inj2 e
        obtain rfl : v = .str _ := l
        exact call_int_str pins s σ H _ us Q I rv ⟨_, _, rfl, e2, hz, k ι H _ st .refl rfl⟩
    · cases e
  · obtain ⟨v, rfl, l⟩ := rls1 ls
    split at e
    · rename_i hz
      obtain ⟨rfl, rfl⟩ := some_inj2 e
      obtain rfl : v = .int _ := l
      exact call_str_int pins s σ H _ us Q I rv ⟨_, rfl, hz, k ι H _ st .refl rfl⟩
    · cases e
  · obtain ⟨v, rfl, l⟩ := rls1 ls
    obtain ⟨rfl, rfl⟩ := some_inj2 e
    obtain rfl : v = .int _ := l
    exact call_abs pins s σ H _ us Q I rv ⟨_, rfl, k ι H _ st .refl rfl⟩
  · -- repr
    obtain ⟨v, rfl, l⟩ := rls1 ls
    split at e
    · rename_i p _ d hd
      split at e
      · rename_i hz
        obtain ⟨rfl, rfl⟩ := some_inj2 e
        obtain ⟨h1, h2, h3, h4⟩ := hz
        have dp := dp_of st l hd
        obtain ⟨u, rfl, ru⟩ := rv.one
        obtain ⟨as, rd⟩ := Dp.reads I d v u dp ru
        have ref : ∀ a, v = .ref a → wpAny (model X.prog X.w) X.A (PySem.call (.builtin "repr") [u]) (EP X pins σ Q) X.xe s := fun a ev => by
          subst ev
          obtain rfl : u = Value.ref a := ru
          refine PySem.repr_of_reads' rd h3 (fun z => ?_) gd (by omega) (fun _ _ q => q) (fun h' t tk hk => ⟨.str d.shown, H, I.kept hk, ⟨t, rfl⟩, k ι H _ st .refl rfl⟩) h1
          have q : d.hasDict = false := nd_W (nd_loc 3) p d hd
          rw [q] at z
          cases z
        cases p with
        | int i =>
          obtain rfl : v = .int i := l
          obtain rfl := flat_dp dp rfl
          obtain ⟨t, rfl⟩ := ru
          refine PySem.P.repr_of_int (of_decide_eq_true h3) ⟨.str (toString i), H, I.tok _, ⟨_, rfl⟩, k ι H _ st .refl rfl⟩
        | tup ps => obtain ⟨a, vs, ev, _⟩ := l; exact ref a ev
        | rol ps => obtain ⟨a, vs, ev, _⟩ := l; exact ref a ev
        | loc n => obtain ⟨a, ev, _⟩ := l; exact ref a ev
        | _ => cases h4
      · cases e
    · cases e
  · cases e
end
end Pv
end

section
set_option Elab.async false
set_option linter.all false
set_option maxRecDepth 100000
/-! Pv: what is walked; comprehensions. -/
namespace Pv
open PySem PySem.Spec PyProof.Rows L2
section
variable {X : Cx} {K : PySem.W.Frag} {H H' H1 H2 : Hp} {ι ι' ι1 ι2 : List Addr} {μ μ1 : Sto}

/-- tuples, and lists that nobody writes, stay; the cells stay where they are -/
structure Wk (K : PySem.W.Frag) (ι : List Addr) (H : Hp) (ι' : List Addr) (H' : Hp) : Prop where
  pre : ∀ (n : Nat) a, ι[n]? = some a → ι'[n]? = some a
  tk : TK K H H'
theorem Wk.refl : Wk K ι H ι H := ⟨fun _ _ h => h, fun _ _ h => h, fun _ _ h => h⟩
theorem Wk.trans (x : Wk K ι H ι1 H1) (y : Wk K ι1 H1 ι2 H2) : Wk K ι H ι2 H2 := ⟨fun n a e => y.pre n a (x.pre n a e), fun a vs h => y.tk.1 a vs (x.tk.1 a vs h), fun a vs h => y.tk.2 a vs (x.tk.2 a vs h)⟩
theorem Ext.wk (x : Ext ι H ι' H') (s : StR K H ι μ) : Wk K ι H ι' H' := ⟨fun _ _ => x.pre_get, s.tk x⟩
/-- an iterator's items, as long as the cells of c stay -/
structure ItR (K : PySem.W.Frag) (ps : List PV) (c : Chk) (ι : List Addr) (H : Hp) (J : It) : Prop where
  item : ∀ ι1 H1 μ1 i p, Wk K ι H ι1 H1 → StR K H1 ι1 μ1 → chkOk c μ1 = true → ps[i]? = some p →
    J.go i H1 ∧ ∀ x H2, J.yld i H1 x H2 → StR K H2 ι1 μ1 ∧ Ext ι1 H1 ι1 H2 ∧ Rl K H2 ι1 p x
  done : ∀ ι1 H1 μ1, Wk K ι H ι1 H1 → StR K H1 ι1 μ1 → chkOk c μ1 = true → J.stop ps.length H1
def tI (K : PySem.W.Frag) (m : Env' → Sto → Option ((List PV × Chk) × Sto)) : TI := fun σ H R => ∃ ι μ ρ r μ', Rel K ι μ ρ σ H ∧ m ρ μ = some (r, μ') ∧ ∀ ι' H' J, StR K H' ι' μ' → Ext ι H ι' H' → ItR K r.1 r.2 ι' H' J → R J H'
abbrev QI (X : Cx) (tg it : Expr) (m : Env' → Sto → Option ((List PV × Chk) × Sto)) : Prop := PI X tg it (tI X.K m)

/-- a sequence, as it stands later -/
def LaterL (K : PySem.W.Frag) (ps : List PV) (c : Chk) (ι : List Addr) (H : Hp) (a : Addr) : Prop := ∀ ι1 H1 μ1, Wk K ι H ι1 H1 → StR K H1 ι1 μ1 → chkOk c μ1 = true → ∃ vs, SqL K H1 a vs ∧ Rls K H1 ι1 ps vs
def LaterT (K : PySem.W.Frag) (ps : List PV) (c : Chk) (ι : List Addr) (H : Hp) (a : Addr) : Prop := ∀ ι1 H1 μ1, Wk K ι H ι1 H1 → StR K H1 ι1 μ1 → chkOk c μ1 = true → ∃ vs, SqT K H1 a vs ∧ Rls K H1 ι1 ps vs
theorem LaterL.ext {ps : List PV} {c : Chk} {a : Addr} (h : LaterL K ps c ι H a) (x : Wk K ι H ι' H') : LaterL K ps c ι' H' a := fun ι1 H1 μ1 y => h ι1 H1 μ1 (x.trans y)
theorem LaterT.ext {ps : List PV} {c : Chk} {a : Addr} (h : LaterT K ps c ι H a) (x : Wk K ι H ι' H') : LaterT K ps c ι' H' a := fun ι1 H1 μ1 y => h ι1 H1 μ1 (x.trans y)
theorem seq_at (st : StR K H ι μ) {p : PV} {v : V} {ps : List PV} {c : Chk} (l : Rl K H ι p v) (e : seqI p μ = some (ps, c)) :
    ∃ a, v = .ref a ∧ ((isTup p = false ∧ (∃ vs, SqL K H a vs) ∧ LaterL K ps c ι H a) ∨ (isTup p = true ∧ (∃ vs, SqT K H a vs) ∧ LaterT K ps c ι H a)) := by
  cases p with
  | tup xs =>
    obtain ⟨rfl, rfl⟩ := some_inj2 e
    obtain ⟨a, vs, rfl, ha, ra⟩ := l
    exact ⟨a, rfl, .inr ⟨rfl, ⟨vs, ha⟩, fun ι1 H1 μ1 x s1 _ => ⟨vs, x.tk.1 _ _ ha, ra.mono x.pre x.tk⟩⟩⟩
  | rol xs =>
    obtain ⟨rfl, rfl⟩ := some_inj2 e
    obtain ⟨a, vs, rfl, ha, ra, _⟩ := l
    exact ⟨a, rfl, .inl ⟨rfl, ⟨vs, ha.sq⟩, fun ι1 H1 μ1 x s1 _ => ⟨vs, (x.tk.2 _ _ ha).sq, ra.mono x.pre x.tk⟩⟩⟩
  | loc n =>
    simp only [seqI] at e
    split at e
    · rename_i xs hx
      obtain ⟨rfl, rfl⟩ := some_inj2 e
      obtain ⟨a, vs, rfl, ia, ha, ra, hz⟩ := lst_of st l hx
      refine ⟨a, rfl, .inl ⟨rfl, ⟨vs, SqL.of ha⟩, fun ι1 H1 μ1 x s1 ok => ?_⟩⟩
      have e1 : μ1[n]? = some (.lst xs) := by simpa [chkOk] using ok
      obtain ⟨_, us, eu, ru⟩ := s1.at_ n _ a e1 (x.pre _ _ ia)
      exact ⟨us, SqL.of eu, ru⟩
    · cases e
  | _ => cases e
theorem itr_list {ps : List PV} {c : Chk} {a : Addr} (h : LaterL K ps c ι H a) : ItR K ps c ι H (Itl K a) := by
  refine ⟨fun ι1 H1 μ1 i p x s1 ok hp => ?_, fun ι1 H1 μ1 x s1 ok => ?_⟩
  · obtain ⟨vs, hs, rs⟩ := h ι1 H1 μ1 x s1 ok
    obtain ⟨v, hv, rv⟩ := rs.get hp
    refine ⟨⟨vs, v, hs, hv⟩, fun y H2 ⟨e, z⟩ => ?_⟩
    subst e
    have q := z vs hs
    rw [hv] at q
    obtain rfl := Option.some.inj q
    exact ⟨s1, .refl, rv⟩
  · obtain ⟨vs, hs, rs⟩ := h ι1 H1 μ1 x s1 ok
    exact ⟨vs, hs, by rw [rs.length]; exact Nat.le_refl _⟩
theorem itr_tup {ps : List PV} {c : Chk} {a : Addr} (h : LaterT K ps c ι H a) : ItR K ps c ι H (Itt K a) := by
  refine ⟨fun ι1 H1 μ1 i p x s1 ok hp => ?_, fun ι1 H1 μ1 x s1 ok => ?_⟩
  · obtain ⟨vs, hs, rs⟩ := h ι1 H1 μ1 x s1 ok
    obtain ⟨v, hv, rv⟩ := rs.get hp
    refine ⟨⟨vs, v, hs, hv⟩, fun y H2 ⟨e, z⟩ => ?_⟩
    subst e
    have q := z vs hs
    rw [hv] at q
    obtain rfl := Option.some.inj q
    exact ⟨s1, .refl, rv⟩
  · obtain ⟨vs, hs, rs⟩ := h ι1 H1 μ1 x s1 ok
    exact ⟨vs, hs, by rw [rs.length]; exact Nat.le_refl _⟩
theorem qi_val {tg e : Expr} {m : Env' → Sto → Option (PV × Sto)} (he : QE X e m) : QI X tg e (fun ρ μ => seqO (m ρ μ) fun x μ1 => (seqI x μ1).map fun r => (r, μ1)) := by
  refine ⟨fun pins s σ H R I h => ?_⟩
  obtain ⟨ι, μ, ρ, r, μ', rr, e0, q⟩ := h
  obtain ⟨p, μ1, e1, e2⟩ := seqO_eq e0
  cases es : seqI p μ1 with
  | none => rw [es] at e2; cases e2
  | some r0 =>
    rw [es] at e2
    obtain ⟨rfl, rfl⟩ := some_inj2 e2
    obtain ⟨ps, c⟩ := r0
    cases ht : isTup p with
    | false =>
      refine (pi_list he).run pins s σ H R I (tM_go rr e1 fun ι1 H1 v r1 x1 l1 => ?_)
      obtain ⟨a, rfl, k | k⟩ := seq_at r1.st l1 es
      · exact ⟨a, rfl, k.2.1, q ι1 H1 _ r1.st x1 (itr_list k.2.2)⟩
      · rw [ht] at k; cases k.1
    | true =>
      refine (pi_tup he).run pins s σ H R I (tM_go rr e1 fun ι1 H1 v r1 x1 l1 => ?_)
      obtain ⟨a, rfl, k | k⟩ := seq_at r1.st l1 es
      · rw [ht] at k; cases k.1
      · exact ⟨a, rfl, k.2.1, q ι1 H1 _ r1.st x1 (itr_tup k.2.2)⟩
theorem numI_get {xs : List PV} {i : Nat} {p : PV} (h : (numI xs)[i]? = some p) : ∃ x, xs[i]? = some x ∧ p = .tup [.int (i : Nat), x] := by
  unfold numI at h
  rw [List.getElem?_zipWith] at h
  have hl : i < xs.length := by
    cases ex : xs[i]? with
    | none =>
      rw [ex] at h
      cases er : (List.range xs.length)[i]? <;> rw [er] at h <;> cases h
    | some y => exact (List.getElem?_eq_some_iff.mp ex).1
  rw [List.getElem?_range hl] at h
  cases ex : xs[i]? with
  | none => rw [ex] at h; cases h
  | some y =>
    rw [ex] at h
    exact ⟨y, rfl, (Option.some.inj h).symm⟩
theorem numI_len (xs : List PV) : (numI xs).length = xs.length := by simp [numI]
theorem itr_enum {ps : List PV} {c : Chk} {a : Addr} (h : LaterL K ps c ι H a) : ItR K (numI ps) c ι H (Ite K a) := by
  refine ⟨fun ι1 H1 μ1 i p x s1 ok hp => ?_, fun ι1 H1 μ1 x s1 ok => ?_⟩
  · obtain ⟨vs, hs, rs⟩ := h ι1 H1 μ1 x s1 ok
    obtain ⟨p, hp2, rfl⟩ := numI_get hp
    obtain ⟨v, hv, rv⟩ := rs.get hp2
    refine ⟨⟨vs, v, hs, hv⟩, fun y H2 ⟨T, u, e1, e2, e3, z⟩ => ?_⟩
    subst e1; subst e3
    have q := z vs hs
    rw [hv] at q
    obtain rfl := Option.some.inj q
    exact ⟨s1.tup e2, ext_tup e2, T, _, rfl, SqT.of upd_same, _, _, rfl, rfl, _, _, rfl, rv.ext s1 (ext_tup e2), rfl⟩
  · obtain ⟨vs, hs, rs⟩ := h ι1 H1 μ1 x s1 ok
    exact ⟨vs, hs, by rw [numI_len, rs.length]; exact Nat.le_refl _⟩
theorem one_star {e : Expr} (h : notStar e = true) {env : Env} : starEach [e] env = [(false, eval e env)] := star_of h
theorem qi_en {e : Expr} {m : Env' → Sto → Option (PV × Sto)} {p pos tpos : Pos} {elts : List Expr} {kk : Nat} (hg : Gl X "enumerate") (hm : X.mg "enumerate" = none) (hs : notStar e = true) (he : QE X e m) :
    QI X (.Tuple elts kk tpos) (.Call (.Name "enumerate" p) [e] [] pos) (fun ρ μ => seqO (m ρ μ) fun x μ1 => if isTup x = true then none else (seqI x μ1).map fun r => ((numI r.1, r.2), μ1)) := by
  refine ⟨fun pins s σ H R I h => ?_⟩
  obtain ⟨ι, μ, ρ, r, μ', rr, e0, q⟩ := h
  obtain ⟨p, μ1, e1, e2⟩ := seqO_eq e0
  split at e2
  · cases e2
  · rename_i ht
    cases es : seqI p μ1 with
    | none => rw [es] at e2; cases e2
    | some r0 =>
      rw [es] at e2
      obtain ⟨rfl, rfl⟩ := some_inj2 e2
      obtain ⟨ps, c⟩ := r0
      refine (pi_enum hg hm (qa_cons hs he qa_nil) (one_star hs)).run pins s σ H R I (tMA_go rr (by rw [e1]; rfl) fun ι1 H1 v r1 x1 l1 => ?_)
      obtain ⟨u, rfl, l⟩ := rls1 l1
      obtain ⟨a, rfl, k | k⟩ := seq_at r1.st l es
      · obtain ⟨vs, hv⟩ := k.2.1
        exact ⟨a, vs, rfl, hv, q ι1 H1 _ r1.st x1 (itr_enum k.2.2)⟩
      · exact absurd k.1 ht
theorem zip_get {xs ys : List PV} {i : Nat} {p : PV} (h : (xs.zipWith (fun u v => PV.tup [u, v]) ys)[i]? = some p) : ∃ x y, xs[i]? = some x ∧ ys[i]? = some y ∧ p = .tup [x, y] := by
  rw [List.getElem?_zipWith] at h
  cases ex : xs[i]? with
  | none => rw [ex] at h; cases ey : ys[i]? <;> rw [ey] at h <;> cases h
  | some x =>
    rw [ex] at h
    cases ey : ys[i]? with
    | none => rw [ey] at h; cases h
    | some y =>
      rw [ey] at h
      exact ⟨x, y, rfl, rfl, (Option.some.inj h).symm⟩
theorem chk_app {c d : Chk} {μ : Sto} (h : chkOk (c ++ d) μ = true) : chkOk c μ = true ∧ chkOk d μ = true := by
  unfold chkOk at h ⊢
  rw [List.all_append, Bool.and_eq_true] at h
  exact h
theorem pair_R (s1 : StR K H1 ι1 μ1) {T : Addr} {p q : PV} {x y : V} (e : H1 T = none) (rx : Rl K H1 ι1 p x) (ry : Rl K H1 ι1 q y) : StR K (upd H1 T (.tup [x, y])) ι1 μ1 ∧ Ext ι1 H1 ι1 (upd H1 T (.tup [x, y])) ∧ Rl K (upd H1 T (.tup [x, y])) ι1 (.tup [p, q]) (.ref T) :=
  ⟨s1.tup e, ext_tup e, T, _, rfl, SqT.of upd_same, _, _, rfl, rx.ext s1 (ext_tup e), _, _, rfl, ry.ext s1 (ext_tup e), rfl⟩
theorem itr_zip {ps qs : List PV} {c d : Chk} {a b : Addr} (h : LaterL K ps c ι H a) (h' : LaterL K qs d ι H b) : ItR K (ps.zipWith (fun u v => PV.tup [u, v]) qs) (c ++ d) ι H (Itz K a b) := by
  refine ⟨fun ι1 H1 μ1 i p x s1 ok hp => ?_, fun ι1 H1 μ1 x s1 ok => ?_⟩
  · obtain ⟨vs, hs, rs⟩ := h ι1 H1 μ1 x s1 (chk_app ok).1
    obtain ⟨us, hu, ru⟩ := h' ι1 H1 μ1 x s1 (chk_app ok).2
    obtain ⟨p, q, hp2, hq, rfl⟩ := zip_get hp
    obtain ⟨v, hv, rv⟩ := rs.get hp2
    obtain ⟨u, hu2, rv2⟩ := ru.get hq
    refine ⟨⟨vs, us, v, u, hs, hu, hv, hu2⟩, fun y H2 ⟨T, v', u', e1, e2, e3, z, z'⟩ => ?_⟩
    subst e1; subst e3
    have q := z vs hs
    rw [hv] at q
    obtain rfl := Option.some.inj q
    have q := z' us hu
    rw [hu2] at q
    obtain rfl := Option.some.inj q
    exact pair_R s1 e2 rv rv2
  · obtain ⟨vs, hs, rs⟩ := h ι1 H1 μ1 x s1 (chk_app ok).1
    obtain ⟨us, hu, ru⟩ := h' ι1 H1 μ1 x s1 (chk_app ok).2
    refine ⟨vs, us, hs, hu, ?_⟩
    rw [List.length_zipWith, rs.length, ru.length]
    omega
theorem itr_zipT {ps qs : List PV} {c d : Chk} {a b : Addr} (h : LaterT K ps c ι H a) (h' : LaterT K qs d ι H b) : ItR K (ps.zipWith (fun u v => PV.tup [u, v]) qs) (c ++ d) ι H (RZ.ItzT K a b) := by
  refine ⟨fun ι1 H1 μ1 i p x s1 ok hp => ?_, fun ι1 H1 μ1 x s1 ok => ?_⟩
  · obtain ⟨vs, hs, rs⟩ := h ι1 H1 μ1 x s1 (chk_app ok).1
    obtain ⟨us, hu, ru⟩ := h' ι1 H1 μ1 x s1 (chk_app ok).2
    obtain ⟨p, q, hp2, hq, rfl⟩ := zip_get hp
    obtain ⟨v, hv, rv⟩ := rs.get hp2
    obtain ⟨u, hu2, rv2⟩ := ru.get hq
    refine ⟨⟨vs, us, v, u, hs, hu, hv, hu2⟩, fun y H2 ⟨T, v', u', e1, e2, e3, z, z'⟩ => ?_⟩
    subst e1; subst e3
    have q := z vs hs
    rw [hv] at q
    obtain rfl := Option.some.inj q
    have q := z' us hu
    rw [hu2] at q
    obtain rfl := Option.some.inj q
    exact pair_R s1 e2 rv rv2
  · obtain ⟨vs, hs, rs⟩ := h ι1 H1 μ1 x s1 (chk_app ok).1
    obtain ⟨us, hu, ru⟩ := h' ι1 H1 μ1 x s1 (chk_app ok).2
    refine ⟨vs, us, hs, hu, ?_⟩
    rw [List.length_zipWith, rs.length, ru.length]
    omega
theorem qi_zp {a b : Expr} {ma mb : Env' → Sto → Option (PV × Sto)} {p pos tpos : Pos} {elts : List Expr} {kk : Nat} (hg : Gl X "zip") (hm : X.mg "zip" = none) (hs : notStar a = true) (hs2 : notStar b = true) (ha : QE X a ma) (hb : QE X b mb) :
    QI X (.Tuple elts kk tpos) (.Call (.Name "zip" p) [a, b] [] pos) (fun ρ μ => seqO (ma ρ μ) fun x μ1 => seqO (mb ρ μ1) fun y μ2 => if isTup x = isTup y then match seqI x μ2, seqI y μ2 with
      | some r, some t => some ((r.1.zipWith (fun u v => .tup [u, v]) t.1, r.2 ++ t.2), μ2)
      | _, _ => none
    else none) := by
  refine ⟨fun pins s σ H R I h => ?_⟩
  obtain ⟨ι, μ, ρ, r, μ', rr, e0, q⟩ := h
  obtain ⟨x, μ1, e1, e2⟩ := seqO_eq e0
  obtain ⟨y, μ2, e3, e2⟩ := seqO_eq e2
  split at e2
  · rename_i ht
    split at e2
    · rename_i r1 r2 es1 es2
      obtain ⟨rfl, rfl⟩ := some_inj2 e2
      obtain ⟨ps, c⟩ := r1
      obtain ⟨qs, d⟩ := r2
      refine (RZ.pi_zipA hg hm (qa_cons hs ha (qa_cons hs2 hb qa_nil)) (star_of hs) (by rw [one_star hs2]; rfl)).run pins s σ H R I
        (tMA_go rr (by rw [e1, seqO_some, e3]; rfl) fun ι1 H1 v r1 x1 l1 => ?_)
      obtain ⟨u, w, rfl, l, l'⟩ := rls2 l1
      obtain ⟨a, rfl, k⟩ := seq_at r1.st l es1
      obtain ⟨b, rfl, k'⟩ := seq_at r1.st l' es2
      cases hx : isTup x with
      | false =>
        rcases k with ⟨_, ⟨vs, hv⟩, k⟩ | k
        · rcases k' with ⟨_, ⟨us, hu⟩, k'⟩ | k'
          · exact ⟨a, b, vs, us, rfl, .inl ⟨hv, hu, q ι1 H1 _ r1.st x1 (itr_zip k k')⟩⟩
          · rw [k'.1, hx] at ht; cases ht
        · rw [hx] at k; cases k.1
      | true =>
        rcases k with k | ⟨_, ⟨vs, hv⟩, k⟩
        · rw [hx] at k; cases k.1
        · rcases k' with k' | ⟨_, ⟨us, hu⟩, k'⟩
          · rw [k'.1, hx] at ht; cases ht
          · exact ⟨a, b, vs, us, rfl, .inr ⟨hv, hu, q ι1 H1 _ r1.st x1 (itr_zipT k k')⟩⟩
    · cases e2
  · cases e2
theorem itr_range {n : Int} : ItR K (rangeI n) [] ι H (Itr 0 n.toNat) := by
  refine ⟨fun ι1 H1 μ1 i p x s1 ok hp => ?_, fun ι1 H1 μ1 x s1 ok => ?_⟩
  · unfold rangeI at hp
    rw [List.getElem?_map] at hp
    have hi : i < n.toNat := by
      by_cases hi : i < n.toNat
      · exact hi
      · rw [List.getElem?_eq_none (by simpa using hi)] at hp; cases hp
    rw [List.getElem?_range hi] at hp
    obtain rfl := Option.some.inj hp
    refine ⟨hi, fun y H2 ⟨e1, e2⟩ => ?_⟩
    subst e1; subst e2
    exact ⟨s1, .refl, by show V.int (0 + (i : Int)) = V.int i; rw [Int.zero_add]⟩
  · show n.toNat ≤ _
    simp [rangeI]
theorem qi_rg {a : Expr} {m : Env' → Sto → Option (PV × Sto)} {tg : Expr} {p pos : Pos} (hg : Gl X "range") (hm : X.mg "range" = none) (hs : notStar a = true) (ha : QE X a m) :
    QI X tg (.Call (.Name "range" p) [a] [] pos) (fun ρ μ => seqO (m ρ μ) fun x μ1 => match x with
    | .int n => if -(2 ^ 62) ≤ n ∧ n < 2 ^ 62 then some ((rangeI n, []), μ1) else none
    | _ => none) := by
  refine ⟨fun pins s σ H R I h => ?_⟩
  obtain ⟨ι, μ, ρ, r, μ', rr, e0, q⟩ := h
  obtain ⟨x, μ1, e1, e2⟩ := seqO_eq e0
  split at e2
  · split at e2
    · rename_i n hz
      obtain ⟨rfl, rfl⟩ := some_inj2 e2
      refine (pi_range1 hg hm (qa_cons hs ha qa_nil) (one_star hs)).run pins s σ H R I (tMA_go rr (by rw [e1]; rfl) fun ι1 H1 v r1 x1 l1 => ?_)
      obtain ⟨u, rfl, l⟩ := rls1 l1
      obtain rfl : u = .int n := l
      exact ⟨n, rfl, hz.1, hz.2, q ι1 H1 _ r1.st x1 itr_range⟩
    · cases e2
  · cases e2
end
end Pv
end

section
set_option Elab.async false
set_option linter.all false
set_option maxRecDepth 100000
/-! Pv: targets; comprehensions. -/
namespace Pv
open PySem PySem.Spec PyProof.Rows L2

/-! ### targets -/
mutual
def tgSl : Tg → List Nat
  | .nm i => [i]
  | .tp ts => tgSls ts
def tgSls : List Tg → List Nat
  | [] => []
  | t :: ts => tgSl t ++ tgSls ts
end
def gM (K : PySem.W.Frag) (tg : Tg) : TG := fun v σ H Q => ∃ ι μ ρ p ρ', Rel K ι μ ρ σ H ∧ Rl K H ι p v ∧ bindT tg p ρ = some ρ' ∧ ∀ σ', EnvR K H ι ρ' σ' → σ'.length = σ.length → (∀ j, j ∉ tgSl tg → σ'[j]? = σ[j]?) → Q σ' H
def gMs (K : PySem.W.Frag) (ts : List Tg) : TGs := fun vs σ H Q => ∃ ι μ ρ ps ρ', Rel K ι μ ρ σ H ∧ Rls K H ι ps vs ∧ bindTs ts ps ρ = some ρ' ∧ ∀ σ', EnvR K H ι ρ' σ' → σ'.length = σ.length → (∀ j, j ∉ tgSls ts → σ'[j]? = σ[j]?) → Q σ' H
section
variable {X : Cx} {K : PySem.W.Frag} {H H' H1 H2 : Hp} {ι ι' ι1 ι2 : List Addr} {μ μ1 : Sto}
theorem EnvR.set {ρ : Env'} {σ : L2.St} (h : EnvR K H ι ρ σ) (i : Nat) {p : PV} {v : V} (l : Rl K H ι p v) : EnvR K H ι (ρ.set i (some p)) (σ.set i (some v)) := by
  refine ⟨by rw [List.length_set, List.length_set]; exact h.1, fun j q e => ?_⟩
  by_cases hj : i = j
  · subst hj
    have hi : i < ρ.length := by
      have := (List.getElem?_eq_some_iff.mp e).1
      rwa [List.length_set] at this
    rw [List.getElem?_set_self hi] at e
    obtain rfl := Option.some.inj (Option.some.inj e)
    exact ⟨v, List.getElem?_set_self (by rw [← h.1]; exact hi), l⟩
  · rw [List.getElem?_set_ne hj] at e ⊢
    exact h.2 j q e
theorem g_nm {i : Nat} {x : Str} {pos : Pos} (hN : X.N.Nodup) (hi : X.N[i]? = some x) (hx : Loc X.env.scope x) (hf : X.fn x = true ∨ X.env.scope.names.lookup x = some .local) : PG X (.Name x pos) (gM X.K (.nm i)) := by
  refine ⟨fun pins s σ H v u Q I r h => (pg_name hN hi hx hf).run pins s σ H v u Q I r ?_⟩
  obtain ⟨ι, μ, ρ, p, ρ', rr, l, e, q⟩ := h
  obtain rfl := Option.some.inj e
  exact q _ (rr.env.set i l) List.length_set fun j hj => List.getElem?_set_ne (fun z => hj (by rw [← z]; simp [tgSl]))
theorem g_tp {ts : List Tg} {es : List Expr} {k n : Nat} {pos : Pos} (hc : X.calm = true) (h : PGs X es (gMs X.K ts)) (hn : (assignEach es X.env).length = n) (hl : ts.length = n) (hst : (assignEach es X.env).findIdx? (·.1) = none) : PG X (.Tuple es k pos) (gM X.K (.tp ts)) := by
  refine ⟨fun pins s σ H v u Q I r hq => (pg_tup hc h hn hst).run pins s σ H v u Q I r ?_⟩
  obtain ⟨ι, μ, ρ, p, ρ', rr, l, e, q⟩ := hq
  simp only [bindT] at e
  split at e
  · rename_i ps
    obtain ⟨a, vs, rfl, ha, ra⟩ := l
    have hlen : ∀ (ts : List Tg) (ps : List PV) (ρ ρ' : Env'), bindTs ts ps ρ = some ρ' → ts.length = ps.length := by
      intro ts
      induction ts with
      | nil => intro ps ρ ρ' e; cases ps with
        | nil => rfl
        | cons _ _ => cases e
      | cons t ts ih => intro ps ρ ρ' e; cases ps with
        | nil => cases e
        | cons p ps =>
          simp only [bindTs] at e
          split at e
          · rw [List.length_cons, List.length_cons, ih _ _ _ e]
          · cases e
    refine ⟨a, vs, rfl, ha, ?_, ι, μ, ρ, ps, ρ', rr, ra, e, fun σ' er hl hj => q σ' er hl fun j z => hj j z⟩
    rw [← ra.length, ← hlen _ _ _ _ e, hl]
  · cases e
theorem gs_nil : PGs X [] (gMs X.K []) := by
  refine ⟨fun pins s σ H vs us Q I r h => pgs_nil.run pins s σ H vs us Q I r ?_⟩
  obtain ⟨ι, μ, ρ, ps, ρ', rr, l, e, q⟩ := h
  cases ps with
  | nil =>
    obtain rfl := Option.some.inj e
    exact ⟨l, q σ rr.env rfl fun _ _ => rfl⟩
  | cons _ _ => cases e
theorem gs_cons {e : Expr} {es : List Expr} {t : Tg} {ts : List Tg} (h1 : PG X e (gM X.K t)) (h2 : PGs X es (gMs X.K ts)) (hs : (assignEach (e :: es) X.env).map (·.2) = assign e X.env :: (assignEach es X.env).map (·.2)) : PGs X (e :: es) (gMs X.K (t :: ts)) := by
  refine ⟨fun pins s σ H vs us Q I r h => (pgs_cons h1 h2 hs).run pins s σ H vs us Q I r ?_⟩
  obtain ⟨ι, μ, ρ, ps, ρ', rr, l, e, q⟩ := h
  cases ps with
  | nil => cases e
  | cons p ps =>
    simp only [bindTs] at e
    split at e
    · rename_i ρ1 e1
      obtain ⟨v, vr, rfl, l1, l2⟩ := l
      refine ⟨v, vr, rfl, ι, μ, ρ, p, ρ1, rr, l1, e1, fun σ1 er1 hl1 hj1 => ?_⟩
      exact ⟨ι, μ, ρ1, ps, ρ', ⟨rr.st, er1⟩, l2, e, fun σ' er hl hj => q σ' er (hl.trans hl1) fun j z => by
        simp only [tgSls, List.mem_append, not_or] at z
        rw [hj j z.2, hj1 j z.1]⟩
    · cases e
def plainTg : Expr → Bool
  | .Name _ _ => true
  | .Tuple _ _ _ => true
  | _ => false
theorem each_cons {e : Expr} {es : List Expr} {env : Env} (h : plainTg e = true) : assignEach (e :: es) env = (false, assign e env) :: assignEach es env := by
  cases e <;> first | rfl | cases h
mutual
def mTg (N : List Str) (ok : Str → Bool) : Tg → Expr → Bool
  | .nm i, .Name x _ => decide (N[i]? = some x) && ok x
  | .tp ts, .Tuple es _ _ => mTgs N ok ts es
  | _, _ => false
def mTgs (N : List Str) (ok : Str → Bool) : List Tg → List Expr → Bool
  | [], [] => true
  | t :: ts, e :: es => mTg N ok t e && mTgs N ok ts es
  | _, _ => false
end
def OkN (X : Cx) (x : Str) : Prop := Loc X.env.scope x ∧ (X.fn x = true ∨ X.env.scope.names.lookup x = some .local)
mutual
theorem g_ok {ok : Str → Bool} (hc : X.calm = true) (hN : X.N.Nodup) (hok : ∀ x, ok x = true → OkN X x) : ∀ (t : Tg) (e : Expr), mTg X.N ok t e = true → PG X e (gM X.K t) ∧ plainTg e = true
  | .nm i, e, h => by
    cases e <;> simp only [mTg] at h <;> try (cases h; done)
    rw [Bool.and_eq_true, decide_eq_true_eq] at h
    obtain ⟨h1, h2⟩ := hok _ h.2
    exact ⟨g_nm hN h.1 h1 h2, rfl⟩
  | .tp ts, e, h => by
    cases e <;> simp only [mTg] at h <;> try (cases h; done)
    obtain ⟨h1, h2, h3⟩ := gs_ok hc hN hok ts _ h
    exact ⟨g_tp hc h1 h2 rfl h3, rfl⟩
theorem gs_ok {ok : Str → Bool} (hc : X.calm = true) (hN : X.N.Nodup) (hok : ∀ x, ok x = true → OkN X x) : ∀ (ts : List Tg) (es : List Expr), mTgs X.N ok ts es = true → PGs X es (gMs X.K ts) ∧ (assignEach es X.env).length = ts.length ∧ (assignEach es X.env).findIdx? (·.1) = none
  | [], [], _ => ⟨gs_nil, rfl, rfl⟩
  | [], _ :: _, h => by simp [mTgs] at h
  | _ :: _, [], h => by simp [mTgs] at h
  | t :: ts, e :: es, h => by
    simp only [mTgs, Bool.and_eq_true] at h
    obtain ⟨h1, h2⟩ := g_ok hc hN hok t e h.1
    obtain ⟨h3, h4, h5⟩ := gs_ok hc hN hok ts es h.2
    refine ⟨gs_cons h1 h3 (by rw [each_cons h2]; rfl), by rw [each_cons h2, List.length_cons, h4]; rfl, ?_⟩
    rw [each_cons h2, List.findIdx?_cons, if_neg (fun z => Bool.false_ne_true z), h5]
    rfl
end

/-! ### what a comprehension makes -/
theorem wipe_get {σ : L2.St} : ∀ {vs : List Nat} {i : Nat}, i ∈ vs → (wipe σ vs)[i]? = if i < σ.length then some none else none
  | v :: vs, i, h => by
    unfold wipe
    by_cases e : v = i
    · subst e
      by_cases hv : v < σ.length
      · rw [List.getElem?_set_self (by rw [wipe_length]; exact hv), if_pos hv]
      · rw [List.getElem?_eq_none (by rw [List.length_set, wipe_length]; omega), if_neg hv]
    · rw [List.getElem?_set_ne e]
      rcases List.mem_cons.mp h with e2 | h
      · exact absurd e2.symm e
      · exact wipe_get h
theorem wipe_eq {σ σ' : L2.St} {vs : List Nat} (hl : σ'.length = σ.length) (h : ∀ j, j ∉ vs → σ'[j]? = σ[j]?) : wipe σ' vs = wipe σ vs := by
  refine List.ext_getElem? fun i => ?_
  by_cases hi : i ∈ vs
  · rw [wipe_get hi, wipe_get hi, hl]
  · rw [wipe_out hi, wipe_out hi, h i hi]
theorem wipe_wipe {σ : L2.St} {vs : List Nat} : wipe (wipe σ vs) vs = wipe σ vs := wipe_eq (wipe_length _ _) fun j hj => wipe_out hj
theorem wipeE_length (ρ : Env') : ∀ vs : List Nat, (wipeE ρ vs).length = ρ.length
  | [] => rfl
  | v :: vs => by unfold wipeE; rw [List.length_set, wipeE_length ρ vs]
theorem EnvR.wipe {ρ : Env'} {σ : L2.St} (h : EnvR K H ι ρ σ) : ∀ vs : List Nat, EnvR K H ι (wipeE ρ vs) (wipe σ vs)
  | [] => h
  | v :: vs => by
    have ih := EnvR.wipe h vs
    refine ⟨by rw [wipeE_length, wipe_length]; exact h.1, fun i p e => ?_⟩
    unfold wipeE at e
    unfold L2.wipe
    by_cases hi : v = i
    · subst hi
      have hv : v < (wipeE ρ vs).length := by
        have := (List.getElem?_eq_some_iff.mp e).1
        rwa [List.length_set] at this
      rw [List.getElem?_set_self hv] at e
      cases e
    · rw [List.getElem?_set_ne hi] at e ⊢
      exact ih.2 i p e
theorem EnvR.mono {ρ : Env'} {σ : L2.St} (h : EnvR K H ι ρ σ) (x : Wk K ι H ι' H') : EnvR K H' ι' ρ σ :=
  ⟨h.1, fun i p e => let ⟨v, e1, r⟩ := h.2 i p e; ⟨v, e1, r.mono x.pre x.tk⟩⟩
theorem StR.out (s : StR K H ι μ) {D : Addr} (h : H D = none) : D ∉ ι := fun z => by
  obtain ⟨n, mo, _, _, m⟩ := s.mem z
  exact m.some h
theorem Ext.out (x : Ext ι H ι' H') {D : Addr} (h : D ∉ ι) (hD : H D ≠ none) : D ∉ ι' := fun z => by
  obtain ⟨t, e, ht⟩ := x.pre
  rw [e] at z
  rcases List.mem_append.mp z with z | z
  · exact h z
  · exact hD (ht D z)
theorem tk_acc {D : Addr} {o o' : HO} (hD : H D = some o) (h1 : ∀ vs, o ≠ .tup vs) (h2 : ∀ a b, o ≠ .frz a b) : TK K H (upd H D o') := by
  have ne : ∀ {b u}, H b = some u → u ≠ o → b ≠ D := fun {b u} e n z => by subst z; rw [hD] at e; exact n (Option.some.inj e).symm
  refine ⟨fun a vs h => ?_, fun a vs h => ?_⟩
  · rcases h with (h | ⟨o, h⟩) | h
    · exact .inl (.inl (by rw [upd_ne (ne h (Ne.symm (h1 _)))]; exact h))
    · exact .inl (.inr ⟨o, by rw [upd_ne (ne h (Ne.symm (h2 _ _)))]; exact h⟩)
    · exact .inr h
  · rcases h with ⟨o, h⟩ | h
    · exact .inl ⟨o, by rw [upd_ne (ne h (Ne.symm (h2 _ _)))]; exact h⟩
    · exact .inr h
theorem StR.acc (s : StR K H ι μ) {D : Addr} {o o' : HO} (hn : D ∉ ι) (hD : H D = some o) (h1 : ∀ vs, o ≠ .tup vs) (h2 : ∀ a b, o ≠ .frz a b) : StR K (upd H D o') ι μ := by
  refine ⟨s.len, s.nd, fun n mo a e1 e2 => ?_⟩
  have m := s.at_ n mo a e1 e2
  have hne : a ≠ D := fun z => hn (by rw [← z]; exact List.mem_of_getElem? e2)
  cases mo with
  | lst ps => obtain ⟨z, vs, e, r⟩ := m; exact ⟨z, vs, by rw [upd_ne hne]; exact e, Rls.mono (fun _ _ h => h) (tk_acc hD h1 h2) r⟩
  | dic ps => obtain ⟨z, nd, vs, e, r⟩ := m; exact ⟨z, nd, vs, by rw [upd_ne hne]; exact e, Rkv.mono (fun _ _ h => h) (tk_acc hD h1 h2) r⟩
theorem Ext.acc (x : Ext ι H ι' H') {D : Addr} {o : HO} (h : H D = none) : Ext ι H ι' (upd H' D o) :=
  ⟨x.pre, fun b u e hb => by rw [upd_ne (ne_of_none e h)]; exact x.fr b u e hb, fun b hb hn => by
    by_cases z : b = D
    · rw [z, upd_same]; exact fun q => nomatch q
    · rw [upd_ne z]; exact x.don b hb hn⟩
theorem Ext.add (x : Ext ι H ι' H') {D : Addr} (h : H D = none) : Ext ι H (ι' ++ [D]) H' := by
  obtain ⟨t, e, ht⟩ := x.pre
  refine ⟨⟨t ++ [D], by rw [e, List.append_assoc], fun b hb => ?_⟩, x.fr, x.don⟩
  rcases List.mem_append.mp hb with z | z
  · exact ht b z
  · rw [List.mem_singleton.mp z]; exact h
theorem tk_refl : TK K H H := ⟨fun _ _ h => h, fun _ _ h => h⟩
theorem pre_add {D : Addr} : ∀ (n : Nat) (a : Addr), ι[n]? = some a → (ι ++ [D])[n]? = some a := fun n a e => by
  rw [List.getElem?_append_left (List.getElem?_eq_some_iff.mp e).1]
  exact e
theorem StR.take_in (s : StR K H ι μ) {D : Addr} {mo : MO} (hn : D ∉ ι) (m : MoR K H ι mo D) : StR K H (ι ++ [D]) (μ ++ [mo]) := by
  have up : ∀ {x : MO} {a : Addr}, MoR K H ι x a → MoR K H (ι ++ [D]) x a := fun {x a} m => by
    cases x with
    | lst ps => obtain ⟨z, vs, e, r⟩ := m; exact ⟨z, vs, e, Rls.mono pre_add tk_refl r⟩
    | dic ps => obtain ⟨z, nd, vs, e, r⟩ := m; exact ⟨z, nd, vs, e, Rkv.mono pre_add tk_refl r⟩
  refine ⟨by rw [List.length_append, List.length_append, s.len]; rfl, ?_, fun n x a e1 e2 => ?_⟩
  · rw [List.nodup_append]
    refine ⟨s.nd, by simp, fun a ha b hb => ?_⟩
    rw [List.mem_singleton.mp hb]
    exact fun z => hn (by rw [← z]; exact ha)
  · by_cases hl : n < μ.length
    · rw [List.getElem?_append_left hl] at e1
      rw [List.getElem?_append_left (by rw [s.len]; exact hl)] at e2
      exact up (s.at_ n x a e1 e2)
    · have en : n = μ.length := by
        have := (List.getElem?_eq_some_iff.mp e1).1
        rw [List.length_append, List.length_singleton] at this
        omega
      subst en
      rw [List.getElem?_append_right (Nat.le_refl _), Nat.sub_self] at e1
      rw [List.getElem?_append_right (by rw [s.len]; exact Nat.le_refl _), s.len, Nat.sub_self] at e2
      obtain rfl : mo = x := Option.some.inj e1
      obtain rfl : D = a := Option.some.inj e2
      exact up m
/-- the list that a comprehension fills, beside the store -/
structure AccL (K : PySem.W.Frag) (ι1 : List Addr) (H1 : Hp) (D : Addr) (ι : List Addr) (H : Hp) (μ : Sto) (acc : List PV) : Prop where
  st : StR K H ι μ
  x : Ext ι1 H1 ι H
  fr : H1 D = none
  out : D ∉ ι
  len : acc.length ≤ sizeLine
  at_ : ∃ vs, H D = some (.lst vs) ∧ Rls K H ι acc vs
theorem AccL.begin (s : StR K H1 ι1 μ1) {D : Addr} (h : H1 D = none) : AccL K ι1 H1 D ι1 (upd H1 D (.lst [])) μ1 [] :=
  ⟨s.tup h, ext_tup h, h, s.out h, Nat.zero_le _, [], upd_same, rfl⟩
theorem AccL.go {D : Addr} {acc : List PV} {μ' : Sto} (a : AccL K ι1 H1 D ι H μ acc) (x : Ext ι H ι' H') (s : StR K H' ι' μ') : AccL K ι1 H1 D ι' H' μ' acc := by
  obtain ⟨vs, e, r⟩ := a.at_
  exact ⟨s, a.x.trans x, a.fr, x.out a.out (by rw [e]; exact fun z => nomatch z), a.len, vs, x.fr _ _ e a.out, r.ext a.st x⟩
theorem AccL.put {D : Addr} {acc : List PV} {p : PV} {v : V} (a : AccL K ι1 H1 D ι H μ acc) (l : Rl K H ι p v) (hz : acc.length < sizeLine) :
    ∃ vs, H D = some (.lst vs) ∧ vs.length < sizeLine ∧ AccL K ι1 H1 D ι (upd H D (.lst (vs ++ [v]))) μ (acc ++ [p]) := by
  obtain ⟨vs, e, r⟩ := a.at_
  have t : TK K H (upd H D (.lst (vs ++ [v]))) := tk_acc e (fun _ z => nomatch z) fun _ _ z => nomatch z
  refine ⟨vs, e, by rw [← r.length]; exact hz, a.st.acc a.out e (fun _ z => nomatch z) (fun _ _ z => nomatch z), a.x.acc a.fr, a.fr, a.out, by rw [List.length_append, List.length_singleton]; exact hz, _, upd_same, ?_⟩
  exact (Rls.mono (fun _ _ h => h) t r).append (.one (Rl.mono (fun _ _ h => h) t l))
theorem AccL.fin {D : Addr} {acc : List PV} (a : AccL K ι1 H1 D ι H μ acc) : StR K H (ι ++ [D]) (μ ++ [.lst acc]) ∧ Ext ι1 H1 (ι ++ [D]) H ∧ Rl K H (ι ++ [D]) (.loc μ.length) (.ref D) := by
  obtain ⟨vs, e, r⟩ := a.at_
  exact ⟨a.st.take_in a.out ⟨a.len, vs, e, r⟩, a.x.add a.fr, D, rfl, loc_new a.st⟩

theorem drop_get {ps : List PV} {i : Nat} (h : i < ps.length) : ps.drop i = ps[i] :: ps.drop (i + 1) := List.drop_eq_getElem_cons h

/-! ### [e for .. in .. if ..] -/
abbrev Blk (X : Cx) (scope : Scope) (F : Cx → Prop) : Prop := ∀ (s : Shared) (H : Hp) (C : Addr) (cl : List (Str × Addr)) (fp : List Addr), F (X.blk s H scope (compEnvC scope cl C X.env) fp)
def turnL (tg : Tg) (own : List Nat) (mt me : Env' → Sto → Option (PV × Sto)) (ρ : Env') : PV → Sto → Option (Option PV × Sto) := fun x μ2 => match bindT tg x (wipeE ρ own) with
  | some ρ1 => seqO (testB (mt ρ1 μ2)) fun b μ3 => if b = true then (me ρ1 μ3).map fun r => (some r.1, r.2) else some (none, μ3)
  | none => none
theorem lc_le {own : List Nat} {t : Tg} {mi : Env' → Sto → Option ((List PV × Chk) × Sto)} {mt me : Env' → Sto → Option (PV × Sto)} (hsub : ∀ j ∈ tgSl t, j ∈ own) {σ : L2.St} {H : Hp} {Q : VK}
    (h : tM K (fun ρ μ => seqO (mi ρ μ) fun xc μ1 => seqO (lcE xc.2 (turnL t own mt me ρ) xc.1 [] μ1) fun acc μ4 => newC (.lst acc) μ4) σ H Q) :
    tLc (tI K mi) (gM K t) (tMB K fun ρ μ => testB (mt ρ μ)) (tM K me) own σ H Q := by
  obtain ⟨ι, μ, ρ, p, μ', rr, e0, q⟩ := h
  obtain ⟨⟨ps, c⟩, μ1, e1, e2⟩ := seqO_eq e0
  obtain ⟨accF, μF, eF, e3⟩ := seqO_eq e2
  refine ⟨ι, μ, ρ, _, _, rr, e1, fun ι1 H1 J s1 x1 itr D hD => ?_⟩
  refine ⟨fun i m H => ∃ ι2 μ2 acc, AccL K ι1 H1 D ι2 H μ2 acc ∧ m = ps.length - i ∧ i ≤ ps.length ∧ lcE c (turnL t own mt me ρ) (ps.drop i) acc μ2 = some (accF, μF),
    ⟨ps.length, ι1, μ1, [], .begin s1 hD, (Nat.sub_zero _).symm, Nat.zero_le _, eF⟩, ?_⟩
  rintro i m H2 ⟨ι2, μ2, acc, A, rfl, hi2, eL⟩
  by_cases hlt : i < ps.length
  · rw [drop_get hlt] at eL
    simp only [lcE] at eL
    split at eL
    · rename_i hk
      obtain ⟨r, μ3, et, eL⟩ := seqO_eq eL
      obtain ⟨go, yl⟩ := itr.item ι2 H2 μ2 i ps[i] (A.x.wk s1) A.st hk (by simp [hlt])
      refine .inr ⟨go, fun H' => ∃ ι' acc' μ', AccL K ι1 H1 D ι' H' μ' acc' ∧ lcE c (turnL t own mt me ρ) (ps.drop (i + 1)) acc' μ' = some (accF, μF), fun H' ⟨ι', acc', μ', A', e'⟩ => ⟨_, by omega, ι', μ', acc', A', rfl, hlt, e'⟩, fun x H3 y => ?_⟩
      obtain ⟨s3, x3, l3⟩ := yl x H3 y
      have A3 := A.go x3 s3
      unfold turnL at et
      split at et
      · rename_i ρ1 eb
        have er : EnvR K H3 ι2 (wipeE ρ own) (wipe σ own) := (((rr.env.ext rr.st x1).ext s1 A.x).ext A.st x3).wipe _
        refine ⟨ι2, μ2, _, ps[i], ρ1, ⟨s3, er⟩, l3, eb, fun σ2 er2 hl2 hj2 => ⟨?_, ?_⟩⟩
        · rw [wipe_eq (hl2.trans rfl) (fun j hj => hj2 j fun z => hj (hsub j z)), wipe_wipe]
        obtain ⟨b, μ4, eb4, et⟩ := seqO_eq et
        refine tMB_go ⟨s3, er2⟩ eb4 fun ι4 H4 r4 x4 => ?_
        have A4 := A3.go x4 r4.st
        cases b with
        | false =>
          obtain ⟨rfl, rfl⟩ := some_inj2 et
          rw [if_neg Bool.false_ne_true]
          exact ⟨ι4, acc, _, A4, eL⟩
        | true =>
          rw [if_pos rfl] at et ⊢
          cases ee : me ρ1 μ4 with
          | none => rw [ee] at et; cases et
          | some r5 =>
            rw [ee] at et
            obtain ⟨rfl, rfl⟩ := some_inj2 et
            obtain ⟨p5, μ5⟩ := r5
            refine tM_go r4 ee fun ι5 H5 v5 r5 x5 l5 => ?_
            have A5 := A4.go x5 r5.st
            simp only at eL
            split at eL
            · rename_i hz
              obtain ⟨vs, e6, hz6, A6⟩ := A5.put l5 hz
              exact ⟨vs, e6, hz6, ι5, _, _, A6, eL⟩
            · cases eL
      · cases et
    · cases eL
  · have ei : i = ps.length := by omega
    subst ei
    rw [List.drop_length] at eL
    simp only [lcE] at eL
    split at eL
    · rename_i hk
      obtain ⟨rfl, rfl⟩ := some_inj2 eL
      refine .inl ⟨itr.done ι2 H2 μ2 (A.x.wk s1) A.st hk, ?_⟩
      obtain ⟨s5, x5, l5⟩ := A.fin
      have e3 : (PV.loc μ2.length, μ2 ++ [MO.lst acc]) = (p, μ') := Option.some.inj e3
      obtain ⟨rfl, rfl⟩ := Prod.mk.inj e3
      exact q _ _ _ s5 (x1.trans x5) l5
    · cases eL

theorem q_lc {elt tg iter : Expr} {ifs : List Expr} {scope : Scope} {own : List (Str × Nat)} {pos : Pos} {t : Tg} {mi : Env' → Sto → Option ((List PV × Chk) × Sto)} {mt me : Env' → Sto → Option (PV × Sto)} (hc : X.calm = true) (hN : X.N.Nodup) (hi : QI X tg iter mi) (ok : BlkOk X.N X.env.scope scope own)
    (hg : Blk X scope fun Y => PG Y tg (gM X.K t)) (ht : Blk X scope fun Y => PTs Y ifs (tMB X.K fun ρ μ => testB (mt ρ μ))) (he : Blk X scope fun Y => PE Y elt (tM X.K me)) (hs : ∀ x, foldedSetIterable iter X.env x = pure x)
    (hsub : ∀ j ∈ tgSl t, j ∈ own.map (·.2)) :
    QE X (.ListComp elt [⟨tg, iter, ifs, 0⟩] scope pos) (fun ρ μ => seqO (mi ρ μ) fun xc μ1 => seqO (lcE xc.2 (turnL t (own.map (·.2)) mt me ρ) xc.1 [] μ1) fun acc μ4 => newC (.lst acc) μ4) := by
  exact PE.le (pe_lc hc hN hi ok hg ht he hs) fun σ H Q h => lc_le hsub h

/-! ### [e for .. in .. for .. in ..] -/
def turnL2 (tg : Tg) (own : List Nat) (mi1 : Env' → Sto → Option ((List PV × Chk) × Sto)) (tg1 : Tg) (own1 : List Nat) (me : Env' → Sto → Option (PV × Sto)) (ρ : Env') : PV → List PV → Sto → Option (List PV × Sto) := fun x acc μ2 => match bindT tg x (wipeE ρ own) with
  | some ρ1 => seqO (mi1 ρ1 μ2) fun xc1 μ3 => lcE xc1.2 (fun y μ4 => match bindT tg1 y (wipeE ρ1 own1) with
      | some ρ2 => (me ρ2 μ4).map fun r => (some r.1, r.2)
      | none => none) xc1.1 acc μ3
  | none => none
theorem lc2_le {own vs1 : List Nat} {t t1 : Tg} {mi mi1 : Env' → Sto → Option ((List PV × Chk) × Sto)} {me : Env' → Sto → Option (PV × Sto)} (hsub : ∀ j ∈ tgSl t, j ∈ own) (hsub1 : ∀ j ∈ tgSl t1, j ∈ vs1) {σ : L2.St} {H : Hp} {Q : VK}
    (h : tM K (fun ρ μ => seqO (mi ρ μ) fun xc μ1 => seqO (lc2E xc.2 (turnL2 t own mi1 t1 vs1 me ρ) xc.1 [] μ1) fun acc μ4 => newC (.lst acc) μ4) σ H Q) :
    tLc2 (tI K mi) (gM K t) tYes (tI K mi1) (gM K t1) tYes (tM K me) own vs1 σ H Q := by
  obtain ⟨ι, μ, ρ, p, μ', rr, e0, q⟩ := h
  obtain ⟨⟨ps, c⟩, μ1, e1, e2⟩ := seqO_eq e0
  obtain ⟨accF, μF, eF, e3⟩ := seqO_eq e2
  refine ⟨ι, μ, ρ, _, _, rr, e1, fun ι1 H1 J s1 x1 itr D hD => ?_⟩
  refine ⟨fun i m H => ∃ ι2 μ2 acc, AccL K ι1 H1 D ι2 H μ2 acc ∧ m = ps.length - i ∧ i ≤ ps.length ∧ lc2E c (turnL2 t own mi1 t1 vs1 me ρ) (ps.drop i) acc μ2 = some (accF, μF),
    ⟨ps.length, ι1, μ1, [], .begin s1 hD, (Nat.sub_zero _).symm, Nat.zero_le _, eF⟩, ?_⟩
  rintro i m H2 ⟨ι2, μ2, acc, A, rfl, hi2, eL⟩
  by_cases hlt : i < ps.length
  · rw [drop_get hlt] at eL
    simp only [lc2E] at eL
    split at eL
    · rename_i hk
      obtain ⟨accN, μ3, et, eL⟩ := seqO_eq eL
      obtain ⟨go, yl⟩ := itr.item ι2 H2 μ2 i ps[i] (A.x.wk s1) A.st hk (by simp [hlt])
      refine .inr ⟨go, fun H' => ∃ ι' acc' μ', AccL K ι1 H1 D ι' H' μ' acc' ∧ lc2E c (turnL2 t own mi1 t1 vs1 me ρ) (ps.drop (i + 1)) acc' μ' = some (accF, μF), fun H' ⟨ι', acc', μ', A', e'⟩ => ⟨_, by omega, ι', μ', acc', A', rfl, hlt, e'⟩, fun x H3 y => ?_⟩
      obtain ⟨s3, x3, l3⟩ := yl x H3 y
      have A3 := A.go x3 s3
      unfold turnL2 at et
      split at et
      · rename_i ρ1 eb
        have er : EnvR K H3 ι2 (wipeE ρ own) (wipe σ own) := (((rr.env.ext rr.st x1).ext s1 A.x).ext A.st x3).wipe _
        refine ⟨ι2, μ2, _, ps[i], ρ1, ⟨s3, er⟩, l3, eb, fun σ2 er2 hl2 hj2 => ⟨?_, ?_⟩⟩
        · rw [wipe_eq (hl2.trans rfl) (fun j hj => hj2 j fun z => hj (hsub j z)), wipe_wipe]
        dsimp only [tYes]
        rw [if_pos rfl]
        obtain ⟨⟨qs, c1⟩, μ4, ei, et⟩ := seqO_eq et
        refine ⟨ι2, μ2, ρ1, _, _, ⟨s3, er2⟩, ei, fun ι4 H4 J1 s4 x4 itr1 => ?_⟩
        have A4 := A3.go x4 s4
        refine ⟨fun j k H => ∃ ι5 μ5 acc5, AccL K ι1 H1 D ι5 H μ5 acc5 ∧ Wk K ι4 H4 ι5 H ∧ k = qs.length - j ∧ j ≤ qs.length ∧ lcE c1 (fun y μ4 => match bindT t1 y (wipeE ρ1 vs1) with
            | some ρ2 => (me ρ2 μ4).map fun r => (some r.1, r.2)
            | none => none) (qs.drop j) acc5 μ5 = some (accN, μ3), ⟨qs.length, ι4, μ4, acc, A4, .refl, (Nat.sub_zero _).symm, Nat.zero_le _, et⟩, ?_⟩
        rintro j k H5 ⟨ι5, μ5, acc5, A5, x5, rfl, hj, eI⟩
        by_cases hltj : j < qs.length
        · rw [drop_get hltj] at eI
          simp only [lcE] at eI
          split at eI
          · rename_i hk1
            obtain ⟨r6, μ6, et6, eI⟩ := seqO_eq eI
            obtain ⟨go1, yl1⟩ := itr1.item ι5 H5 μ5 j qs[j] x5 A5.st hk1 (by simp [hltj])
            refine .inr ⟨go1, fun H' => ∃ ι' acc' μ', AccL K ι1 H1 D ι' H' μ' acc' ∧ Wk K ι4 H4 ι' H' ∧ lcE c1 (fun y μ4 => match bindT t1 y (wipeE ρ1 vs1) with
              | some ρ2 => (me ρ2 μ4).map fun r => (some r.1, r.2)
              | none => none) (qs.drop (j + 1)) acc' μ' = some (accN, μ3), fun H' ⟨ι', acc', μ', A', x', e'⟩ => ⟨_, by omega, ι', μ', acc', A', x', rfl, hltj, e'⟩, fun z H6 y6 => ?_⟩
            obtain ⟨s6, x6, l6⟩ := yl1 z H6 y6
            have A6 := A5.go x6 s6
            split at et6
            · rename_i ρ2 eb2
              have er6 : EnvR K H6 ι5 (wipeE ρ1 vs1) (wipe σ2 vs1) := (((er2.ext s3 x4).mono x5).ext A5.st x6).wipe _
              refine ⟨ι5, μ5, _, qs[j], ρ2, ⟨s6, er6⟩, l6, eb2, fun σ3 er7 hl7 hj7 => ⟨?_, ?_⟩⟩
              · rw [wipe_eq (hl7.trans rfl) (fun j hj => hj7 j fun z => hj (hsub1 j z)), wipe_wipe]
              dsimp only [tYes]
              rw [if_pos rfl]
              cases ee : me ρ2 μ5 with
              | none => rw [ee] at et6; cases et6
              | some r8 =>
                rw [ee] at et6
                obtain ⟨rfl, rfl⟩ := some_inj2 et6
                obtain ⟨p8, μ8⟩ := r8
                refine tM_go ⟨s6, er7⟩ ee fun ι8 H8 v8 r8 x8 l8 => ?_
                have A8 := A6.go x8 r8.st
                simp only at eI
                split at eI
                · rename_i hz
                  obtain ⟨vs, e9, hz9, A9⟩ := A8.put l8 hz
                  refine ⟨vs, e9, hz9, ι8, _, _, A9, ?_, eI⟩
                  exact ((x5.trans (x6.wk A5.st)).trans (x8.wk s6)).trans ⟨fun _ _ h => h, tk_acc e9 (fun _ z => nomatch z) fun _ _ z => nomatch z⟩
                · cases eI
            · cases et6
          · cases eI
        · have ej : j = qs.length := by omega
          subst ej
          rw [List.drop_length] at eI
          simp only [lcE] at eI
          split at eI
          · rename_i hk1
            obtain ⟨rfl, rfl⟩ := some_inj2 eI
            exact .inl ⟨itr1.done ι5 H5 μ5 x5 A5.st hk1, ι5, _, _, A5, eL⟩
          · cases eI
      · cases et
    · cases eL
  · have ei : i = ps.length := by omega
    subst ei
    rw [List.drop_length] at eL
    simp only [lc2E] at eL
    split at eL
    · rename_i hk
      obtain ⟨rfl, rfl⟩ := some_inj2 eL
      refine .inl ⟨itr.done ι2 H2 μ2 (A.x.wk s1) A.st hk, ?_⟩
      obtain ⟨s5, x5, l5⟩ := A.fin
      have e3 : (PV.loc μ2.length, μ2 ++ [MO.lst acc]) = (p, μ') := Option.some.inj e3
      obtain ⟨rfl, rfl⟩ := Prod.mk.inj e3
      exact q _ _ _ s5 (x1.trans x5) l5
    · cases eL
theorem q_lc2 {elt tg iter tg1 iter1 : Expr} {scope : Scope} {own : List (Str × Nat)} {vs1 : List Nat} {pos : Pos} {t t1 : Tg} {mi mi1 : Env' → Sto → Option ((List PV × Chk) × Sto)} {me : Env' → Sto → Option (PV × Sto)} (hc : X.calm = true) (hN : X.N.Nodup) (hi : QI X tg iter mi) (ok : BlkOk X.N X.env.scope scope own)
    (hv : ∀ i ∈ vs1, i ∈ own.map (·.2)) (hg : Blk X scope fun Y => PG Y tg (gM X.K t)) (hi1 : Blk X scope fun Y => PI Y tg1 iter1 (tI X.K mi1)) (hg1 : Blk X scope fun Y => PG Y tg1 (gM X.K t1))
    (he : Blk X scope fun Y => PE Y elt (tM X.K me)) (hs : ∀ x, foldedSetIterable iter X.env x = pure x) (hs1 : ∀ env x, foldedSetIterable iter1 env x = pure x)
    (hsub : ∀ j ∈ tgSl t, j ∈ own.map (·.2)) (hsub1 : ∀ j ∈ tgSl t1, j ∈ vs1) :
    QE X (.ListComp elt [⟨tg, iter, [], 0⟩, ⟨tg1, iter1, [], 0⟩] scope pos) (fun ρ μ => seqO (mi ρ μ) fun xc μ1 => seqO (lc2E xc.2 (turnL2 t (own.map (·.2)) mi1 t1 vs1 me ρ) xc.1 [] μ1) fun acc μ4 => newC (.lst acc) μ4) := by
  exact PE.le (pe_lc2 hc hN hi ok hv hg (fun _ _ _ _ _ => pts_nil) hi1 hg1 (fun _ _ _ _ _ => pts_nil) he hs hs1) fun σ H Q h => lc2_le hsub hsub1 h
end
end Pv
end

section
set_option Elab.async false
set_option linter.all false
set_option maxRecDepth 100000
/-! Pv: statements; dict comprehensions. -/
namespace Pv
open PySem PySem.Spec PyProof.Rows L2
abbrev QS (X : Cx) (st : Stmt) (m : Env' → Sto → Option Out) : Prop := PS X st (tMS X.K m)
abbrev QSs (X : Cx) (st : List Stmt) (m : Env' → Sto → Option Out) : Prop := PSs X st (tMS X.K m)
section
variable {X : Cx} {K : PySem.W.Frag} {H H' H1 H2 : Hp} {ι ι' ι1 ι2 : List Addr} {μ μ1 : Sto} {ρ : Env'} {σ : L2.St} {pos : Pos} {e : Expr}
theorem Fit.ext {o : Out} {D : Ends} (f : Fit K ι H o D) (x : Ext ι H ι1 H1) : Fit K ι1 H1 o D := by
  cases o with
  | nx ρ μ => exact fun ι' H' σ' s e y => f ι' H' σ' s e (x.trans y)
  | rt p μ => exact fun ι' H' v s y l => f ι' H' v s (x.trans y) l
  | bk ρ μ => exact fun ι' H' σ' s e y => f ι' H' σ' s e (x.trans y)
  | ct ρ μ => exact fun ι' H' σ' s e y => f ι' H' σ' s e (x.trans y)

theorem s_ret {m : Env' → Sto → Option (PV × Sto)} (he : QE X e m) : QS X (.Return (some e) pos) (fun ρ μ => seqO (m ρ μ) fun x μ1 => some (.rt x μ1)) := PS.le (ps_ret he) fun D σ H h => by
  obtain ⟨ι, μ, ρ, o, r, e0, f⟩ := h
  obtain ⟨x, μ1, e1, e2⟩ := seqO_eq e0
  obtain rfl := Option.some.inj e2
  exact tM_go r e1 fun ι1 H1 v r1 x1 l1 => f ι1 H1 v r1.st x1 l1
theorem s_retN : QS X (.Return none pos) (fun ρ μ => some (.rt .non μ)) := PS.le ps_retN fun D σ H h => by
  obtain ⟨ι, μ, ρ, o, r, e0, f⟩ := h
  obtain rfl := Option.some.inj e0
  exact f ι H .non r.st .refl rfl
theorem s_ex {m : Env' → Sto → Option (PV × Sto)} (he : QE X e m) (hs : swapsWith e none pos.line X.env = pure false) : QS X (.Expr e pos) (fun ρ μ => seqO (m ρ μ) fun _ μ1 => some (.nx ρ μ1)) := PS.le (ps_expr he hs) fun D σ H h => by
  obtain ⟨ι, μ, ρ, o, r, e0, f⟩ := h
  obtain ⟨x, μ1, e1, e2⟩ := seqO_eq e0
  obtain rfl := Option.some.inj e2
  exact tM_go r e1 fun ι1 H1 v r1 x1 l1 => f ι1 H1 σ r1.st r1.env x1
theorem s_if {c : Expr} {a b : List Stmt} {mc : Env' → Sto → Option (PV × Sto)} {ma mb : Env' → Sto → Option Out} (hc : QT X c mc) (ha : QSs X a ma) (hb : QSs X b mb) :
    QS X (.If c a b pos) (fun ρ μ => seqO (testB (mc ρ μ)) fun t μ1 => if t = true then ma ρ μ1 else mb ρ μ1) := PS.le (ps_if hc ha hb) fun D σ H h => by
  obtain ⟨ι, μ, ρ, o, r, e0, f⟩ := h
  obtain ⟨t, μ1, e1, e2⟩ := seqO_eq e0
  refine tMB_go r e1 fun ι1 H1 r1 x1 => ?_
  cases t with
  | true => exact ⟨ι1, μ1, ρ, o, r1, e2, f.ext x1⟩
  | false => exact ⟨ι1, μ1, ρ, o, r1, e2, f.ext x1⟩
theorem ss_nil : QSs X [] (fun ρ μ => some (.nx ρ μ)) := PSs.le pss_nil fun D σ H h => by
  obtain ⟨ι, μ, ρ, o, r, e0, f⟩ := h
  obtain rfl := Option.some.inj e0
  exact f ι H σ r.st r.env .refl
theorem ss_cons {st : Stmt} {rest : List Stmt} {m mr : Env' → Sto → Option Out} (h1 : QS X st m) (h2 : QSs X rest mr) : QSs X (st :: rest) (fun ρ μ => thenO (m ρ μ) mr) := PSs.le (pss_cons h1 h2) fun D σ H h => by
  obtain ⟨ι, μ, ρ, o, r, e0, f⟩ := h
  dsimp only at e0
  cases e1 : m ρ μ with
  | none => rw [e1] at e0; cases e0
  | some o1 =>
    rw [e1] at e0
    cases o1 with
    | nx ρ1 μ1 => exact ⟨ι, μ, ρ, _, r, e1, fun ι1 H1 σ1 s1 v1 x1 => ⟨ι1, μ1, ρ1, o, ⟨s1, v1⟩, e0, f.ext x1⟩⟩
    | rt p μ1 => obtain rfl := Option.some.inj e0; exact ⟨ι, μ, ρ, _, r, e1, f⟩
    | bk ρ1 μ1 => obtain rfl := Option.some.inj e0; exact ⟨ι, μ, ρ, _, r, e1, f⟩
    | ct ρ1 μ1 => obtain rfl := Option.some.inj e0; exact ⟨ι, μ, ρ, _, r, e1, f⟩
theorem s_brk : QS X (.Break pos) (fun ρ μ => some (.bk ρ μ)) := PS.le ps_break fun D σ H h => by
  obtain ⟨ι, μ, ρ, o, r, e0, f⟩ := h
  obtain rfl := Option.some.inj e0
  exact f ι H σ r.st r.env .refl
theorem s_cont : QS X (.Continue pos) (fun ρ μ => some (.ct ρ μ)) := PS.le ps_continue fun D σ H h => by
  obtain ⟨ι, μ, ρ, o, r, e0, f⟩ := h
  obtain rfl := Option.some.inj e0
  exact f ι H σ r.st r.env .refl
theorem s_stop {st : Stmt} : QS X st (fun _ _ => none) := PS.le ps_never fun D σ H h => by
  obtain ⟨ι, μ, ρ, o, r, e0, f⟩ := h
  cases e0

/-! ### target = value -/
theorem asg_op {tg : Tg} {m : Env' → Sto → Option (PV × Sto)} {D : Ends} {H : Hp} (h : tMS K (fun ρ μ => seqO (m ρ μ) fun x μ1 => (bindT tg x ρ).map fun ρ1 => Out.nx ρ1 μ1) D σ H) : tAsg (tM K m) (gM K tg) D σ H := by
  obtain ⟨ι, μ, ρ, o, r, e0, f⟩ := h
  obtain ⟨x, μ1, e1, e2⟩ := seqO_eq e0
  refine tM_go r e1 fun ι1 H1 v r1 x1 l1 => ?_
  cases e3 : bindT tg x ρ with
  | none => rw [e3] at e2; cases e2
  | some ρ1 =>
    rw [e3] at e2
    obtain rfl := Option.some.inj e2
    exact ⟨ι1, μ1, ρ, x, ρ1, r1, l1, e3, fun σ' er _ _ => f ι1 H1 σ' r1.st er x1⟩
theorem s_asg {tg : Expr} {t : Tg} {m : Env' → Sto → Option (PV × Sto)} (he : QE X e m) (hg : PG X tg (gM X.K t)) (hp : plainTg tg = true) (hs : swapsWith e (some tg) pos.line X.env = pure false) (hw : swappedStores [tg] e X.env = pure none) :
    QS X (.Assign [tg] e pos) (fun ρ μ => seqO (m ρ μ) fun x μ1 => (bindT t x ρ).map fun ρ1 => .nx ρ1 μ1) :=
  PS.le (ps_asg he hg hs hw (by rw [each_cons hp]; rfl)) fun D σ H h => asg_op h
theorem gName_of {i : Nat} {m : Env' → Sto → Option (PV × Sto)} {D : Ends} {H : Hp} (h : tMS K (fun ρ μ => seqO (m ρ μ) fun x μ1 => (bindT (.nm i) x ρ).map fun ρ1 => Out.nx ρ1 μ1) D σ H) : tAsg (tM K m) (gName i) D σ H := by
  obtain ⟨ι, μ, ρ, o, r, e0, f⟩ := h
  obtain ⟨x, μ1, e1, e2⟩ := seqO_eq e0
  refine tM_go r e1 fun ι1 H1 v r1 x1 l1 => ?_
  obtain rfl := Option.some.inj e2
  exact f ι1 H1 _ r1.st (r1.env.set i l1) x1
/-- a, b = x, y: plain locals on one line -/
theorem s_par {i j : Nat} {x y : Str} {a b : Expr} {ms : Env' → Sto → Option (List PV × Sto)} {px py pt : Pos} {kt k2 pt2} (hc : X.calm = true) (hN : X.N.Nodup) (hi : X.N[i]? = some x) (hj : X.N[j]? = some y) (hij : i ≠ j)
    (hx : X.env.scope.names.lookup x = some .local) (hy : X.env.scope.names.lookup y = some .local) (ha : QA X [a, b] ms)
    (hw : swappedStores [.Tuple [.Name x px, .Name y py] kt pt] (.Tuple [a, b] k2 pt2) X.env = pure (some [x, y])) :
    QS X (.Assign [.Tuple [.Name x px, .Name y py] kt pt] (.Tuple [a, b] k2 pt2) pos)
      (fun ρ μ => seqO (seqO (ms ρ μ) fun vs μ1 => if vs.length ≤ sizeLine then some (.tup vs, μ1) else none) fun x μ1 => (bindT (.tp [.nm i, .nm j]) x ρ).map fun ρ1 => .nx ρ1 μ1) := by
  refine PS.le (ps_par hc hN hi hj hij hx hy ha hw (by rfl)) fun D σ H h => ?_
  obtain ⟨ι, μ, ρ, o, r, e0, f⟩ := h
  obtain ⟨p, μ1, e1, e2⟩ := seqO_eq e0
  obtain ⟨vs, μ2, e3, e4⟩ := seqO_eq e1
  split at e4
  · obtain ⟨rfl, rfl⟩ := some_inj2 e4
    refine tMA_go r e3 fun ι1 H1 us r1 x1 l1 => ?_
    match vs, l1, e2 with
    | [p, q], l1, e2 =>
      obtain ⟨v, w, rfl, lv, lw⟩ := rls2 l1
      obtain rfl := Option.some.inj e2
      exact ⟨v, w, rfl, f ι1 H1 _ r1.st ((r1.env.set i lv).set j lw) x1⟩
    | [], _, e2 => cases e2
    | [_], _, e2 => cases e2
    | _ :: _ :: _ :: _, _, e2 => cases e2
  · cases e4
/-- o[i] = v -/
theorem set_P : PSet X (fun o i v H Q => ∃ ι μ p q r μ', StR X.K H ι μ ∧ Rl X.K H ι p o ∧ Rl X.K H ι q i ∧ Rl X.K H ι r v ∧ setP p q r μ = some μ' ∧ ∀ ι' H', StR X.K H' ι' μ' → Ext ι H ι' H' → Q H') := by
  intro pins s σ H o i v ov iv u Q I ro ri rv h
  obtain ⟨ι, μ, p, q, r, μ', st, lp, lq, lr, e, k⟩ := h
  refine set_list pins s σ H o i v ov iv u Q I ro ri rv ?_
  unfold setP at e
  split at e
  · rename_i n i'
    split at e
    · rename_i xs hx
      obtain ⟨a, vs, rfl, ia, ha, ra, hz⟩ := lst_of st lp hx
      obtain rfl : i = .int _ := lq
      cases ej : ixN xs.length i' with
      | none => rw [ej] at e; cases e
      | some j =>
        rw [ej] at e
        obtain rfl := Option.some.inj e
        have t : TK X.K H (upd H a (.lst (vs.set j v))) := tk_acc ha (fun _ z => nomatch z) fun _ _ z => nomatch z
        have m : MoR X.K (upd H a (.lst (vs.set j v))) ι (.lst (xs.set j r)) a := ⟨by rw [List.length_set]; exact hz, _, upd_same, (Rls.mono (fun _ _ h => h) t ra).set j (Rl.mono (fun _ _ h => h) t lr)⟩
        exact ⟨a, vs, _, j, rfl, rfl, ha, by rw [← ra.length]; exact ej, k ι _ (st.put ia m) (ext_put (List.mem_of_getElem? ia))⟩
    · cases e
  · cases e
theorem s_sub {o i : Expr} {mv mo mi : Env' → Sto → Option (PV × Sto)} {kpos : Pos} (hv : QE X e mv) (ho : QE X o mo) (hi : QE X i mi) (ha : ∀ v, assign (.Subscript o i kpos) X.env v = (do
      let ov ← holding [v] (eval o X.env)
      let iv ← holding [v, ov] (eval i X.env)
      standAt kpos
      holding [v, ov, iv] (setItem ov iv v)
      release [v, ov, iv] [])) (hs : swapsWith e (some (.Subscript o i kpos)) pos.line X.env = pure false) :
    QS X (.Assign [.Subscript o i kpos] e pos) (fun ρ μ => seqO (mv ρ μ) fun x μ1 => seqO (mo ρ μ1) fun y μ2 => seqO (mi ρ μ2) fun z μ3 => (setP y z x μ3).map fun μ4 => .nx ρ μ4) := by
  refine PS.le (ps_asg hv (pg_sub ho hi set_P ha) hs (by rfl) (by rfl)) fun D σ H h => ?_
  obtain ⟨ι, μ, ρ, o', r, e0, f⟩ := h
  obtain ⟨x, μ1, e1, e2⟩ := seqO_eq e0
  obtain ⟨y, μ2, e3, e4⟩ := seqO_eq e2
  obtain ⟨z, μ3, e5, e6⟩ := seqO_eq e4
  refine tM_go r e1 fun ι1 H1 v1 r1 x1 l1 => tM_go r1 e3 fun ι2 H2 v2 r2 x2 l2 => tM_go r2 e5 fun ι3 H3 v3 r3 x3 l3 => ?_
  cases e7 : setP y z x μ3 with
  | none => rw [e7] at e6; cases e6
  | some μ4 =>
    rw [e7] at e6
    obtain rfl := Option.some.inj e6
    exact ⟨ι3, μ3, y, z, x, μ4, r3.st, l2.ext r2.st x3, l3, (l1.ext r1.st x2).ext r2.st x3, e7, fun ι' H' s x => f ι' H' σ s (r3.env.ext r3.st x) (((x1.trans x2).trans x3).trans x)⟩
/-- name op= e, ints -/
theorem ip_aug {o : Operator} (ho : o = .Add ∨ o = .Sub) : PIp X o (fun x y H Q => ∃ ι p q r, Rl X.K H ι p x ∧ Rl X.K H ι q y ∧ augP o p q = some r ∧ ∀ v, Rl X.K H ι r v → Q v H) := by
  intro pins s σ H x y v u Q I r1 r2 h
  obtain ⟨ι, p, q, r, l1, l2, e, k⟩ := h
  unfold augP at e
  split at e
  · obtain rfl := Option.some.inj e
    obtain rfl : x = .int _ := l1
    obtain rfl : y = .int _ := l2
    exact ip_add pins s σ H _ _ v u Q I r1 r2 ⟨_, _, rfl, rfl, k _ rfl⟩
  · obtain rfl := Option.some.inj e
    obtain rfl : x = .int _ := l1
    obtain rfl : y = .int _ := l2
    exact ip_sub pins s σ H _ _ v u Q I r1 r2 ⟨_, _, rfl, rfl, k _ rfl⟩
  · cases e
theorem s_aug {i : Nat} {x : Str} {o : Operator} {m : Env' → Sto → Option (PV × Sto)} {pos' : Pos} (hN : X.N.Nodup) (hi : X.N[i]? = some x) (hx : OkN X x) (he : QE X e m) (ho : o = .Add ∨ o = .Sub) :
    QS X (.AugAssign (.Name x pos') o e pos) (fun ρ μ => match ρ[i]? with
    | some (some x) => seqO (m ρ μ) fun y μ1 => (augP o x y).map fun z => .nx (ρ.set i (some z)) μ1
    | _ => none) := PS.le (ps_aug hN hi hx.1 he (ip_aug ho) hx.2) fun D σ H h => by
  obtain ⟨ι, μ, ρ, o', r, e0, fit⟩ := h
  dsimp only at e0
  split at e0
  · rename_i p hp
    obtain ⟨y, μ1, e1, e2⟩ := seqO_eq e0
    obtain ⟨v, hv, lv⟩ := r.env.2 i _ hp
    refine ⟨v, hv, tM_go r e1 fun ι1 H1 u r1 x1 l1 => ?_⟩
    cases e3 : augP o p y with
    | none => rw [e3] at e2; cases e2
    | some z =>
      rw [e3] at e2
      obtain rfl := Option.some.inj e2
      exact ⟨ι1, p, y, z, lv.ext r.st x1, l1, e3, fun w lw => fit ι1 H1 _ r1.st (r1.env.set i lw) x1⟩
  · cases e0

/-! ### loops -/
theorem s_wh {c : Expr} {body : List Stmt} {mc : Env' → Sto → Option (PV × Sto)} {mb : Env' → Sto → Option Out} {n : Nat} (hp : PassesOwn (model X.prog X.w) X.A X.env X.xe) (hc : QT X c mc) (hb : QSs X body mb) :
    QS X (.While c body [] pos) (fun ρ μ => whileE (fun ρ μ => testB (mc ρ μ)) mb n ρ μ) := by
  refine PS.le (ps_while hp hc hb) fun D σ H h => ?_
  obtain ⟨ι, μ, ρ, o, r, e0, f⟩ := h
  refine ⟨fun m σ1 H1 => ∃ ι1 μ1 ρ1, Rel X.K ι1 μ1 ρ1 σ1 H1 ∧ Ext ι H ι1 H1 ∧ whileE (fun ρ μ => testB (mc ρ μ)) mb m ρ1 μ1 = some o, ⟨n, ι, μ, ρ, r, .refl, e0⟩, ?_⟩
  rintro m σ1 H1 ⟨ι1, μ1, ρ1, r1, x1, e1⟩
  cases m with
  | zero => cases e1
  | succ m =>
    simp only [whileE] at e1
    obtain ⟨b, μ2, e2, e3⟩ := seqO_eq e1
    refine tMB_go r1 e2 fun ι2 H2 r2 x2 => ?_
    cases b with
    | false =>
      rw [if_neg Bool.false_ne_true] at e3 ⊢
      obtain rfl := Option.some.inj e3
      exact f ι2 H2 σ1 r2.st r2.env (x1.trans x2)
    | true =>
      rw [if_pos rfl] at e3 ⊢
      refine ⟨fun σ' H' => ∃ ι' μ' ρ', Rel X.K ι' μ' ρ' σ' H' ∧ Ext ι H ι' H' ∧ whileE (fun ρ μ => testB (mc ρ μ)) mb m ρ' μ' = some o, fun σ' H' ⟨ι', μ', ρ', r', x', e'⟩ => ⟨m, Nat.lt_succ_self m, ι', μ', ρ', r', x', e'⟩, ?_⟩
      cases e4 : mb ρ1 μ2 with
      | none => rw [e4] at e3; cases e3
      | some o1 =>
        rw [e4] at e3
        refine ⟨ι2, μ2, ρ1, o1, r2, e4, ?_⟩
        cases o1 with
        | nx ρ3 μ3 => exact fun ι' H' σ' s v x => ⟨ι', μ3, ρ3, ⟨s, v⟩, (x1.trans x2).trans x, e3⟩
        | ct ρ3 μ3 => exact fun ι' H' σ' s v x => ⟨ι', μ3, ρ3, ⟨s, v⟩, (x1.trans x2).trans x, e3⟩
        | bk ρ3 μ3 => obtain rfl := Option.some.inj e3; exact fun ι' H' σ' s v x => f ι' H' σ' s v ((x1.trans x2).trans x)
        | rt p μ3 => obtain rfl := Option.some.inj e3; exact fun ι' H' v s x l => f ι' H' v s ((x1.trans x2).trans x) l
theorem s_fo {tg iter : Expr} {body : List Stmt} {t : Tg} {mi : Env' → Sto → Option ((List PV × Chk) × Sto)} {mb : Env' → Sto → Option Out} (hp : PassesOwn (model X.prog X.w) X.A X.env X.xe) (hc : X.calm = true) (hi : QI X tg iter mi) (hg : PG X tg (gM X.K t)) (hb : QSs X body mb)
    (hs : ∀ x, foldedSetIterable iter X.env x = pure x) : QS X (.For tg iter body [] pos) (fun ρ μ => seqO (mi ρ μ) fun xc μ1 => forE xc.2 t mb xc.1 ρ μ1) := by
  refine PS.le (ps_for hp hc hi hg hb hs) fun D σ H h => ?_
  obtain ⟨ι, μ, ρ, o, r, e0, f⟩ := h
  obtain ⟨⟨ps, c⟩, μ1, e1, e2⟩ := seqO_eq e0
  refine ⟨ι, μ, ρ, _, _, r, e1, fun ι1 H1 J s1 x1 itr => ?_⟩
  refine ⟨fun i m σ2 H2 => ∃ ι2 μ2 ρ2, Rel X.K ι2 μ2 ρ2 σ2 H2 ∧ Ext ι1 H1 ι2 H2 ∧ m = ps.length - i ∧ i ≤ ps.length ∧ forE c t mb (ps.drop i) ρ2 μ2 = some o, ⟨ps.length, ι1, μ1, ρ, ⟨s1, r.env.ext r.st x1⟩, .refl, (Nat.sub_zero _).symm, Nat.zero_le _, e2⟩, ?_⟩
  rintro i m σ2 H2 ⟨ι2, μ2, ρ2, r2, x2, rfl, hi2, eL⟩
  by_cases hlt : i < ps.length
  · rw [drop_get hlt] at eL
    simp only [forE] at eL
    split at eL
    · rename_i hk
      obtain ⟨go, yl⟩ := itr.item ι2 H2 μ2 i ps[i] (x2.wk s1) r2.st hk (by simp [hlt])
      refine .inr ⟨go, fun σ' H' => ∃ ι' μ' ρ', Rel X.K ι' μ' ρ' σ' H' ∧ Ext ι1 H1 ι' H' ∧ forE c t mb (ps.drop (i + 1)) ρ' μ' = some o, fun σ' H' ⟨ι', μ', ρ', r', x', e'⟩ => ⟨ps.length - (i + 1), by omega, ι', μ', ρ', r', x', rfl, hlt, e'⟩, fun x H3 y => ?_⟩
      obtain ⟨s3, x3, l3⟩ := yl x H3 y
      split at eL
      · rename_i ρ3 eb
        refine ⟨ι2, μ2, ρ2, ps[i], ρ3, ⟨s3, r2.env.ext r2.st x3⟩, l3, eb, fun σ4 er4 _ _ => ?_⟩
        cases e4 : mb ρ3 μ2 with
        | none => rw [e4] at eL; cases eL
        | some o1 =>
          rw [e4] at eL
          refine ⟨ι2, μ2, ρ3, o1, ⟨s3, er4⟩, e4, ?_⟩
          cases o1 with
          | nx ρ5 μ5 => exact fun ι' H' σ' s v x => ⟨ι', μ5, ρ5, ⟨s, v⟩, (x2.trans x3).trans x, eL⟩
          | ct ρ5 μ5 => exact fun ι' H' σ' s v x => ⟨ι', μ5, ρ5, ⟨s, v⟩, (x2.trans x3).trans x, eL⟩
          | bk ρ5 μ5 => obtain rfl := Option.some.inj eL; exact fun ι' H' σ' s v x => f ι' H' σ' s v (x1.trans ((x2.trans x3).trans x))
          | rt p μ5 => obtain rfl := Option.some.inj eL; exact fun ι' H' v s x l => f ι' H' v s (x1.trans ((x2.trans x3).trans x)) l
      · cases eL
    · cases eL
  · have ei : i = ps.length := by omega
    subst ei
    rw [List.drop_length] at eL
    simp only [forE] at eL
    split at eL
    · rename_i hk
      obtain rfl := Option.some.inj eL
      exact .inl ⟨itr.done ι2 H2 μ2 (x2.wk s1) r2.st hk, f ι2 H2 σ2 r2.st r2.env (x1.trans x2)⟩
    · cases eL
end
end Pv
end

section
set_option Elab.async false
set_option linter.all false
set_option maxRecDepth 100000
/-! Pv: calls, subscripts. -/
namespace Pv
open PySem PySem.Spec PyProof.Rows L2
section
variable {X : Cx} {K : PySem.W.Frag} {H H' H1 H2 : Hp} {ι ι' ι1 ι2 : List Addr} {μ μ1 : Sto} {ρ : Env'} {σ : L2.St} {pos p : Pos} {e a b : Expr} {es : List Expr} {x : Str}

/-! ### a[b], a[lo:hi], -a -/
theorem q_ix {ma mb : Env' → Sto → Option (PV × Sto)} (ha : QE X a ma) (hb : QE X b mb) (hs : PlainIx b) : QE X (.Subscript a b pos) (fun ρ μ => seqO (ma ρ μ) fun x μ1 => seqO (mb ρ μ1) fun y μ2 => ixP x y μ2) :=
  PE.le (pe_ix ix_P ha hb hs) fun _ _ _ h => two_op h
theorem q_slL {ma ml : Env' → Sto → Option (PV × Sto)} {lo : Expr} {p2 : Pos} (ha : QE X a ma) (hl : QE X lo ml) : QE X (.Subscript a (.Slice (some lo) none none p2) pos) (fun ρ μ => seqO (ma ρ μ) fun x μ1 => seqO (ml ρ μ1) fun l μ2 => match l with
    | .int i => slP x (some i) none μ2
    | _ => none) := PE.le (pe_slice sl_P ha (po_some hl) po_none) fun σ H Q h => by
  obtain ⟨ι, μ, ρ, r, μ', rr, e0, q⟩ := h
  obtain ⟨x, μ1, e1, e2⟩ := seqO_eq e0
  obtain ⟨l, μ2, e3, e4⟩ := seqO_eq e2
  refine tM_go rr e1 fun ι1 H1 v r1 x1 l1 => tM_go r1 e3 fun ι2 H2 u r2 x2 l2 => ?_
  split at e4
  · rename_i i
    exact ⟨i, l2, ι2, μ2, x, r, μ', r2.st, l1.ext r1.st x2, e4, fun ι' H' v s xx l => q ι' H' v s ((x1.trans x2).trans xx) l⟩
  · cases e4
theorem q_slU {ma ml : Env' → Sto → Option (PV × Sto)} {hi : Expr} {p2 : Pos} (ha : QE X a ma) (hl : QE X hi ml) : QE X (.Subscript a (.Slice none (some hi) none p2) pos) (fun ρ μ => seqO (ma ρ μ) fun x μ1 => seqO (ml ρ μ1) fun l μ2 => match l with
    | .int i => slP x none (some i) μ2
    | _ => none) := PE.le (pe_slice sl_P ha po_none (po_some hl)) fun σ H Q h => by
  obtain ⟨ι, μ, ρ, r, μ', rr, e0, q⟩ := h
  obtain ⟨x, μ1, e1, e2⟩ := seqO_eq e0
  obtain ⟨l, μ2, e3, e4⟩ := seqO_eq e2
  refine tM_go rr e1 fun ι1 H1 v r1 x1 l1 => tM_go r1 e3 fun ι2 H2 u r2 x2 l2 => ?_
  split at e4
  · rename_i i
    exact ⟨i, l2, ι2, μ2, x, r, μ', r2.st, l1.ext r1.st x2, e4, fun ι' H' v s xx l => q ι' H' v s ((x1.trans x2).trans xx) l⟩
  · cases e4
theorem q_slB {ma ml mh : Env' → Sto → Option (PV × Sto)} {lo hi : Expr} {p2 : Pos} (ha : QE X a ma) (hl : QE X lo ml) (hh : QE X hi mh) : QE X (.Subscript a (.Slice (some lo) (some hi) none p2) pos) (fun ρ μ => seqO (ma ρ μ) fun x μ1 => seqO (ml ρ μ1) fun l μ2 => seqO (mh ρ μ2) fun u μ3 => match l, u with
    | .int i, .int j => slP x (some i) (some j) μ3
    | _, _ => none) := PE.le (pe_slice sl_P ha (po_some hl) (po_some hh)) fun σ H Q h => by
  obtain ⟨ι, μ, ρ, r, μ', rr, e0, q⟩ := h
  obtain ⟨x, μ1, e1, e2⟩ := seqO_eq e0
  obtain ⟨l, μ2, e3, e4⟩ := seqO_eq e2
  obtain ⟨w, μ3, e5, e6⟩ := seqO_eq e4
  refine tM_go rr e1 fun ι1 H1 v r1 x1 l1 => tM_go r1 e3 fun ι2 H2 u r2 x2 l2 => ?_
  split at e6
  · rename_i i j
    refine ⟨i, l2, tM_go r2 e5 fun ι3 H3 z r3 x3 l3 => ?_⟩
    exact ⟨j, l3, ι3, μ3, x, r, μ', r3.st, (l1.ext r1.st x2).ext r2.st x3, e6, fun ι' H' v s xx l => q ι' H' v s (((x1.trans x2).trans x3).trans xx) l⟩
  · cases e6
theorem q_neg {ma : Env' → Sto → Option (PV × Sto)} (ha : QE X a ma) : QE X (.UnaryOp .USub a pos) (fun ρ μ => seqO (ma ρ μ) fun x μ1 => match x with
    | .int i => some (.int (-i), μ1)
    | _ => none) := PE.le (pe_un un_neg ha) fun σ H Q h => by
  obtain ⟨ι, μ, ρ, r, μ', rr, e0, q⟩ := h
  obtain ⟨x, μ1, e1, e2⟩ := seqO_eq e0
  refine tM_go rr e1 fun ι1 H1 v r1 x1 l1 => ?_
  split at e2
  · rename_i i
    obtain ⟨rfl, rfl⟩ := some_inj2 e2
    exact ⟨i, l1, q ι1 H1 _ r1.st x1 rfl⟩
  · cases e2

/-! ### built-in functions -/
theorem args_op {f : List PV → Sto → Option (PV × Sto)} {ms : Env' → Sto → Option (List PV × Sto)} {H : Hp} {Q : VK} (h : tM K (fun ρ μ => seqO (ms ρ μ) fun vs μ1 => f vs μ1) σ H Q) : tCB (rAM K f) (tMA K ms) σ H Q := by
  obtain ⟨ι, μ, ρ, r, μ', rr, e0, q⟩ := h
  obtain ⟨vs, μ1, e1, e2⟩ := seqO_eq e0
  refine tMA_go rr e1 fun ι1 H1 us r1 x1 l1 => ?_
  exact ⟨ι1, μ1, vs, r, μ', r1.st, l1, e2, fun ι' H' v s xx l => q ι' H' v s (x1.trans xx) l⟩
/-- a name of the machine's -/
def bltB (x : Str) (u : Value) : Bool := match bootBuiltins x, u with
  | some (.builtin i), .builtin j => decide (i = j)
  | some (.type i), .type j => decide (i = j)
  | _, _ => false
theorem bltB_eq {x : Str} {u : Value} (h : bltB x u = true) : bootBuiltins x = some u := by
  unfold bltB at h
  split at h
  · rename_i i j e
    rw [e, of_decide_eq_true h]
  · rename_i i j e
    rw [e, of_decide_eq_true h]
  · cases h
theorem q_blt {u : Value} {f : List PV → Sto → Option (PV × Sto)} {ms : Env' → Sto → Option (List PV × Sto)} (hc : CallR X u (rAM X.K f)) (hg : Gl X x) (hm : X.mg x = none) (hb : bltB x u = true) (ha : QA X (e :: es) ms) (hn : x ≠ "__name__") (hdb : (x == ("__debug__" : Str)) = false)
    (ns : ((e :: es).all notStar) = true) : QE X (.Call (.Name x p) (e :: es) [] pos) (fun ρ μ => seqO (ms ρ μ) fun vs μ1 => f vs μ1) := by
  have ns' := ns
  rw [List.all_cons, Bool.and_eq_true] at ns'
  have he := bltB_eq hb
  cases u with
  | builtin i => exact PE.le (pe_callB hc hg hm he ha hn hdb (star_of ns'.1) (backs_plain ns'.2 pos)) fun _ _ _ h => args_op h
  | type i => exact PE.le (pe_callTy hc hg hm he ha hn hdb (star_of ns'.1) (backs_plain ns'.2 pos)) fun _ _ _ h => args_op h
  | _ => unfold bltB at hb; split at hb <;> first | (rename_i h; cases h; done) | cases hb
/-- set(xs) -/
theorem cr_setL (hc : X.calm = true) : CallR X (.type "set") (fun vs H Q => ∃ (l : Addr) (ns : List Int), vs = [V.ref l] ∧ SqL X.K H l (ns.map V.int) ∧ ns.length < 63 ∧ ∀ p c, c ≤ ns.length → H p = none → Q (.ref p) (upd H p (SetO X.w p (fun j => decide (j ∈ ns)) c))) := by
  intro pins s σ H vs us Q I r h
  obtain ⟨l, ns, rfl, hs, few, q⟩ := h
  obtain ⟨its, rv, hl, hz⟩ := I.list hs
  rw [Vals.ref1 r]
  refine set_of_list ns (I.ok.hd hc) hl.isList rv.ints (by unfold scanBound; omega) fun g tk c R hc2 hk => ?_
  have hn : H s.heap.objs.size = none := I.hok.fresh (Nat.le_refl _)
  exact ⟨.ref s.heap.objs.size, upd H s.heap.objs.size (SetO X.w s.heap.objs.size (fun j => decide (j ∈ ns)) c), I.laid (t' := tk) hk (Nat.le_refl _) (setO_new R), rfl, q _ c hc2 hn⟩
/-- sorted(set(e)) -/
theorem q_sset {m : Env' → Sto → Option (PV × Sto)} {p1 p2 pos1 : Pos} (hc : X.calm = true) (hg : Gl X "sorted") (hm : X.mg "sorted" = none) (hg2 : Gl X "set") (hm2 : X.mg "set" = none) (he : QE X e m) (ns : notStar e = true) :
    QE X (.Call (.Name "sorted" p1) [.Call (.Name "set" p2) [e] [] pos1] [] pos) (fun ρ μ => seqO (seqO (m ρ μ) fun x μ1 => some ([x], μ1)) fun vs μ1 => biP .sset vs μ1) := by
  have h1 : PE X (.Call (.Name "set" p2) [e] [] pos1) _ := pe_callTy (cr_setL hc) hg2 hm2 (bltB_eq (by decide +kernel)) (pa_cons he pa_nil (star_of ns)) (by decide) (by decide) (star_of ns) (by rfl)
  refine PE.le (pe_callB (cr_sortedSet hc) hg hm (bltB_eq (by decide +kernel)) (pa_cons h1 pa_nil) (by decide) (by decide)) fun σ H Q h => ?_
  obtain ⟨ι, μ, ρ, r, μ', rr, e0, q⟩ := h
  obtain ⟨vs, μ1, e1, e2⟩ := seqO_eq e0
  obtain ⟨x, μ2, e3, e4⟩ := seqO_eq e1
  obtain ⟨rfl, rfl⟩ := some_inj2 e4
  refine tM_go rr e3 fun ι1 H1 v r1 x1 l1 => ?_
  cases x with
  | loc n =>
    simp only [biP] at e2
    split at e2
    · rename_i xs hx
      split at e2
      · rename_i is hi
        split at e2
        · rename_i hz
          obtain ⟨a, us, rfl, ia, ha, ra, hl⟩ := lst_of r1.st l1 hx
          have ha : H1 a = some (.lst (is.map V.int)) := by rw [ha, (asInts_eq hi ra).2]
          refine ⟨a, is, rfl, SqL.of ha, hz, fun P c hcc hP => ?_⟩
          refine ⟨P, _, c, rfl, upd_same, by omega, fun ns' P2 hs hmem hlen hP2 => ?_⟩
          have en : ns' = isort (dedup is) := sset_uniq hs fun k => by rw [hmem k]; exact decide_eq_true_iff
          rw [en]
          have m2 : MoR X.K (upd (upd H1 P (SetO X.w P (fun j => decide (j ∈ is)) c)) P2 (.lst ((isort (dedup is)).map V.int))) (ι1 ++ [P2]) (.lst ((isort (dedup is)).map PV.int)) P2 := ⟨by
            rw [List.length_map, (isort_perm _).length_eq, sizeLine_eq]
            have := dedup_len is
            omega, _, upd_same, ints_R _⟩
          exact newC_q (r1.st.tup hP) hP2 m2 e2 fun ι' H' v s xx l => q ι' H' v s ((x1.trans (ext_tup hP)).trans xx) l
        · cases e2
      · cases e2
    · cases e2
  | _ => simp [biP] at e2
theorem tyx_of (st : StR K H ι μ) {q : PV} {v : V} {T : String} {b : Bool} (l : Rl K H ι q v) (e : isTy T q μ = some b) : ∃ t, TyX K H v t ∧ PySem.W.kitOne K t (.type T) = some b := by
  cases q with
  | non => obtain rfl : v = .non := l; exact ⟨_, .base .non, kit_ty e⟩
  | bl k => obtain rfl : v = .bl k := l; exact ⟨_, .base (.bl _), kit_ty e⟩
  | int i => obtain rfl : v = .int i := l; exact ⟨_, .base (.int _), kit_ty e⟩
  | str z => obtain rfl : v = .str z := l; exact ⟨_, .base (.str _), kit_ty e⟩
  | rol xs => cases e
  | tup xs =>
    obtain ⟨a, vs, rfl, ha, _⟩ := l
    rcases ha with (ha | ⟨o, ha⟩) | ⟨o, its, n, ho, hc, _⟩
    · exact ⟨_, .base (.tup ha), kit_ty e⟩
    · exact ⟨_, .fTuple ha, kit_ty e⟩
    · exact ⟨_, .kTuple ho hc, kit_ty e⟩
  | loc n =>
    obtain ⟨a, rfl, ia⟩ := l
    simp only [isTy] at e
    split at e
    · rename_i xs hx
      obtain ⟨_, vs, ha, _⟩ := st.at_ _ _ a hx ia
      exact ⟨_, .base (.lst ha), kit_ty e⟩
    · rename_i xs hx
      obtain ⟨_, _, vs, ha, _⟩ := st.at_ _ _ a hx ia
      exact ⟨_, .base (.dK ha), kit_ty e⟩
    · cases e
theorem q_isi {m : Env' → Sto → Option (PV × Sto)} {T : Str} {p1 p2 : Pos} (hg : Gl X "isinstance") (hm : X.mg "isinstance" = none) (hg2 : Gl X T) (hm2 : X.mg T = none) (hT : bltB T (.type T.toString) = true) (hn : T ≠ "__name__") (hdb : (T == ("__debug__" : Str)) = false)
    (he : QE X a m) (ns : notStar a = true) : QE X (.Call (.Name "isinstance" p1) [a, .Name T p2] [] pos) (fun ρ μ => seqO (m ρ μ) fun x μ1 => (isTy T.toString x μ1).map fun b => (.bl b, μ1)) := by
  refine PE.le (pe_callB call_isi hg hm (bltB_eq (by decide +kernel)) (pa_cons he (pa_cons (pe_bltn (v := .ty T.toString) hg2 hm2 (bltB_eq hT) rfl hn hdb) pa_nil) (star_of ns)) (by decide) (by decide) (star_of ns) (by rfl)) fun σ H Q h => ?_
  obtain ⟨ι, μ, ρ, r, μ', rr, e0, q⟩ := h
  obtain ⟨x, μ1, e1, e2⟩ := seqO_eq e0
  refine tM_go rr e1 fun ι1 H1 v r1 x1 l1 => ?_
  cases e3 : isTy T.toString x μ1 with
  | none => rw [e3] at e2; cases e2
  | some b =>
    rw [e3] at e2
    obtain ⟨rfl, rfl⟩ := some_inj2 e2
    obtain ⟨t, ty, hk⟩ := tyx_of r1.st l1 e3
    exact ⟨v, _, t, _, b, rfl, .ty _, ty, hk, q ι1 H1 _ r1.st x1 rfl⟩
end
end Pv
end

section
set_option Elab.async false
set_option linter.all false
set_option maxRecDepth 100000
/-! Pv: methods, max with a default, calls of the text's defs. -/
namespace Pv
open PySem PySem.Spec PyProof.Rows L2
section
variable {X : Cx} {K : PySem.W.Frag} {H H' H1 H2 : Hp} {ι ι' ι1 ι2 : List Addr} {μ μ1 : Sto} {ρ : Env'} {σ : L2.St} {pos p apos : Pos} {e a b o : Expr} {es : List Expr} {x : Str}

/-! ### methods of lists and texts -/
/-- not a call of a bare name without arguments (super() would be one) -/
def plainB : Expr → Bool
  | .Call (.Name _ _) [] [] _ => false
  | _ => true
theorem base_plain {o : Expr} (h : plainB o = true) {name : Str} {env : Env} : attributeBase o name env (eval o env) = eval o env := by
  cases o with
  | Call f as ks pos => cases f with
    | Name id q => cases as with
      | nil => cases ks with
        | nil => cases h
        | cons _ _ => rfl
      | cons _ _ => rfl
    | _ => rfl
  | _ => rfl
/-- what a method does, by own values -/
def rMe (K : PySem.W.Frag) (m : Me) : V → List V → Hp → VK → Prop := fun x vs H Q => ∃ ι μ o ps r μ', StR K H ι μ ∧ Rl K H ι o x ∧ Rls K H ι ps vs ∧ meP m o ps μ = some (r, μ') ∧ ∀ ι' H' v, StR K H' ι' μ' → Ext ι H ι' H' → Rl K H' ι' r v → Q v H'
theorem put_lst (st : StR K H ι μ) {n : Nat} {a : Addr} {vs : List V} {ps : List PV} {us : List V} (ia : ι[n]? = some a) (ha : H a = some (.lst vs)) (r : Rls K H ι ps us) (hz : ps.length ≤ sizeLine) :
    StR K (upd H a (.lst us)) ι (μ.set n (.lst ps)) ∧ Ext ι H ι (upd H a (.lst us)) :=
  ⟨st.put ia ⟨hz, us, upd_same, Rls.mono (fun _ _ h => h) (tk_acc ha (fun _ z => nomatch z) fun _ _ z => nomatch z) r⟩, ext_put (List.mem_of_getElem? ia)⟩
def meId : Me → String
  | .append => "list.append"
  | .extend => "list.extend"
  | .pop => "list.pop"
  | .join => "str.join"
theorem me_ok (m : Me) : MtM X (meId m) (rMe X.K m) := by
  intro pins s σ H x vs v us Q I rx rv h
  obtain ⟨ι, μ, o, ps, r, μ', st, lo, lp, e, k⟩ := h
  unfold meP at e
  split at e
  · rename_i n q
    obtain ⟨y, rfl, ly⟩ := rls1 lp
    split at e
    · rename_i xs hx
      split at e
      · rename_i hz
        obtain ⟨rfl, rfl⟩ := some_inj2 e
        obtain ⟨a, ws, rfl, ia, ha, ra, _⟩ := lst_of st lo hx
        obtain ⟨s2, x2⟩ := put_lst st ia ha (ra.append (.one ly)) (by rw [List.length_append, List.length_singleton]; exact hz)
        exact mt_append pins s σ H _ _ v us Q I rx rv ⟨a, ws, y, rfl, rfl, ha, by rw [← ra.length]; exact hz, k ι _ _ s2 x2 rfl⟩
      · cases e
    · cases e
  · rename_i n ys
    obtain ⟨y, rfl, ly⟩ := rls1 lp
    split at e
    · rename_i xs hx
      split at e
      · rename_i hz
        obtain ⟨rfl, rfl⟩ := some_inj2 e
        obtain ⟨a, ws, rfl, ia, ha, ra, _⟩ := lst_of st lo hx
        obtain ⟨b, zs, rfl, hb, rb⟩ := ly
        obtain ⟨s2, x2⟩ := put_lst st ia ha (ra.append rb) (by rw [List.length_append]; exact hz)
        exact mt_extT pins s σ H _ _ v us Q I rx rv ⟨a, b, ws, zs, rfl, rfl, ha, hb, by rw [← ra.length, ← rb.length]; exact hz, k ι _ _ s2 x2 rfl⟩
      · cases e
    · cases e
  · rename_i n m'
    obtain ⟨y, rfl, ly⟩ := rls1 lp
    split at e
    · rename_i xs ys hx hy
      split at e
      · rename_i hz
        obtain ⟨rfl, rfl⟩ := some_inj2 e
        obtain ⟨a, ws, rfl, ia, ha, ra, _⟩ := lst_of st lo hx
        obtain ⟨b, zs, rfl, ib, hb, rb, _⟩ := lst_of st ly hy
        obtain ⟨s2, x2⟩ := put_lst st ia ha (ra.append rb) (by rw [List.length_append]; exact hz)
        exact mt_extend pins s σ H _ _ v us Q I rx rv ⟨a, b, ws, zs, rfl, rfl, ha, hb, by rw [← ra.length, ← rb.length]; exact hz, k ι _ _ s2 x2 rfl⟩
      · cases e
    · cases e
  · rename_i n
    obtain rfl := rls0 lp
    split at e
    · rename_i xs hx
      split at e
      · rename_i y hy
        obtain ⟨rfl, rfl⟩ := some_inj2 e
        obtain ⟨a, ws, rfl, ia, ha, ra, hz⟩ := lst_of st lo hx
        obtain ⟨z, hz2, lz⟩ := ra.get hy
        have rd : Rls X.K H ι xs.dropLast ws.dropLast := by
          rw [List.dropLast_eq_take, List.dropLast_eq_take, ← ra.length]
          exact ra.take _
        obtain ⟨s2, x2⟩ := put_lst st ia ha rd (by rw [List.length_dropLast]; omega)
        exact mt_pop pins s σ H _ _ v us Q I rx rv ⟨a, ws, z, rfl, rfl, ha, by rw [← ra.length]; exact hz2, k ι _ _ s2 x2 (lz.ext st x2)⟩
      · cases e
    · cases e
  · rename_i z n
    obtain ⟨y, rfl, ly⟩ := rls1 lp
    split at e
    · rename_i xs hx
      split at e
      · rename_i ys hy
        split at e
        · rename_i hz
          obtain ⟨rfl, rfl⟩ := some_inj2 e
          obtain ⟨a, ws, rfl, ia, ha, ra, _⟩ := cell_of st ly hx
          obtain rfl : x = .str z := lo
          refine mt_join pins s σ H _ _ v us Q I rx rv ⟨z, a, ys, rfl, rfl, .inl (by rw [← asStrs_eq hy ra]; exact ha), hz, ?_⟩
          rw [TL.join_eq]
          exact k ι H _ st .refl rfl
        · cases e
      · cases e
    · cases e
  · cases e
def meTy : Me → String
  | .join => "str"
  | _ => "list"
def meNm : Me → Str
  | .append => "append"
  | .extend => "extend"
  | .pop => "pop"
  | .join => "join"
theorem me_slot (m : Me) : PlainAttrs (meTy m) ∧ Slot (meTy m) (meNm m) (meId m) ∧ typeOf (.builtin (meId m)) = pure (.type "method_descriptor") := by
  cases m with
  | append => exact ⟨PySem.F.plainAttrs_list, PySem.F.slot_list_append, PySem.F.type_list_append⟩
  | extend => exact ⟨PySem.F.plainAttrs_list, PySem.F.slot_list_extend, PySem.F.type_list_extend⟩
  | pop => exact ⟨PySem.F.plainAttrs_list, PySem.F.slot_list_pop, PySem.F.type_list_pop⟩
  | join => exact ⟨PySem.F.plainAttrs_str, PySem.F.slot_str_join, PySem.F.type_str_join⟩
theorem recv_ty (st : StR K H ι μ) {m : Me} {q : PV} {v : V} (l : Rl K H ι q v) (h : recvB m q μ = true) : tyV K (meTy m) v H := by
  have lst : ∀ {n : Nat}, (match μ[n]? with
    | some (.lst _) => true
    | _ => false) = true → q = .loc n → tyV K "list" v H := fun {n} h0 e => by
    subst e
    clear h
    split at h0
    · rename_i xs hx
      obtain ⟨a, vs, rfl, _, ha, _⟩ := lst_of st l hx
      exact .inl ⟨rfl, vs, SqL.of ha⟩
    · cases h0
  cases m with
  | join => cases q <;> first | (obtain rfl : v = .str _ := l; rfl) | cases h
  | append => cases q <;> first | exact lst h rfl | cases h
  | extend => cases q <;> first | exact lst h rfl | cases h
  | pop => cases q <;> first | exact lst h rfl | cases h
theorem q_me0 {m : Me} {mo : Env' → Sto → Option (PV × Sto)} {name : Str} (hn : name = meNm m) (ho : QE X o mo) (hb : plainB o = true) (hl : (apos.endLine == pos.line) = true) :
    QE X (.Call (.Attribute o name apos) [] [] pos) (fun ρ μ => seqO (mo ρ μ) fun x μ1 => if recvB m x μ1 = true then meP m x [] μ1 else none) := by
  subst hn
  obtain ⟨h1, h2, h3⟩ := me_slot m
  refine PE.le (pe_bm0 h1 h2 h3 (me_ok m) ho (base_plain hb) hl) fun σ H Q h => ?_
  obtain ⟨ι, μ, ρ, r, μ', rr, e0, q⟩ := h
  obtain ⟨x, μ1, e1, e2⟩ := seqO_eq e0
  split at e2
  · rename_i hr
    refine tM_go rr e1 fun ι1 H1 v r1 x1 l1 => ⟨recv_ty r1.st l1 hr, ?_⟩
    exact ⟨ι1, μ1, x, [], r, μ', r1.st, l1, rfl, e2, fun ι' H' v s xx l => q ι' H' v s (x1.trans xx) l⟩
  · cases e2
theorem q_me {m : Me} {mo : Env' → Sto → Option (PV × Sto)} {ms : Env' → Sto → Option (List PV × Sto)} {name : Str} (hn : name = meNm m) (ho : QE X o mo) (ha : QA X [e] ms) (hb : plainB o = true) (hl : (apos.endLine == pos.line) = true) (ns : notStar e = true) :
    QE X (.Call (.Attribute o name apos) [e] [] pos) (fun ρ μ => seqO (mo ρ μ) fun x μ1 => if recvB m x μ1 = true then seqO (ms ρ μ1) fun vs μ2 => meP m x vs μ2 else none) := by
  subst hn
  obtain ⟨h1, h2, h3⟩ := me_slot m
  refine PE.le (pe_bm h1 h2 h3 (me_ok m) ho ha (base_plain hb) (by rw [star_of ns]; rfl) hl (star_of ns) (by rfl)) fun σ H Q h => ?_
  obtain ⟨ι, μ, ρ, r, μ', rr, e0, q⟩ := h
  obtain ⟨x, μ1, e1, e2⟩ := seqO_eq e0
  split at e2
  · rename_i hr
    obtain ⟨vs, μ2, e3, e4⟩ := seqO_eq e2
    refine tM_go rr e1 fun ι1 H1 v r1 x1 l1 => ⟨recv_ty r1.st l1 hr, tMA_go r1 e3 fun ι2 H2 us r2 x2 l2 => ?_⟩
    exact ⟨ι2, μ2, x, vs, r, μ', r2.st, l1.ext r1.st x2, l2, e4, fun ι' H' v s xx l => q ι' H' v s ((x1.trans x2).trans xx) l⟩
  · cases e2

/-! ### max(l, default=d) -/
theorem maxOf_L : ∀ (r : List Int) (m : Int), PySem.W.maxOf m r = maxL m r
  | [], m => rfl
  | y :: r, m => by
    have ih := maxOf_L r (if y > m then y else m)
    unfold PySem.W.maxOf at ih ⊢
    rw [List.foldl_cons, maxL, ← ih]
    congr 1
    show (if decide (m < y) = true then y else m) = _
    by_cases h : m < y
    · rw [if_pos (decide_eq_true h), if_pos h]
    · rw [if_neg (by simpa using h), if_neg h]
theorem hold_ints {h : Heap} : ∀ {is : List Int} {us : List Value}, Vals (is.map V.int) us → PySem.W.HoldAll h us is
  | [], _, r => by
    cases r
    exact ⟨[], .nil⟩
  | i :: is, _, r => by
    cases r with
    | cons r t =>
      obtain ⟨tk, rfl⟩ := r
      obtain ⟨as, rs⟩ := hold_ints (h := h) t
      exact ⟨[] ++ as, .cons (.int i tk) rs⟩
theorem cr_mxd (hc : X.calm = true) (hu : X.A.units + 64 < cLine) : CallRK X (.builtin "max") [Str.ofString "default"] (fun xs zs H Q => ∃ ι μ p q r μ' x z, xs = [x] ∧ zs = [z] ∧ StR X.K H ι μ ∧ Rl X.K H ι p x ∧ Rl X.K H ι q z ∧ mxdP p q μ = some (r, μ') ∧
    ∀ ι' H' v, StR X.K H' ι' μ' → Ext ι H ι' H' → Rl X.K H' ι' r v → Q v H') := by
  intro pins s σ H xs zs us ws Q I rv rz h
  obtain ⟨ι, μ, p, q, r, μ', x, z, rfl, rfl, st, lp, lq, e, k⟩ := h
  obtain ⟨u, rfl, ru⟩ := rv.one
  obtain ⟨w, rfl, rw'⟩ := rz.one
  unfold mxdP at e
  split at e
  · rename_i n
    split at e
    · rename_i vs hx
      obtain ⟨a, ys, rfl, ia, ha, ra, _⟩ := cell_of st lp hx
      obtain rfl : u = Value.ref a := ru
      obtain ⟨its, rvs, hl, hz⟩ := I.list ha
      have go : ∀ is : List Int, asInts vs = some is → (is = [] → q = r ∧ μ = μ') → (∀ y r', is = y :: r' → r = .int (maxL y r') ∧ μ = μ') → wpAny (model X.prog X.w) X.A (call (.builtin "max") [.ref a] ([(Str.ofString "default", w)])) (EP X pins σ Q) X.xe s := fun is hi h0 h1 => by
        have hv : Vals (is.map V.int) its := by rw [← (asInts_eq hi ra).2]; exact rvs
        refine PySem.W.max_list_datum_default (α := Int) (xs := is) (I.ok.hd hc) hl.isList (by simpa using hold_ints (h := s.heap) hv) (by show X.A.units + 1 + 0 < cLine; omega) (fun e0 h' tk hk => ?_) fun y r' i v h' tk e0 hi' hh hk => ?_
        · obtain ⟨rfl, rfl⟩ := h0 e0
          exact ⟨z, H, I.kept hk, rw', k ι H z st .refl lq⟩
        · obtain ⟨rfl, rfl⟩ := h1 y r' e0
          obtain ⟨as, rd⟩ := hh
          have ev : ∃ t, v = Value.int (PySem.W.maxOf y r') t := by
            have rd : Reads h' v (.int (PySem.W.maxOf y r')) as := rd
            cases rd with
            | int _ t => exact ⟨t, rfl⟩
          obtain ⟨t, rfl⟩ := ev
          exact ⟨.int (PySem.W.maxOf y r'), H, I.kept hk, ⟨t, rfl⟩, by rw [maxOf_L]; exact k ι H _ st .refl rfl⟩
      split at e
      · rename_i y r' hi
        obtain ⟨rfl, rfl⟩ := some_inj2 e
        exact go _ hi (fun z => nomatch z) fun y2 r2 e2 => by
          obtain ⟨rfl, rfl⟩ := List.cons.inj e2
          exact ⟨rfl, rfl⟩
      · rename_i hi
        obtain ⟨rfl, rfl⟩ := some_inj2 e
        exact go _ hi (fun _ => ⟨rfl, rfl⟩) fun y2 r2 e2 => nomatch e2
      · cases e
    · cases e
  · cases e
theorem q_mxd {ma md : Env' → Sto → Option (PV × Sto)} {d : Expr} {kp : Pos} (hc : X.calm = true) (hu : X.A.units + 64 < cLine) (hg : Gl X "max") (hm : X.mg "max" = none) (ha : QE X a ma) (hd : QE X d md) (ns : notStar a = true) :
    QE X (.Call (.Name "max" p) [a] [⟨some "default", d, kp⟩] pos) (fun ρ μ => seqO (ma ρ μ) fun x μ1 => seqO (md ρ μ1) fun y μ2 => mxdP x y μ2) := by
  refine PE.le (pe_callBK (ks := [Str.ofString "default"]) (cr_mxd hc hu) hg hm (bltB_eq (by decide +kernel)) (pa_cons ha pa_nil (star_of ns)) (pk_cons hd pk_nil) (by decide) (by decide) (by rw [star_of ns]; rfl) (by rw [star_of ns]; rfl)) fun σ H Q h => ?_
  obtain ⟨ι, μ, ρ, r, μ', rr, e0, q⟩ := h
  obtain ⟨x, μ1, e1, e2⟩ := seqO_eq e0
  obtain ⟨y, μ2, e3, e4⟩ := seqO_eq e2
  refine tM_go rr e1 fun ι1 H1 v r1 x1 l1 => tM_go r1 e3 fun ι2 H2 u r2 x2 l2 => ?_
  exact ⟨ι2, μ2, x, y, r, μ', v, u, rfl, rfl, r2.st, l1.ext r1.st x2, l2, e4, fun ι' H' v s xx l => q ι' H' v s ((x1.trans x2).trans xx) l⟩
end
end Pv
end

section
set_option Elab.async false
set_option linter.all false
set_option maxRecDepth 100000
/-! Pv: dict comprehensions; calls of defs. -/
namespace Pv
open PySem PySem.Spec PyProof.Rows L2
section
variable {X : Cx} {K : PySem.W.Frag} {H H' H1 H2 : Hp} {ι ι' ι1 ι2 : List Addr} {μ μ1 : Sto}
theorem Rkv.ext (s : StR K H ι μ) (x : Ext ι H ι' H') {p : List (Key × PV)} {v : List (Key × V)} (h : Rkv K H ι p v) : Rkv K H' ι' p v := Rkv.mono (fun _ _ => x.pre_get) (s.tk x) h
theorem Rkv.length : ∀ {p : List (Key × PV)} {v : List (Key × V)}, Rkv K H ι p v → p.length = v.length
  | [], _, h => by obtain rfl : _ = [] := h; rfl
  | p :: ps, _, h => by
    obtain ⟨v, r, rfl, _, b⟩ := h
    rw [List.length_cons, List.length_cons, Rkv.length b]
theorem Rkv.any {k : Key} : ∀ {p : List (Key × PV)} {v : List (Key × V)}, Rkv K H ι p v → (v.any fun q => decide (q.1 = k)) = (p.any fun q => decide (q.1 = k))
  | [], _, h => by obtain rfl : _ = [] := h; rfl
  | p :: ps, _, h => by
    obtain ⟨v, r, rfl, _, b⟩ := h
    rw [List.any_cons, List.any_cons, Rkv.any b]
theorem Rkv.put {k : Key} {q : PV} {u : V} (l : Rl K H ι q u) : ∀ {p : List (Key × PV)} {v : List (Key × V)}, Rkv K H ι p v → Rkv K H ι (p.map fun z => if z.1 = k then (z.1, q) else z) (v.map fun z => if z.1 = k then (z.1, u) else z)
  | [], _, h => by obtain rfl : _ = [] := h; rfl
  | p :: ps, _, h => by
    obtain ⟨v, r, rfl, a, b⟩ := h
    rw [List.map_cons, List.map_cons]
    by_cases e : p.1 = k
    · rw [if_pos e]
      exact ⟨u, _, by rw [if_pos e], l, Rkv.put l b⟩
    · rw [if_neg e]
      exact ⟨v, _, by rw [if_neg e], a, Rkv.put l b⟩
theorem Rkv.add {k : Key} {q : PV} {u : V} (l : Rl K H ι q u) : ∀ {p : List (Key × PV)} {v : List (Key × V)}, Rkv K H ι p v → Rkv K H ι (p ++ [(k, q)]) (v ++ [(k, u)])
  | [], _, h => by obtain rfl : _ = [] := h; exact ⟨u, [], rfl, l, rfl⟩
  | p :: ps, _, h => by
    obtain ⟨v, r, rfl, a, b⟩ := h
    exact ⟨v, _, rfl, a, Rkv.add l b⟩
theorem Rkv.putP {k : Key} {q : PV} {u : V} {p : List (Key × PV)} {v : List (Key × V)} (l : Rl K H ι q u) (h : Rkv K H ι p v) : Rkv K H ι (putP p k q) (putK v k u) := by
  unfold Pv.putP putK
  rw [h.any]
  split
  · exact h.put l
  · exact h.add l
theorem putP_keys {k : Key} {q : PV} (p : List (Key × PV)) : (putP p k q).map (·.1) = if (p.any fun z => decide (z.1 = k)) = true then p.map (·.1) else p.map (·.1) ++ [k] := by
  unfold putP
  split
  · rw [List.map_map]
    refine List.map_congr_left fun z _ => ?_
    show (if z.1 = k then (z.1, q) else z).1 = z.1
    split <;> rfl
  · rw [List.map_append]
    rfl
theorem putP_nd {k : Key} {q : PV} {p : List (Key × PV)} (h : (p.map (·.1)).Nodup) : ((putP p k q).map (·.1)).Nodup := by
  rw [putP_keys]
  split
  · exact h
  · rename_i hn
    rw [List.nodup_append]
    refine ⟨h, by simp, fun a ha b hb => ?_⟩
    rw [List.mem_singleton.mp hb]
    rintro rfl
    obtain ⟨z, hz, rfl⟩ := List.mem_map.mp ha
    exact hn (List.any_eq_true.mpr ⟨z, hz, decide_eq_true rfl⟩)
theorem putP_len {k : Key} {q : PV} (p : List (Key × PV)) : (putP p k q).length ≤ p.length + 1 := by
  unfold putP
  split
  · rw [List.length_map]; omega
  · rw [List.length_append, List.length_singleton]; omega
structure AccD (K : PySem.W.Frag) (ι1 : List Addr) (H1 : Hp) (D : Addr) (ι : List Addr) (H : Hp) (μ : Sto) (acc : List (Key × PV)) : Prop where
  st : StR K H ι μ
  x : Ext ι1 H1 ι H
  fr : H1 D = none
  out : D ∉ ι
  len : acc.length ≤ sizeLine
  nd : (acc.map (·.1)).Nodup
  at_ : ∃ vs, H D = some (.dK vs) ∧ Rkv K H ι acc vs
theorem AccD.begin (s : StR K H1 ι1 μ1) {D : Addr} (h : H1 D = none) : AccD K ι1 H1 D ι1 (upd H1 D (.dK [])) μ1 [] :=
  ⟨s.tup h, ext_tup h, h, s.out h, Nat.zero_le _, .nil, [], upd_same, rfl⟩
theorem AccD.go {D : Addr} {acc : List (Key × PV)} {μ' : Sto} (a : AccD K ι1 H1 D ι H μ acc) (x : Ext ι H ι' H') (s : StR K H' ι' μ') : AccD K ι1 H1 D ι' H' μ' acc := by
  obtain ⟨vs, e, r⟩ := a.at_
  exact ⟨s, a.x.trans x, a.fr, x.out a.out (by rw [e]; exact fun z => nomatch z), a.len, a.nd, vs, x.fr _ _ e a.out, r.ext a.st x⟩
theorem AccD.put {D : Addr} {acc : List (Key × PV)} {k : Key} {p : PV} {v : V} (a : AccD K ι1 H1 D ι H μ acc) (l : Rl K H ι p v) (hz : acc.length < sizeLine) :
    ∃ vs, H D = some (.dK vs) ∧ vs.length < sizeLine ∧ AccD K ι1 H1 D ι (upd H D (.dK (putK vs k v))) μ (putP acc k p) := by
  obtain ⟨vs, e, r⟩ := a.at_
  have t : TK K H (upd H D (.dK (putK vs k v))) := tk_acc e (fun _ z => nomatch z) fun _ _ z => nomatch z
  refine ⟨vs, e, by rw [← r.length]; exact hz, a.st.acc a.out e (fun _ z => nomatch z) (fun _ _ z => nomatch z), a.x.acc a.fr, a.fr, a.out, Nat.le_trans (putP_len _) hz, putP_nd a.nd, _, upd_same, ?_⟩
  exact Rkv.mono (fun _ _ h => h) t (r.putP l)
theorem AccD.fin {D : Addr} {acc : List (Key × PV)} (a : AccD K ι1 H1 D ι H μ acc) : StR K H (ι ++ [D]) (μ ++ [.dic acc]) ∧ Ext ι1 H1 (ι ++ [D]) H ∧ Rl K H (ι ++ [D]) (.loc μ.length) (.ref D) := by
  obtain ⟨vs, e, r⟩ := a.at_
  exact ⟨a.st.take_in a.out ⟨a.len, a.nd, vs, e, r⟩, a.x.add a.fr, D, rfl, loc_new a.st⟩
theorem key_V {p : PV} {k : Key} {v : V} (h : keyOf p = some k) (l : Rl K H ι p v) : v = kV k := by
  unfold keyOf at h
  split at h
  · obtain rfl := Option.some.inj h
    exact l
  · obtain rfl := Option.some.inj h
    exact l
  · cases h

def turnD (tg : Tg) (own : List Nat) (mt mk me : Env' → Sto → Option (PV × Sto)) (ρ : Env') : PV → Sto → Option (Option (Key × PV) × Sto) := fun x μ2 => match bindT tg x (wipeE ρ own) with
  | some ρ1 => seqO (testB (mt ρ1 μ2)) fun b μ3 => if b = true then seqO (mk ρ1 μ3) fun kv μ4 => seqO (me ρ1 μ4) fun vv μ5 => (keyOf kv).map fun kk => (some (kk, vv), μ5) else some (none, μ3)
  | none => none
theorem q_dc {kx elt tg iter : Expr} {ifs : List Expr} {scope : Scope} {own : List (Str × Nat)} {pos : Pos} {t : Tg} {mi : Env' → Sto → Option ((List PV × Chk) × Sto)} {mt mk me : Env' → Sto → Option (PV × Sto)} (hc : X.calm = true) (hN : X.N.Nodup) (hi : QI X tg iter mi) (ok : BlkOk X.N X.env.scope scope own)
    (hg : Blk X scope fun Y => PG Y tg (gM X.K t)) (ht : Blk X scope fun Y => PTs Y ifs (tMB X.K fun ρ μ => testB (mt ρ μ))) (hk : Blk X scope fun Y => PE Y kx (tM X.K mk)) (he : Blk X scope fun Y => PE Y elt (tM X.K me)) (hs : ∀ x, foldedSetIterable iter X.env x = pure x)
    (hsub : ∀ j ∈ tgSl t, j ∈ own.map (·.2)) :
    QE X (.DictComp kx elt [⟨tg, iter, ifs, 0⟩] scope pos) (fun ρ μ => seqO (mi ρ μ) fun xc μ1 => seqO (dcE xc.2 (turnD t (own.map (·.2)) mt mk me ρ) xc.1 [] μ1) fun acc μ4 => newC (.dic acc) μ4) := by
  refine PE.le (pe_dc hc hN hi ok hg ht hk he hs) fun σ H Q h => ?_
  obtain ⟨ι, μ, ρ, p, μ', rr, e0, q⟩ := h
  obtain ⟨⟨ps, c⟩, μ1, e1, e2⟩ := seqO_eq e0
  obtain ⟨accF, μF, eF, e3⟩ := seqO_eq e2
  refine ⟨ι, μ, ρ, _, _, rr, e1, fun ι1 H1 J s1 x1 itr D hD => ?_⟩
  refine ⟨fun i m H => ∃ ι2 μ2 acc, AccD X.K ι1 H1 D ι2 H μ2 acc ∧ m = ps.length - i ∧ i ≤ ps.length ∧ dcE c (turnD t (own.map (·.2)) mt mk me ρ) (ps.drop i) acc μ2 = some (accF, μF),
    ⟨ps.length, ι1, μ1, [], .begin s1 hD, (Nat.sub_zero _).symm, Nat.zero_le _, eF⟩, ?_⟩
  rintro i m H2 ⟨ι2, μ2, acc, A, rfl, hi2, eL⟩
  by_cases hlt : i < ps.length
  · rw [drop_get hlt] at eL
    simp only [dcE] at eL
    split at eL
    · rename_i hkk
      obtain ⟨r, μ3, et, eL⟩ := seqO_eq eL
      obtain ⟨go, yl⟩ := itr.item ι2 H2 μ2 i ps[i] (A.x.wk s1) A.st hkk (by simp [hlt])
      refine .inr ⟨go, fun H' => ∃ ι' acc' μ', AccD X.K ι1 H1 D ι' H' μ' acc' ∧ dcE c (turnD t (own.map (·.2)) mt mk me ρ) (ps.drop (i + 1)) acc' μ' = some (accF, μF), fun H' ⟨ι', acc', μ', A', e'⟩ => ⟨_, by omega, ι', μ', acc', A', rfl, hlt, e'⟩, fun x H3 y => ?_⟩
      obtain ⟨s3, x3, l3⟩ := yl x H3 y
      have A3 := A.go x3 s3
      unfold turnD at et
      split at et
      · rename_i ρ1 eb
        have er : EnvR X.K H3 ι2 (wipeE ρ (own.map (·.2))) (wipe σ (own.map (·.2))) := (((rr.env.ext rr.st x1).ext s1 A.x).ext A.st x3).wipe _
        refine ⟨ι2, μ2, _, ps[i], ρ1, ⟨s3, er⟩, l3, eb, fun σ2 er2 hl2 hj2 => ⟨?_, ?_⟩⟩
        · rw [wipe_eq (hl2.trans rfl) (fun j hj => hj2 j fun z => hj (hsub j z)), wipe_wipe]
        obtain ⟨b, μ4, eb4, et⟩ := seqO_eq et
        refine tMB_go ⟨s3, er2⟩ eb4 fun ι4 H4 r4 x4 => ?_
        have A4 := A3.go x4 r4.st
        cases b with
        | false =>
          obtain ⟨rfl, rfl⟩ := some_inj2 et
          rw [if_neg Bool.false_ne_true]
          exact ⟨ι4, acc, _, A4, eL⟩
        | true =>
          rw [if_pos rfl] at et ⊢
          obtain ⟨kv, μ5, ek, et⟩ := seqO_eq et
          obtain ⟨vv, μ6, ev, et⟩ := seqO_eq et
          cases ekk : keyOf kv with
          | none => rw [ekk] at et; cases et
          | some kk =>
            rw [ekk] at et
            obtain ⟨rfl, rfl⟩ := some_inj2 et
            refine tM_go r4 ek fun ι5 H5 v5 r5 x5 l5 => tM_go r5 ev fun ι6 H6 v6 r6 x6 l6 => ?_
            have A6 := (A4.go x5 r5.st).go x6 r6.st
            simp only at eL
            split at eL
            · rename_i hz
              obtain ⟨vs, e6, hz6, A7⟩ := A6.put (k := kk) l6 hz
              exact ⟨vs, kk, key_V ekk l5, e6, hz6, ι6, _, _, A7, eL⟩
            · cases eL
      · cases et
    · cases eL
  · have ei : i = ps.length := by omega
    subst ei
    rw [List.drop_length] at eL
    simp only [dcE] at eL
    split at eL
    · rename_i hkk
      obtain ⟨rfl, rfl⟩ := some_inj2 eL
      refine .inl ⟨itr.done ι2 H2 μ2 (A.x.wk s1) A.st hkk, ?_⟩
      obtain ⟨s5, x5, l5⟩ := A.fin
      have e3 : (PV.loc μ2.length, μ2 ++ [MO.dic acc]) = (p, μ') := Option.some.inj e3
      obtain ⟨rfl, rfl⟩ := Prod.mk.inj e3
      exact q _ _ _ s5 (x1.trans x5) l5
    · cases eL

/-! ### calls of defs -/
variable {k n : Nat} {f : Addr} {fd : FuncData} {ps : List Str} {x : Str} {pos p : Pos} {e : Expr} {es : List Expr}
theorem call_op {σ : L2.St} {H : Hp} {Q : VK} {m : List PV → Sto → Option (PV × Sto)} {ms : Env' → Sto → Option (List PV × Sto)} (hn : ∀ vs μ r, m vs μ = some r → vs.length = n) (h : tM K (fun ρ μ => seqO (ms ρ μ) fun vs μ1 => m vs μ1) σ H Q) : tCallG (spM K n m) (tMA K ms) σ H Q := by
  obtain ⟨ι, μ, ρ, r, μ', rr, e0, q⟩ := h
  obtain ⟨vs, μ1, e1, e2⟩ := seqO_eq e0
  refine tMA_go rr e1 fun ι1 H1 us r1 x1 l1 => ?_
  exact ⟨ι1, μ1, vs, r, μ', r1.st, l1, hn _ _ _ e2, e2, fun ι' H' v s xx l => q ι' H' v s (x1.trans xx) l⟩
theorem q_call {m : List PV → Sto → Option (PV × Sto)} {ms : Env' → Sto → Option (List PV × Sto)} (hn : ∀ vs μ r, m vs μ = some r → vs.length = n) (F : FnG X.prog X.w X.K X.mg X.base k f fd ps (spM X.K n m)) (room : Room k X.A) (gd : X.A.guards = some []) (hg : Gl X x) (hm : X.mg x = some (.ref f)) (hk : PySem.W.keepIn X.K (.ref f) = true)
    (binds : Binds X.K fd ps []) (ha : QA X (e :: es) ms) (hdb : (x == ("__debug__" : Str)) = false) (ns : ((e :: es).all notStar) = true) : QE X (.Call (.Name x p) (e :: es) [] pos) (fun ρ μ => seqO (ms ρ μ) fun vs μ1 => m vs μ1) :=
  PE.le (pe_callG F room gd hg hm hk binds ha hdb ns) fun _ _ _ h => call_op hn h
theorem q_call0 {m : List PV → Sto → Option (PV × Sto)} (hn : ∀ vs μ r, m vs μ = some r → vs.length = n) (F : FnG X.prog X.w X.K X.mg X.base k f fd ps (spM X.K n m)) (room : Room k X.A) (gd : X.A.guards = some []) (hg : Gl X x) (hm : X.mg x = some (.ref f)) (hk : PySem.W.keepIn X.K (.ref f) = true)
    (binds : Binds X.K fd ps []) (hdb : (x == ("__debug__" : Str)) = false) : QE X (.Call (.Name x p) [] [] pos) (fun ρ μ => m [] μ) :=
  PE.le (pe_callG0 F room gd hg hm hk binds hdb) fun σ H Q h => by
    obtain ⟨ι, μ, ρ, r, μ', rr, e0, q⟩ := h
    exact ⟨ι, μ, [], r, μ', rr.st, rfl, hn _ _ _ e0, e0, q⟩
/-- how a call by keywords alone binds: perm says where each parameter's value stands -/
def KwB (K : PySem.W.Frag) (fd : FuncData) (ps ks : List Str) (perm : List Nat) : Prop :=
  ∀ (s : Shared) (ws : List Value), K.In s.heap → ws.length = ks.length → ∃ zs, allSome (fun i => ws[i]?) perm = some zs ∧ zs.length = ps.length ∧ BindsTo s fd ⟨[], ks.zip ws⟩ (ps.zip zs)
theorem pick_vals {vs : List V} {ws : List Value} (r : Vals vs ws) : ∀ {perm : List Nat} {zs : List Value}, allSome (fun i => ws[i]?) perm = some zs → ∃ us, allSome (fun i => vs[i]?) perm = some us ∧ Vals us zs
  | [], _, e => by
    obtain rfl := Option.some.inj e
    exact ⟨[], rfl, .nil⟩
  | i :: perm, zs, e => by
    simp only [allSome] at e
    cases e1 : ws[i]? with
    | none => rw [e1] at e; cases e
    | some w =>
      rw [e1] at e
      cases e2 : allSome (fun i => ws[i]?) perm with
      | none => rw [e2] at e; cases e
      | some t =>
        rw [e2] at e
        obtain rfl := Option.some.inj e
        obtain ⟨us, h1, h2⟩ := pick_vals r e2
        have hi : i < vs.length := by
          rw [r.length]
          exact (List.getElem?_eq_some_iff.mp e1).1
        obtain ⟨w', hw, rw'⟩ := r.get (List.getElem?_eq_getElem hi)
        rw [e1] at hw
        obtain rfl := Option.some.inj hw
        refine ⟨vs[i] :: us, ?_, .cons rw' h2⟩
        simp only [allSome, List.getElem?_eq_getElem hi, h1]
        rfl
theorem pick_rls {qs : List PV} {vs : List V} (r : Rls K H ι qs vs) : ∀ {perm : List Nat} {us : List V} {ws : List PV}, allSome (fun i => vs[i]?) perm = some us → allSome (fun i => qs[i]?) perm = some ws → Rls K H ι ws us
  | [], us, ws, e1, e2 => by
    obtain rfl := Option.some.inj e1
    obtain rfl := Option.some.inj e2
    rfl
  | i :: perm, us, ws, e1, e2 => by
    simp only [allSome] at e1 e2
    cases h1 : vs[i]? with
    | none => rw [h1] at e1; cases e1
    | some v =>
      rw [h1] at e1
      cases h2 : qs[i]? with
      | none => rw [h2] at e2; cases e2
      | some q =>
        rw [h2] at e2
        cases h3 : allSome (fun i => vs[i]?) perm with
        | none => rw [h3] at e1; cases e1
        | some t =>
          rw [h3] at e1
          cases h4 : allSome (fun i => qs[i]?) perm with
          | none => rw [h4] at e2; cases e2
          | some t2 =>
            rw [h4] at e2
            obtain rfl := Option.some.inj e1
            obtain rfl := Option.some.inj e2
            obtain ⟨v', hv, lv⟩ := r.get h2
            rw [h1] at hv
            obtain rfl := Option.some.inj hv
            exact ⟨v, t, rfl, lv, pick_rls r h3 h4⟩
theorem run_K {pins : List (Addr × Obj)} {σ : L2.St} {H : Hp} {s : Shared} {Q : VK} {ks : List Str} {perm : List Nat} {sp : Sp} {ws : List Value} {vs us : List V} (F : FnG X.prog X.w X.K X.mg X.base k f fd ps sp) (room : Room k X.A) (gd : X.A.guards = some [])
    (kb : KwB X.K fd ps ks perm) (I : Inv X pins σ H s) (r : Vals vs ws) (hl : ws.length = ks.length) (hp : allSome (fun i => vs[i]?) perm = some us) (want : sp us H Q noX) : wpAny (model X.prog X.w) X.A (PySem.call (.ref f) [] (ks.zip ws)) (EP X pins σ Q) X.xe s := by
  obtain ⟨zs, h1, h2, h3⟩ := kb s ws I.kIn hl
  obtain ⟨us', h4, h5⟩ := pick_vals r h1
  rw [hp] at h4
  obtain rfl := Option.some.inj h4
  refine wpAny_call (codeAny_mono (F.run X.A X.stack s H ⟨[], ks.zip ws⟩ zs us Q room gd I.env0 h3 h5 want) fun r' s' fin => ?_)
  cases r' with
  | error e => exact fin.elim
  | ok fl => cases fl with
    | ret u => exact I.after fin
    | next => exact fin.elim
    | brk => exact fin.elim
    | cont => exact fin.elim
/-- f(k = e, ..) -/
theorem q_callK {m : List PV → Sto → Option (PV × Sto)} {ms : Env' → Sto → Option (List PV × Sto)} {kws : List Keyword} {ks : List Str} {perm : List Nat} (hn : ∀ vs μ r, m vs μ = some r → vs.length = n) (F : FnG X.prog X.w X.K X.mg X.base k f fd ps (spM X.K n m)) (room : Room k X.A) (gd : X.A.guards = some []) (hg : Gl X x) (hm : X.mg x = some (.ref f)) (hk : PySem.W.keepIn X.K (.ref f) = true)
    (kb : KwB X.K fd ps ks perm) (ha : PK X kws (tMA X.K ms)) (hdb : (x == ("__debug__" : Str)) = false) (hall : (backToKw pos (keywordEach kws X.env)).all (·.1.isSome) = true) (hnone : (backToKw pos (keywordEach kws X.env)).any (·.1.isNone) = false) (hks : (backToKw pos (keywordEach kws X.env)).filterMap (·.1) = ks) (hlen : ∀ ρ μ r, ms ρ μ = some r → r.1.length = ks.length) :
    QE X (.Call (.Name x p) [] kws pos) (fun ρ μ => seqO (ms ρ μ) fun vs μ1 => match allSome (fun i => vs[i]?) perm with
      | some ws => m ws μ1
      | none => none) := by
  refine ⟨fun pins s σ H Q I h => ?_⟩
  obtain ⟨ι, μ, ρ, r, μ', rr, e0, q⟩ := h
  obtain ⟨vs, μ1, e1, e2⟩ := seqO_eq e0
  split at e2
  · rename_i qs hq
    refine wpAny_Call_Name_kw (ld_glob I hg hm ?_ hdb)
    have hpl : ((backTo pos (starEach [] X.env)).any (·.1) || (backToKw pos (keywordEach kws X.env)).any (·.1.isNone)) = false := by rw [hnone]; rfl
    refine PySem.W.callWith_KW0 (h₀ := X.base) I.ok.mod.kin hk hall (thn (ha.run pos pins s σ H (fun (us : List V) (H1 : Hp) => us.length = ks.length ∧ ∃ zs, allSome (fun i => us[i]?) perm = some zs ∧ spM X.K n m zs H1 Q noX) I (tMA_go rr e1 fun ι1 H1 us r1 x1 l1 => ?w)) fun ws s1 ⟨us, H1, I1, r1, q1⟩ => ⟨I1.kIn, ?_⟩) hpl
    case w =>
      have el := hlen _ _ _ e1
      refine ⟨by rw [← l1.length]; exact el, ?_⟩
      have some_of : ∀ (perm : List Nat) (qs : List PV), allSome (fun i => vs[i]?) perm = some qs → ∃ zs, allSome (fun i => us[i]?) perm = some zs ∧ zs.length = qs.length := by
        intro perm
        induction perm with
        | nil => intro qs e; obtain rfl := Option.some.inj e; exact ⟨[], rfl, rfl⟩
        | cons i perm ih =>
          intro qs e
          simp only [allSome] at e
          cases e1 : vs[i]? with
          | none => rw [e1] at e; cases e
          | some v =>
            rw [e1] at e
            cases e2 : allSome (fun i => vs[i]?) perm with
            | none => rw [e2] at e; cases e
            | some t =>
              rw [e2] at e
              obtain rfl := Option.some.inj e
              obtain ⟨zs, h1, h2⟩ := ih t e2
              obtain ⟨u, hu, _⟩ := l1.get e1
              refine ⟨u :: zs, ?_, by rw [List.length_cons, List.length_cons, h2]⟩
              simp only [allSome, hu, h1]
              rfl
      obtain ⟨zs, hz, _⟩ := some_of perm qs hq
      exact ⟨zs, hz, ι1, μ1, qs, r, μ', r1.st, pick_rls l1 hz hq, hn _ _ _ e2, e2, fun ι' H' v s xx l => q ι' H' v s (x1.trans xx) l⟩
    obtain ⟨hl, zs, hz, want⟩ := q1
    rw [hks]
    exact run_K F room gd kb I1 r1 (by rw [← r1.length]; exact hl) hz want
  · cases e2
end
end Pv
end

section
set_option Elab.async false
set_option linter.all false
set_option maxRecDepth 100000
/-! Pv: an own tree stands for a def's text: a Boolean check, and what follows from it. -/
namespace Pv
open PySem PySem.Spec PyProof.Rows L2

/-- the module's names: those it does not define; its defs; calls by keywords; its constants -/
structure Tb where
  fr : List Str
  fns : List (Str × Nat)
  kws : List (Str × List Str × List Nat)
  cs : List (Str × PV)
/-- where the text stands: the slots' names; the scope that runs; a block's written scope -/
structure Mi where
  N : List Str
  sc : Scope
  blk : Option Scope
def isLC (k : Option NameKind) : Bool := match k with
  | some .local => true
  | some .cell => true
  | _ => false
def Mi.ok (M : Mi) (x : Str) : Bool := match M.blk with
  | none => isLC (M.sc.names.lookup x)
  | some s => isLC (s.names.lookup x)
def Mi.vis (M : Mi) (x : Str) : Bool := match M.sc.names.lookup x with
  | some .local => true
  | some .cell => true
  | some .free => true
  | _ => false
def Mi.gl (M : Mi) (x : Str) : Bool := match M.sc.names.lookup x with
  | some .globalImplicit => true
  | _ => false
def Mi.inn (M : Mi) (scope : Scope) : Mi := ⟨M.N, relS scope M.sc, some scope⟩
def nb (x : Str) : Bool := !(x == ("__debug__" : Str)) && !(x == ("__classdict__" : Str)) && decide (x ≠ "__name__")
def biNm : Bi → Str
  | .len => "len"
  | .all => "all"
  | .any => "any"
  | .max2 => "max"
  | .min2 => "min"
  | .max1 => "max"
  | .sum => "sum"
  | .tuple => "tuple"
  | .list => "list"
  | .sorted => "sorted"
  | .sset => "set"
  | .int => "int"
  | .str => "str"
  | .abs => "abs"
  | .repr => "repr"
def plainIx : Expr → Bool
  | .Slice _ _ _ _ => false
  | .Tuple _ _ _ => false
  | _ => true
def notSet : Expr → Bool
  | .Set _ _ _ => false
  | _ => true
def subB (a b : List Nat) : Bool := a.all fun x => b.contains x
def Tb.frB (tb : Tb) (x : Str) : Bool := decide (x ∈ tb.fr)
def kwNames (kws : List Keyword) : List (Option Str) := kws.map (·.arg)
section
variable (tb : Tb)
mutual
def mE (M : Mi) : E → Expr → Bool
  | .var i, x => match x with
    | .Name n _ => decide (M.N[i]? = some n) && M.vis n && nb n
    | _ => false
  | .cst p, x => match x with
    | .Constant c _ _ => cstB p c
    | _ => false
  | .glo g p, x => match x with
    | .Name n _ => decide (n = g) && M.gl n && nb n && decide ((g, p) ∈ tb.cs)
    | _ => false
  | .bin o a b, x => match x with
    | .BinOp a' o' b' _ => decide (o' = o) && mE M a a' && mE M b b'
    | _ => false
  | .neg a, x => match x with
    | .UnaryOp .USub a' _ => mE M a a'
    | _ => false
  | .cmp o a b, x => match x with
    | .Compare a' [o'] [b'] _ => decide (o' = o) && !behindInMarks o b' && mE M a a' && mE M b b'
    | _ => false
  | .chn o o2 a b c, x => match x with
    | .Compare a' [p, p2] [b', c'] _ => decide (p = o) && decide (p2 = o2) && !lastMarks [o, o2] [b', c'] && mE M a a' && mE M b b' && mE M c c'
    | _ => false
  | .bo k es, x => match x with
    | .BoolOp op (y :: ys) _ => decide (op = bop k) && mEs M es (y :: ys)
    | _ => false
  | .nt a, x => match x with
    | .UnaryOp .Not a' _ => mE M a a'
    | _ => false
  | .ite c a b, x => match x with
    | .IfExp c' a' b' _ => mE M c c' && mE M a a' && mE M b b'
    | _ => false
  | .tup es, x => match x with
    | .Tuple xs _ _ => xs.all notStar && mEs M es xs
    | _ => false
  | .lst es, x => match x with
    | .List xs _ => xs.all notStar && mEs M es xs
    | _ => false
  | .ix a b, x => match x with
    | .Subscript a' b' _ => plainIx b' && mE M a a' && mE M b b'
    | _ => false
  | .slL a lo, x => match x with
    | .Subscript a' (.Slice (some lo') none none _) _ => mE M a a' && mE M lo lo'
    | _ => false
  | .slU a hi, x => match x with
    | .Subscript a' (.Slice none (some hi') none _) _ => mE M a a' && mE M hi hi'
    | _ => false
  | .slB a lo hi, x => match x with
    | .Subscript a' (.Slice (some lo') (some hi') none _) _ => mE M a a' && mE M lo lo' && mE M hi hi'
    | _ => false
  | .call j es, x => match x with
    | .Call (.Name n _) xs [] _ => M.gl n && nb n && decide ((n, j) ∈ tb.fns) && xs.all notStar && mEs M es xs
    | _ => false
  | .callK j perm _ es, x => match x with
    | .Call (.Name n _) [] kws _ => M.gl n && nb n && decide ((n, j) ∈ tb.fns) && (tb.kws.any fun q => decide (q.1 = n ∧ kwNames kws = q.2.1.map some ∧ q.2.2 = perm)) && mKs M es kws
    | _ => false
  | .bi b es, x => match b with
    | .sset => match x with
      | .Call (.Name n _) [.Call (.Name n2 _) [y] [] _] [] _ => decide (n = "sorted") && decide (n2 = "set") && M.gl "sorted" && M.gl "set" && tb.frB "sorted" && tb.frB "set" && notStar y && mEs M es [y]
      | _ => false
    | b => match x with
      | .Call (.Name n _) (y :: ys) [] _ => decide (n = biNm b) && M.gl n && nb n && tb.frB n && bltB n (biVal b) && (y :: ys).all notStar && mEs M es (y :: ys)
      | _ => false
  | .mxd a d, x => match x with
    | .Call (.Name n _) [a'] [⟨some kw, d', _⟩] _ => decide (n = "max") && decide (kw = "default") && M.gl "max" && tb.frB "max" && notStar a' && mE M a a' && mE M d d'
    | _ => false
  | .isi a T, x => match x with
    | .Call (.Name n _) [a', .Name T' _] [] _ => decide (n = "isinstance") && decide (T' = T) && M.gl "isinstance" && tb.frB "isinstance" && M.gl T && tb.frB T && nb T && bltB T (.type T.toString) && notStar a' && mE M a a'
    | _ => false
  | .me m o es, x => match x with
    | .Call (.Attribute o' name apos) [] [] cpos => (match es with
      | .nil => true
      | _ => false) && decide (name = meNm m) && plainB o' && (apos.endLine == cpos.line) && mE M o o'
    | .Call (.Attribute o' name apos) [y] [] cpos => decide (name = meNm m) && plainB o' && (apos.endLine == cpos.line) && notStar y && mE M o o' && mEs M es [y]
    | _ => false
  | .lc own elt tg it cs, x => match x with
    | .ListComp elt' [⟨tg', iter, ifs, asy⟩] scope _ => decide (asy = 0) && blkC M.N M.sc scope own && mTg M.N (M.inn scope).ok tg tg' && subB (tgSl tg) (own.map (·.2)) && notSet iter && mI M it tg' iter && mE (M.inn scope) elt elt' && decide (ifs.length < 2) && mEs (M.inn scope) cs ifs
    | _ => false
  | .lc2 own own1 elt tg it tg1 it1, x => match x with
    | .ListComp elt' [⟨tg', iter, [], asy⟩, ⟨tg1', iter1, [], asy1⟩] scope _ => decide (asy = 0) && decide (asy1 = 0) && blkC M.N M.sc scope own && mTg M.N (M.inn scope).ok tg tg' && mTg M.N (M.inn scope).ok tg1 tg1' && subB (tgSl tg) (own.map (·.2)) && subB (tgSl tg1) own1 && subB own1 (own.map (·.2)) && notSet iter && notSet iter1 && mI M it tg' iter && mI (M.inn scope) it1 tg1' iter1 && mE (M.inn scope) elt elt'
    | _ => false
  | .dc own k v tg it cs, x => match x with
    | .DictComp k' v' [⟨tg', iter, ifs, asy⟩] scope _ => decide (asy = 0) && blkC M.N M.sc scope own && mTg M.N (M.inn scope).ok tg tg' && subB (tgSl tg) (own.map (·.2)) && notSet iter && mI M it tg' iter && mE (M.inn scope) k k' && mE (M.inn scope) v v' && decide (ifs.length < 2) && mEs (M.inn scope) cs ifs
    | _ => false
def mEs (M : Mi) : Es → List Expr → Bool
  | .nil, xs => match xs with
    | [] => true
    | _ => false
  | .cons e es, xs => match xs with
    | x :: r => mE M e x && mEs M es r
    | [] => false
def mKs (M : Mi) : Es → List Keyword → Bool
  | .nil, xs => match xs with
    | [] => true
    | _ => false
  | .cons e es, xs => match xs with
    | x :: r => mE M e x.value && mKs M es r
    | [] => false
def mI (M : Mi) : It' → Expr → Expr → Bool
  | .val e, _, x => mE M e x
  | .en e, tg, x => match tg, x with
    | .Tuple _ _ _, .Call (.Name n _) [y] [] _ => decide (n = "enumerate") && M.gl "enumerate" && tb.frB "enumerate" && notStar y && mE M e y
    | _, _ => false
  | .zp a b, tg, x => match tg, x with
    | .Tuple _ _ _, .Call (.Name n _) [y, z] [] _ => decide (n = "zip") && M.gl "zip" && tb.frB "zip" && notStar y && notStar z && mE M a y && mE M b z
    | _, _ => false
  | .rg a, _, x => match x with
    | .Call (.Name n _) [y] [] _ => decide (n = "range") && M.gl "range" && tb.frB "range" && notStar y && mE M a y
    | _ => false
end
end
end Pv
end

section
set_option Elab.async false
set_option linter.all false
set_option maxRecDepth 100000
/-! Pv: the check is sound, for expressions. -/
namespace Pv
open PySem PySem.Spec PyProof.Rows L2

/-- what is known of the module, for calls k deep -/
structure GlobK (P : Program) (w : World) (K : PySem.W.Frag) (mg : Str → Option Value) (base : Heap) (tb : Tb) (T : List Fd) (k : Nat) : Prop where
  free : ∀ x ∈ tb.fr, mg x = none
  con : ∀ q ∈ tb.cs, ∃ u v, mg q.1 = some u ∧ RelV v u ∧ ∀ ι H, Rl K H ι q.2 v
  fn : ∀ q ∈ tb.fns, ∃ d f fd ps, T[q.2]? = some d ∧ mg q.1 = some (.ref f) ∧ PySem.W.keepIn K (.ref f) = true ∧ Binds K fd ps [] ∧ FnG P w K mg base k f fd ps (spM K d.ar (runT T k q.2)) ∧
    ∀ z ∈ tb.kws, z.1 = q.1 → KwB K fd ps z.2.1 z.2.2
structure Good (X : Cx) (M : Mi) (tb : Tb) (T : List Fd) (k : Nat) : Prop where
  N : X.N = M.N
  nd : X.N.Nodup
  sc : X.env.scope = M.sc
  calm : X.calm = true
  room : Room k X.A
  gd : X.A.guards = some []
  ok : ∀ x, M.ok x = true → OkN X x
  g : GlobK X.prog X.w X.K X.mg X.base tb T k
section
variable {X : Cx} {M : Mi} {tb : Tb} {T : List Fd} {k : Nat}
theorem isLC_eq {o : Option NameKind} (h : isLC o = true) : o = some .local ∨ o = some .cell := by
  unfold isLC at h
  split at h
  · exact .inl rfl
  · exact .inr rfl
  · cases h
theorem Good.inn (G : Good X M tb T k) {s : Shared} {H : Hp} {scope : Scope} {C : Addr} {cl : List (Str × Addr)} {fp : List Addr} : Good (X.blk s H scope (compEnvC scope cl C X.env) fp) (M.inn scope) tb T k := by
  have e : (compEnvC scope cl C X.env).scope = relS scope X.env.scope := rfl
  refine ⟨G.N, G.nd, by show (compEnvC scope cl C X.env).scope = relS scope M.sc; rw [e, G.sc], G.calm, G.room, G.gd, fun x hx => ?_, G.g⟩
  rcases isLC_eq (show isLC (scope.names.lookup x) = true from hx) with h | h
  · have q : (relS scope X.env.scope).names.lookup x = some .local := lookup_relS_keep (fun z => nomatch z) h
    exact ⟨.inl q, .inr q⟩
  · have q : (relS scope X.env.scope).names.lookup x = some .cell := lookup_relS_keep (fun z => nomatch z) h
    refine ⟨.inr q, .inl ?_⟩
    show (scope.names.lookup x == some .cell) = true
    rw [h]
    rfl
theorem Good.vis (G : Good X M tb T k) {x : Str} (h : M.vis x = true) : Vis X.env.scope x := by
  rw [G.sc]
  unfold Mi.vis at h
  split at h
  · exact .inl (by assumption)
  · exact .inr (.inl (by assumption))
  · exact .inr (.inr (by assumption))
  · cases h
theorem Good.gl (G : Good X M tb T k) {x : Str} (h : M.gl x = true) : Gl X x := by
  show X.env.scope.names.lookup x = _
  rw [G.sc]
  unfold Mi.gl at h
  split at h
  · assumption
  · cases h
theorem Good.fr (G : Good X M tb T k) {x : Str} (h : tb.frB x = true) : X.mg x = none := G.g.free x (of_decide_eq_true h)
theorem Good.u (G : Good X M tb T k) : X.A.units + 64 < cLine := by
  have := G.room.un
  omega
theorem nb_eq {x : Str} (h : nb x = true) : (x == ("__debug__" : Str)) = false ∧ (x == ("__classdict__" : Str)) = false ∧ x ≠ "__name__" := by
  unfold nb at h
  rw [Bool.and_eq_true, Bool.and_eq_true, decide_eq_true_eq, Bool.not_eq_true', Bool.not_eq_true'] at h
  exact ⟨h.1.1, h.1.2, h.2⟩
theorem notSet_eq {e : Expr} (h : notSet e = true) {env : Env} : ∀ x, foldedSetIterable e env x = pure x := by
  intro x
  cases e <;> first | rfl | cases h
theorem plainIx_eq {e : Expr} (h : plainIx e = true) : PlainIx e := by
  intro o i
  cases e <;> first | rfl | cases h
theorem subB_eq {a b : List Nat} (h : subB a b = true) : ∀ j ∈ a, j ∈ b := fun j hj => by
  have := List.all_eq_true.mp h j hj
  simpa using this
theorem q_cg {x : Expr} {m m' : Env' → Sto → Option (PV × Sto)} (h : QE X x m) (e : m' = m) : QE X x m' := by rw [e]; exact h
theorem qt_cg {x : Expr} {m m' : Env' → Sto → Option (PV × Sto)} (h : QT X x m) (e : m' = m) : QT X x m' := by rw [e]; exact h
abbrev Q2 (X : Cx) (x : Expr) (m : Env' → Sto → Option (PV × Sto)) : Prop := QE X x m ∧ QT X x m
theorem q2_plain {x : Expr} {m m' : Env' → Sto → Option (PV × Sto)} (h : QE X x m) (hp : plainT x = true) (e : m' = m) : Q2 X x m' := by
  rw [e]
  exact ⟨h, qt_plain h hp⟩
theorem q2_cg {x : Expr} {m m' : Env' → Sto → Option (PV × Sto)} (h : Q2 X x m) (e : m' = m) : Q2 X x m' := by rw [e]; exact h
theorem run_len {T : List Fd} {k j : Nat} {d : Fd} (hd : T[j]? = some d) : ∀ vs μ r, runT T k j vs μ = some r → vs.length = d.ar := by
  intro vs μ r h
  cases k with
  | zero => cases h
  | succ k =>
    simp only [runT, hd, runF] at h
    split at h
    · assumption
    · cases h
theorem evEs_len {Φ : Nat → List PV → Sto → Option (PV × Sto)} : ∀ (es : Es) (ρ : Env') (μ : Sto) (r : List PV × Sto) (kws : List Keyword) (M : Mi), mKs tb M es kws = true → evEs Φ es ρ μ = some r → r.1.length = kws.length
  | .nil, ρ, μ, r, kws, M, hm, h => by
    cases kws with
    | nil => obtain rfl := Option.some.inj h; rfl
    | cons _ _ => simp [mKs] at hm
  | .cons e es, ρ, μ, r, kws, M, hm, h => by
    cases kws with
    | nil => simp [mKs] at hm
    | cons x t =>
      simp only [mKs, Bool.and_eq_true] at hm
      simp only [evEs] at h
      obtain ⟨x1, μ1, e1, h⟩ := seqO_eq h
      obtain ⟨x2, μ2, e2, h⟩ := seqO_eq h
      obtain rfl := Option.some.inj h
      have := evEs_len es ρ μ1 _ t M hm.2 e2
      show x2.length + 1 = t.length + 1
      rw [← this]
theorem kw_names : ∀ {kws : List Keyword} {ks : List Str} {pos : Pos} {env : Env}, kwNames kws = ks.map some →
    (backToKw pos (keywordEach kws env)).all (·.1.isSome) = true ∧ (backToKw pos (keywordEach kws env)).any (·.1.isNone) = false ∧ (backToKw pos (keywordEach kws env)).filterMap (·.1) = ks ∧ kws.length = ks.length
  | [], ks, pos, env, h => by
    cases ks with
    | nil => exact ⟨rfl, rfl, rfl, rfl⟩
    | cons _ _ => cases h
  | ⟨nm, v, p⟩ :: r, ks, pos, env, h => by
    cases ks with
    | nil => cases h
    | cons y t =>
      have h' : nm :: kwNames r = some y :: t.map some := h
      obtain ⟨h1, h2⟩ := List.cons.inj h'
      subst h1
      obtain ⟨q1, q2, q3, q4⟩ := kw_names (pos := pos) (env := env) h2
      refine ⟨?_, ?_, ?_, by rw [List.length_cons, List.length_cons, q4]⟩
      · show ((true : Bool) && (backToKw pos (keywordEach r env)).all (·.1.isSome)) = true
        rw [q1]; rfl
      · show ((false : Bool) || (backToKw pos (keywordEach r env)).any (·.1.isNone)) = false
        rw [q2]; rfl
      · show y :: (backToKw pos (keywordEach r env)).filterMap (·.1) = y :: t
        rw [q3]

def esM (Φ : Nat → List PV → Sto → Option (PV × Sto)) : Es → List (Env' → Sto → Option (PV × Sto))
  | .nil => []
  | .cons e es => evE Φ e :: esM Φ es
theorem evB_esM {Φ : Nat → List PV → Sto → Option (PV × Sto)} (q : Bool) : ∀ es : Es, evB Φ q es = evBo q (esM Φ es)
  | .nil => rfl
  | .cons e es => by
    funext ρ μ
    simp only [evB, esM, evBo, evB_esM q es]
theorem PTs.le {e : List Expr} {t t' : TT} (h : PTs X e t) (i : ∀ σ H Q, t' σ H Q → t σ H Q) : PTs X e t' := ⟨fun pins s σ H Q I q => h.run pins s σ H Q I (i σ H Q q)⟩
theorem PK.le {e : List Keyword} {t t' : TA} (h : PK X e t) (i : ∀ σ H Q, t' σ H Q → t σ H Q) : PK X e t' := ⟨fun pos pins s σ H Q I q => h.run pos pins s σ H Q I (i σ H Q q)⟩
theorem pts_yes {Φ : Nat → List PV → Sto → Option (PV × Sto)} : PTs X [] (tMB X.K fun ρ μ => testB (evB Φ true .nil ρ μ)) := PTs.le pts_nil fun σ H Q h => by
  obtain ⟨ι, μ, ρ, b, μ', r, e, q⟩ := h
  obtain ⟨rfl, rfl⟩ := Prod.mk.inj (Option.some.inj (show some (true, μ) = some (b, μ') from e))
  exact q ι H r.st .refl
theorem pts_test {Φ : Nat → List PV → Sto → Option (PV × Sto)} {c : Expr} {e : E} (h : QT X c (evE Φ e)) : PTs X [c] (tMB X.K fun ρ μ => testB (evB Φ true (.cons e .nil) ρ μ)) := PTs.le (pts_one h) fun σ H Q h => by
  obtain ⟨ι, μ, ρ, b, μ', r, e0, q⟩ := h
  have e1 := testB_eq e0
  rw [evB_esM] at e1
  exact ⟨ι, μ, ρ, b, μ', r, testB_of (last_bo e1), q⟩
theorem pk_nilM {Φ : Nat → List PV → Sto → Option (PV × Sto)} : PK X [] (tMA X.K (evEs Φ .nil)) := PK.le pk_nil fun σ H Q h => by
  obtain ⟨ι, μ, ρ, p, μ', r, e, q⟩ := h
  obtain ⟨rfl, rfl⟩ := Prod.mk.inj (Option.some.inj e)
  exact q ι H [] r.st .refl rfl
theorem pk_consM {Φ : Nat → List PV → Sto → Option (PV × Sto)} {e : E} {es : Es} {kw : Keyword} {kws : List Keyword} (ha : QE X kw.value (evE Φ e)) (hr : PK X kws (tMA X.K (evEs Φ es))) : PK X (kw :: kws) (tMA X.K (evEs Φ (.cons e es))) := by
  obtain ⟨nm, v, p⟩ := kw
  refine PK.le (pk_cons ha hr) fun σ H Q h => ?_
  obtain ⟨ι, μ, ρ, p, μ', r, e, q⟩ := h
  simp only [evEs] at e
  obtain ⟨x, μ1, e1, e⟩ := seqO_eq e
  obtain ⟨xs, μ2, e2, e⟩ := seqO_eq e
  obtain ⟨rfl, rfl⟩ := Prod.mk.inj (Option.some.inj e)
  refine tM_go r e1 fun ι1 H1 v1 r1 x1 l1 => tMA_go r1 e2 fun ι2 H2 v2 r2 x2 l2 => ?_
  exact q ι2 H2 _ r2.st (x1.trans x2) ⟨v1, v2, rfl, l1.ext r1.st x2, l2⟩

theorem blk_g (G : Good X M tb T k) {scope : Scope} {t : Tg} {tg : Expr} (h : mTg M.N (M.inn scope).ok t tg = true) : Blk X scope fun Y => PG Y tg (gM X.K t) := fun s H C cl fp => by
  have G2 : Good (X.blk s H scope (compEnvC scope cl C X.env) fp) (M.inn scope) tb T k := G.inn
  exact (g_ok G2.calm G2.nd G2.ok t tg (by rw [G2.N]; exact h)).1

mutual
theorem e_ok : ∀ (e : E) (x : Expr) (M : Mi) (X : Cx), Good X M tb T k → mE tb M e x = true → Q2 X x (evE (runT T k) e)
  | .var i, x, M, X, G, h => by
    cases x <;> simp only [mE] at h <;> first | (cases h; done) | skip
    simp only [Bool.and_eq_true, decide_eq_true_eq] at h
    obtain ⟨d1, d2, d3⟩ := nb_eq h.2
    exact q2_plain (q_var (by rw [G.N]; exact h.1.1) (G.vis h.1.2) d1 d2) rfl rfl
  | .cst p, x, M, X, G, h => by
    cases x <;> simp only [mE] at h <;> first | (cases h; done) | skip
    exact q2_plain (q_cst h) rfl rfl
  | .glo g p, x, M, X, G, h => by
    cases x <;> simp only [mE] at h <;> first | (cases h; done) | skip
    simp only [Bool.and_eq_true, decide_eq_true_eq] at h
    obtain ⟨⟨⟨rfl, h1⟩, h2⟩, h3⟩ := h
    obtain ⟨d1, d2, d3⟩ := nb_eq h2
    obtain ⟨u, v, c1, c2, c3⟩ := G.g.con _ h3
    exact q2_plain (q_glo (G.gl h1) c1 c2 (fun ι H => c3 ι H) d1) rfl rfl
  | .bin o a b, x, M, X, G, h => by
    cases x <;> simp only [mE] at h <;> first | (cases h; done) | skip
    simp only [Bool.and_eq_true, decide_eq_true_eq] at h
    obtain ⟨⟨rfl, h1⟩, h2⟩ := h
    exact q2_plain (q_bin (op_binP _) (e_ok a _ M X G h1).1 (e_ok b _ M X G h2).1) rfl rfl
  | .neg a, x, M, X, G, h => by
    simp only [mE] at h
    split at h
    · exact q2_plain (q_neg (e_ok a _ M X G h).1) rfl rfl
    · cases h
  | .cmp o a b, x, M, X, G, h => by
    simp only [mE] at h
    split at h
    · simp only [Bool.and_eq_true, decide_eq_true_eq, Bool.not_eq_true'] at h
      obtain ⟨⟨⟨rfl, h0⟩, h1⟩, h2⟩ := h
      have ha := (e_ok a _ M X G h1).1
      have hb := (e_ok b _ M X G h2).1
      exact ⟨q_cmp (op_cmpP G.u _) ha hb h0, qt_cmp (op_cmpP G.u _) ha hb h0⟩
    · cases h
  | .chn o o2 a b c, x, M, X, G, h => by
    simp only [mE] at h
    split at h
    · simp only [Bool.and_eq_true, decide_eq_true_eq, Bool.not_eq_true'] at h
      obtain ⟨⟨⟨⟨⟨rfl, rfl⟩, h0⟩, h1⟩, h2⟩, h3⟩ := h
      have ha := (e_ok a _ M X G h1).1
      have hb := (e_ok b _ M X G h2).1
      have hc := (e_ok c _ M X G h3).1
      exact ⟨q_chn (op_cmpP G.u _) (op_cmpP G.u _) ha hb hc h0, qt_chn (op_cmpP G.u _) (op_cmpP G.u _) ha hb hc h0⟩
    · cases h
  | .bo q es, x, M, X, G, h => by
    simp only [mE] at h
    split at h
    · simp only [Bool.and_eq_true, decide_eq_true_eq] at h
      obtain ⟨rfl, h1⟩ := h
      obtain ⟨r1, r2⟩ := bs_ok q es _ _ M X G h1
      exact ⟨r1, r2.pt⟩
    · cases h
  | .nt a, x, M, X, G, h => by
    simp only [mE] at h
    split at h
    · obtain ⟨r1, r2⟩ := e_ok a _ M X G h
      exact ⟨q_nt r1, qt_nt r2⟩
    · cases h
  | .ite c a b, x, M, X, G, h => by
    cases x <;> simp only [mE] at h <;> first | (cases h; done) | skip
    simp only [Bool.and_eq_true] at h
    obtain ⟨⟨h1, h2⟩, h3⟩ := h
    have hc := e_ok c _ M X G h1
    have ha := e_ok a _ M X G h2
    have hb := e_ok b _ M X G h3
    exact ⟨q_ite hc.2 ha.1 hb.1, qt_ite hc.2 ha.2 hb.2⟩
  | .tup es, x, M, X, G, h => by
    cases x <;> simp only [mE] at h <;> first | (cases h; done) | skip
    simp only [Bool.and_eq_true] at h
    exact q2_plain (q_tup (es_ok es _ M X G h.2 h.1)) rfl rfl
  | .lst es, x, M, X, G, h => by
    cases x <;> simp only [mE] at h <;> first | (cases h; done) | skip
    simp only [Bool.and_eq_true] at h
    exact q2_plain (q_lst (es_ok es _ M X G h.2 h.1)) rfl rfl
  | .ix a b, x, M, X, G, h => by
    cases x <;> simp only [mE] at h <;> first | (cases h; done) | skip
    simp only [Bool.and_eq_true] at h
    exact q2_plain (q_ix (e_ok a _ M X G h.1.2).1 (e_ok b _ M X G h.2).1 (plainIx_eq h.1.1)) rfl rfl
  | .slL a lo, x, M, X, G, h => by
    simp only [mE] at h
    split at h
    · simp only [Bool.and_eq_true] at h
      exact q2_plain (q_slL (e_ok a _ M X G h.1).1 (e_ok lo _ M X G h.2).1) rfl rfl
    · cases h
  | .slU a hi, x, M, X, G, h => by
    simp only [mE] at h
    split at h
    · simp only [Bool.and_eq_true] at h
      exact q2_plain (q_slU (e_ok a _ M X G h.1).1 (e_ok hi _ M X G h.2).1) rfl rfl
    · cases h
  | .slB a lo hi, x, M, X, G, h => by
    simp only [mE] at h
    split at h
    · simp only [Bool.and_eq_true] at h
      exact q2_plain (q_slB (e_ok a _ M X G h.1.1).1 (e_ok lo _ M X G h.1.2).1 (e_ok hi _ M X G h.2).1) rfl rfl
    · cases h
  | .call j es, x, M, X, G, h => by
    simp only [mE] at h
    split at h
    · rename_i n p xs pos
      simp only [Bool.and_eq_true, decide_eq_true_eq] at h
      obtain ⟨⟨⟨⟨h1, h2⟩, h3⟩, h4⟩, h5⟩ := h
      obtain ⟨d1, d2, d3⟩ := nb_eq h2
      obtain ⟨d, f, fd, ps, f1, f2, f3, f4, f5, _⟩ := G.g.fn _ h3
      cases xs with
      | nil =>
        cases es with
        | nil => exact q2_plain (q_call0 (run_len f1) f5 G.room G.gd (G.gl h1) f2 f3 f4 d1) rfl rfl
        | cons _ _ => simp [mEs] at h5
      | cons y ys => exact q2_plain (q_call (run_len f1) f5 G.room G.gd (G.gl h1) f2 f3 f4 (es_ok es _ M X G h5 h4) d1 h4) rfl rfl
    · cases h
  | .callK j perm n es, x, M, X, G, h => by
    simp only [mE] at h
    split at h
    · simp only [Bool.and_eq_true, decide_eq_true_eq, List.any_eq_true] at h
      obtain ⟨⟨⟨⟨h1, h2⟩, h3⟩, ⟨⟨n', ks, pm⟩, hq, e1, e2, e3⟩⟩, h5⟩ := h
      obtain ⟨d1, d2, d3⟩ := nb_eq h2
      obtain ⟨d, f, fd, ps, f1, f2, f3, f4, f5, f6⟩ := G.g.fn _ h3
      simp only at e1 e2 e3
      subst e1
      subst e3
      obtain ⟨k1, k2, k3, k4⟩ := kw_names (pos := default) (env := X.env) e2
      refine q2_plain (q_callK (run_len f1) f5 G.room G.gd (G.gl h1) f2 f3 (f6 _ hq rfl) (ks_ok es _ M X G h5) d1 (kw_names e2).1 (kw_names e2).2.1 (kw_names e2).2.2.1 fun ρ μ r hr => ?_) rfl rfl
      rw [evEs_len es ρ μ r _ M h5 hr, k4]
    · cases h
  | .bi b es, x, M, X, G, h => by
    by_cases hb : b = .sset
    · subst hb
      simp only [mE] at h
      split at h
      · simp only [Bool.and_eq_true, decide_eq_true_eq] at h
        obtain ⟨⟨⟨⟨⟨⟨⟨rfl, rfl⟩, g1⟩, g2⟩, f1⟩, f2⟩, h1⟩, h2⟩ := h
        cases es with
        | nil => simp [mEs] at h2
        | cons e r =>
          simp only [mEs, Bool.and_eq_true] at h2
          cases r with
          | nil =>
            refine q2_plain (q_sset G.calm (G.gl g1) (G.fr f1) (G.gl g2) (G.fr f2) (e_ok e _ M X G h2.1).1 h1) rfl ?_
            funext ρ μ
            simp only [evE, evEs]
            rfl
          | cons _ _ => simp [mEs] at h2
      · cases h
    · have h' : ∃ n p y ys pos, x = .Call (.Name n p) (y :: ys) [] pos ∧ (decide (n = biNm b) && M.gl n && nb n && tb.frB n && bltB n (biVal b) && (y :: ys).all notStar && mEs tb M es (y :: ys)) = true := by
        cases b <;> first
          | exact absurd rfl hb
          | (simp only [mE] at h
             split at h
             · exact ⟨_, _, _, _, _, rfl, h⟩
             · cases h)
      clear h
      obtain ⟨n, p, y, ys, pos, rfl, h⟩ := h'
      simp only [Bool.and_eq_true, decide_eq_true_eq] at h
      obtain ⟨⟨⟨⟨⟨⟨rfl, h1⟩, h2⟩, h3⟩, h4⟩, h5⟩, h6⟩ := h
      obtain ⟨d1, d2, d3⟩ := nb_eq h2
      exact q2_plain (q_blt (bi_ok G.calm G.gd G.u b hb) (G.gl h1) (G.fr h3) h4 (es_ok es _ M X G h6 (by simpa using h5)) d3 d1 (by simpa using h5)) rfl rfl
  | .mxd a d, x, M, X, G, h => by
    simp only [mE] at h
    split at h
    · simp only [Bool.and_eq_true, decide_eq_true_eq] at h
      obtain ⟨⟨⟨⟨⟨⟨rfl, rfl⟩, h1⟩, h2⟩, h3⟩, h4⟩, h5⟩ := h
      exact q2_plain (q_mxd G.calm G.u (G.gl h1) (G.fr h2) (e_ok a _ M X G h4).1 (e_ok d _ M X G h5).1 h3) rfl rfl
    · cases h
  | .isi a T', x, M, X, G, h => by
    simp only [mE] at h
    split at h
    · simp only [Bool.and_eq_true, decide_eq_true_eq] at h
      obtain ⟨⟨⟨⟨⟨⟨⟨⟨⟨rfl, rfl⟩, h1⟩, h2⟩, h3⟩, h4⟩, h5⟩, h6⟩, h7⟩, h8⟩ := h
      obtain ⟨d1, d2, d3⟩ := nb_eq h5
      exact q2_plain (q_isi (G.gl h1) (G.fr h2) (G.gl h3) (G.fr h4) h6 d3 d1 (e_ok a _ M X G h8).1 h7) rfl rfl
    · cases h
  | .me m o es, x, M, X, G, h => by
    simp only [mE] at h
    split at h
    · simp only [Bool.and_eq_true, decide_eq_true_eq] at h
      obtain ⟨⟨⟨⟨h0, h1⟩, h2⟩, h3⟩, h4⟩ := h
      cases es with
      | nil => exact q2_plain (q_me0 h1 (e_ok o _ M X G h4).1 h2 h3) rfl rfl
      | cons _ _ => cases h0
    · simp only [Bool.and_eq_true, decide_eq_true_eq] at h
      obtain ⟨⟨⟨⟨⟨h1, h2⟩, h3⟩, h4⟩, h5⟩, h6⟩ := h
      exact q2_plain (q_me h1 (e_ok o _ M X G h5).1 (es_ok es _ M X G h6 (by simp [h4])) h2 h3 h4) rfl rfl
    · cases h
  | .lc own elt tg it cs, x, M, X, G, h => by
    simp only [mE] at h
    split at h
    · simp only [Bool.and_eq_true, decide_eq_true_eq] at h
      obtain ⟨⟨⟨⟨⟨⟨⟨⟨rfl, h1⟩, h2⟩, h3⟩, h4⟩, h5⟩, h6⟩, h7⟩, h8⟩ := h
      have bo := blkOk_by h1
      rw [← G.N, ← G.sc] at bo
      refine q2_plain (q_lc G.calm G.nd (i_ok it _ _ M X G h5) bo (blk_g G h2) (fun s H C cl fp => ts_ok cs _ _ _ G.inn h8 h7) (fun s H C cl fp => (e_ok elt _ _ _ G.inn h6).1) (notSet_eq h4) (subB_eq h3)) rfl rfl
    · cases h
  | .lc2 own own1 elt tg it tg1 it1, x, M, X, G, h => by
    simp only [mE] at h
    split at h
    · simp only [Bool.and_eq_true, decide_eq_true_eq] at h
      obtain ⟨⟨⟨⟨⟨⟨⟨⟨⟨⟨⟨⟨rfl, rfl⟩, h1⟩, h2⟩, h2b⟩, h3⟩, h3b⟩, h3c⟩, h4⟩, h4b⟩, h5⟩, h5b⟩, h6⟩ := h
      have bo := blkOk_by h1
      rw [← G.N, ← G.sc] at bo
      refine q2_plain (q_lc2 G.calm G.nd (i_ok it _ _ M X G h5) bo (subB_eq h3c) (blk_g G h2) (fun s H C cl fp => i_ok it1 _ _ _ _ G.inn h5b) (blk_g G h2b) (fun s H C cl fp => (e_ok elt _ _ _ G.inn h6).1) (notSet_eq h4) (fun env => notSet_eq h4b) (subB_eq h3) (subB_eq h3b)) rfl rfl
    · cases h
  | .dc own kx elt tg it cs, x, M, X, G, h => by
    simp only [mE] at h
    split at h
    · simp only [Bool.and_eq_true, decide_eq_true_eq] at h
      obtain ⟨⟨⟨⟨⟨⟨⟨⟨⟨rfl, h1⟩, h2⟩, h3⟩, h4⟩, h5⟩, h6⟩, h6b⟩, h7⟩, h8⟩ := h
      have bo := blkOk_by h1
      rw [← G.N, ← G.sc] at bo
      refine q2_plain (q_dc G.calm G.nd (i_ok it _ _ M X G h5) bo (blk_g G h2) (fun s H C cl fp => ts_ok cs _ _ _ G.inn h8 h7) (fun s H C cl fp => (e_ok kx _ _ _ G.inn h6).1) (fun s H C cl fp => (e_ok elt _ _ _ G.inn h6b).1) (notSet_eq h4) (subB_eq h3)) rfl rfl
    · cases h
theorem es_ok : ∀ (es : Es) (xs : List Expr) (M : Mi) (X : Cx), Good X M tb T k → mEs tb M es xs = true → (xs.all notStar) = true → QA X xs (evEs (runT T k) es)
  | .nil, xs, M, X, G, h, _ => by
    cases xs with
    | nil => exact qa_nil
    | cons _ _ => simp [mEs] at h
  | .cons e es, xs, M, X, G, h, hs => by
    cases xs with
    | nil => simp [mEs] at h
    | cons x r =>
      simp only [mEs, Bool.and_eq_true] at h
      rw [List.all_cons, Bool.and_eq_true] at hs
      exact qa_cons hs.1 (e_ok e x M X G h.1).1 (es_ok es r M X G h.2 hs.2)
theorem bs_ok : ∀ (q : Bool) (es : Es) (x : Expr) (xs : List Expr) (M : Mi) (X : Cx) {pos : Pos}, Good X M tb T k → mEs tb M es (x :: xs) = true → QE X (.BoolOp (bop q) (x :: xs) pos) (evB (runT T k) q es) ∧ QW X (.BoolOp (bop q) (x :: xs) pos) (evB (runT T k) q es)
  | q, .nil, x, xs, M, X, pos, G, h => by simp [mEs] at h
  | q, .cons e es, x, xs, M, X, pos, G, h => by
    simp only [mEs, Bool.and_eq_true] at h
    obtain ⟨r1, r2⟩ := e_ok e x M X G h.1
    cases xs with
    | nil =>
      cases es with
      | nil => exact ⟨q_bo1 r1, qw_bo1 r2⟩
      | cons _ _ => simp [mEs] at h
    | cons y ys =>
      obtain ⟨s1, s2⟩ := bs_ok q es y ys M X (pos := pos) G h.2
      have ev : ∀ es : Es, evB (runT T k) q es = evBo q (esM (runT T k) es) := evB_esM q
      have e1 : evB (runT T k) q (.cons e es) = evBo q (evE (runT T k) e :: esM (runT T k) es) := by rw [ev]; rfl
      rw [ev] at s1 s2
      rw [e1]
      exact ⟨q_bo2 r1 s1, qw_bo2 r2 s2⟩
theorem ts_ok : ∀ (es : Es) (xs : List Expr) (M : Mi) (X : Cx), Good X M tb T k → mEs tb M es xs = true → xs.length < 2 → PTs X xs (tMB X.K fun ρ μ => testB (evB (runT T k) true es ρ μ))
  | .nil, xs, M, X, G, h, _ => by
    cases xs with
    | nil => exact pts_yes
    | cons _ _ => simp [mEs] at h
  | .cons e es, xs, M, X, G, h, hl => by
    cases xs with
    | nil => simp [mEs] at h
    | cons x r =>
      cases r with
      | cons _ _ => simp at hl; omega
      | nil =>
        simp only [mEs, Bool.and_eq_true] at h
        cases es with
        | cons _ _ => simp [mEs] at h
        | nil => exact pts_test (e_ok e x M X G h.1).2
theorem ks_ok : ∀ (es : Es) (xs : List Keyword) (M : Mi) (X : Cx), Good X M tb T k → mKs tb M es xs = true → PK X xs (tMA X.K (evEs (runT T k) es))
  | .nil, xs, M, X, G, h => by
    cases xs with
    | nil => exact pk_nilM
    | cons _ _ => simp [mKs] at h
  | .cons e es, xs, M, X, G, h => by
    cases xs with
    | nil => simp [mKs] at h
    | cons x r =>
      simp only [mKs, Bool.and_eq_true] at h
      exact pk_consM (e_ok e x.value M X G h.1).1 (ks_ok es r M X G h.2)
theorem i_ok : ∀ (it : It') (tg x : Expr) (M : Mi) (X : Cx), Good X M tb T k → mI tb M it tg x = true → QI X tg x (evI (runT T k) it)
  | .val e, tg, x, M, X, G, h => by
    simp only [mI] at h
    exact qi_val (e_ok e x M X G h).1
  | .en e, tg, x, M, X, G, h => by
    simp only [mI] at h
    split at h
    · simp only [Bool.and_eq_true, decide_eq_true_eq] at h
      obtain ⟨⟨⟨⟨rfl, h1⟩, h2⟩, h3⟩, h4⟩ := h
      exact qi_en (G.gl h1) (G.fr h2) h3 (e_ok e _ M X G h4).1
    · cases h
  | .zp a b, tg, x, M, X, G, h => by
    simp only [mI] at h
    split at h
    · simp only [Bool.and_eq_true, decide_eq_true_eq] at h
      obtain ⟨⟨⟨⟨⟨⟨rfl, h1⟩, h2⟩, h3⟩, h4⟩, h5⟩, h6⟩ := h
      exact qi_zp (G.gl h1) (G.fr h2) h3 h4 (e_ok a _ M X G h5).1 (e_ok b _ M X G h6).1
    · cases h
  | .rg a, tg, x, M, X, G, h => by
    simp only [mI] at h
    split at h
    · simp only [Bool.and_eq_true, decide_eq_true_eq] at h
      obtain ⟨⟨⟨⟨rfl, h1⟩, h2⟩, h3⟩, h4⟩ := h
      exact qi_rg (G.gl h1) (G.fr h2) h3 (e_ok a _ M X G h4).1
    · cases h
end
end
end Pv
end

section
set_option Elab.async false
set_option linter.all false
set_option maxRecDepth 100000
/-! Pv: the check for statements; defs. -/
namespace Pv
open PySem PySem.Spec PyProof.Rows L2

def isComp : Expr → Bool
  | .ListComp _ _ _ _ => true
  | .SetComp _ _ _ _ => true
  | .DictComp _ _ _ _ _ => true
  | _ => false
/-- name = comprehension on one line: the name a plain local -/
def sameLine (sc : Scope) : Expr → Expr → Bool
  | .Name x px, .ListComp _ _ s pos => (match sc.names.lookup x with
    | some .local => true
    | _ => false) && (px.line == pos.line) && !(s.names.any fun (n, k) => n == x && (k == .local || k == .cell))
  | _, _ => false
def notSame (sc : Scope) (tg e : Expr) : Bool := match tg with
  | .Name x px => !isComp e || !(px.line == e.pos.line) || (match sc.names.lookup x with
    | some .local => false
    | _ => true)
  | _ => true
def plainLoc (sc : Scope) (line : Nat) : Expr → Bool
  | .Name id p => (match sc.names.lookup id with
    | some .local => true
    | _ => false) && (p.line == line)
  | _ => false
/-- the stores are not swapped -/
def noSwap (sc : Scope) (tg e : Expr) : Bool := match tg, e with
  | .Tuple ts _ _, .Tuple vs _ _ => !(ts.all (plainLoc sc ((ts.head?.map (·.pos.line)).getD 0)))
  | .List _ _, .Tuple _ _ _ => false
  | _, _ => true
/-- two stores that are -/
def pairSwap (sc : Scope) (tg e : Expr) : Bool := match tg, e with
  | .Tuple [.Name x px, .Name y py] _ _, .Tuple [a, b] _ _ => plainLoc sc px.line (.Name x px) && plainLoc sc px.line (.Name y py) && decide (x ≠ y) && notStar a && notStar b &&
      !(foldedForSure 8 a && foldedForSure 8 b) && !(constantsAlone 8 a && constantsAlone 8 b)
  | _, _ => false
section
variable {X : Cx} {sc : Scope}
theorem swaps_false {e : Expr} {t : Option Expr} {l : Nat} {env : Env} (h : isComp e = false) : swapsWith e t l env = pure false := by
  cases e <;> first | rfl | cases h
theorem swaps_not {tg e : Expr} {l : Nat} {env : Env} (hs : env.scope = sc) (h : notSame sc tg e = true) : swapsWith e (some tg) l env = pure false := by
  cases tg with
  | Name x px =>
    simp only [notSame, Bool.or_eq_true, Bool.not_eq_true'] at h
    rcases h with (h | h) | h
    · exact swaps_false h
    · cases e <;> first
        | rfl
        | (simp only [swapsWith, Expr.pos] at h ⊢; simp only [h, Bool.and_false, Bool.false_and])
    · have hk : (env.kindOf x == some .local) = false := by
        show (env.scope.names.lookup x == some .local) = false
        rw [hs]
        split at h
        · cases h
        · rename_i hn
          cases q : sc.names.lookup x with
          | none => rfl
          | some k =>
            cases k <;> first | rfl | exact absurd q hn
      cases e <;> first
        | rfl
        | (simp only [swapsWith, hk, Bool.and_false, Bool.false_and])
  | _ => cases e <;> rfl
theorem plainLoc_eq {l : Nat} {e : Expr} (h : plainLoc sc l e = true) : ∃ x p, e = .Name x p ∧ sc.names.lookup x = some .local ∧ (p.line == l) = true := by
  unfold plainLoc at h
  split at h
  · rename_i id p
    rw [Bool.and_eq_true] at h
    refine ⟨id, p, rfl, ?_, h.2⟩
    have h1 := h.1
    split at h1
    · assumption
    · cases h1
  · cases h
theorem swapped_none {tg e : Expr} {env : Env} (hs : env.scope = sc) (h : noSwap sc tg e = true) : swappedStores [tg] e env = pure none := by
  cases tg with
  | Tuple ts k p =>
    cases e with
    | Tuple vs k' p' =>
      have key : ∀ f : Expr → Option Str, (∀ e, (f e).isSome = true → plainLoc sc ((ts.head?.map (·.pos.line)).getD 0) e = true) → (ts.filterMap f).length ≠ ts.length := fun f hf z => by
        have z2 := List.filterMap_length_eq_length.mp z
        have all : ts.all (plainLoc sc ((ts.head?.map (·.pos.line)).getD 0)) = true := List.all_eq_true.mpr fun e he => hf e (z2 e he)
        simp only [noSwap, all] at h
        cases h
      unfold swappedStores
      dsimp only
      split
      · rfl
      split
      · rfl
      rw [if_pos]
      rw [Bool.or_eq_true]
      refine .inl (bne_iff_ne.mpr (key _ fun e he => ?_))
      cases e <;> simp only [Option.isSome_none, Bool.false_eq_true] at he
      rename_i id p
      split at he
      · rename_i hc
        rw [Bool.and_eq_true] at hc
        unfold plainLoc
        rw [Bool.and_eq_true]
        refine ⟨?_, hc.2⟩
        have hl : sc.names.lookup id = some .local := by
          rw [← hs]
          exact eq_of_beq hc.1
        rw [hl]
      · cases he
    | _ => rfl
  | List ts p => cases e <;> first | rfl | cases h
  | _ => rfl
theorem swapped_pair {x y : Str} {px py p p' : Pos} {k k' : Nat} {a b : Expr} {env : Env} (hk : env.scope.kind = .function) (hs : env.scope = sc) (h : pairSwap sc (.Tuple [.Name x px, .Name y py] k p) (.Tuple [a, b] k' p') = true) :
    swappedStores [.Tuple [.Name x px, .Name y py] k p] (.Tuple [a, b] k' p') env = pure (some [x, y]) ∧ sc.names.lookup x = some .local ∧ sc.names.lookup y = some .local ∧ x ≠ y := by
  simp only [pairSwap, Bool.and_eq_true, Bool.not_eq_true', decide_eq_true_eq] at h
  obtain ⟨⟨⟨⟨⟨⟨h1, h2⟩, h3⟩, h4⟩, h5⟩, h6⟩, h7⟩ := h
  obtain ⟨x', p1, e1, l1, q1⟩ := plainLoc_eq h1
  obtain ⟨y', p2, e2, l2, q2⟩ := plainLoc_eq h2
  injection e1 with e1 e1'
  injection e2 with e2 e2'
  subst e1 e1' e2 e2'
  refine ⟨?_, l1, l2, h3⟩
  have k1 : (env.kindOf x == some NameKind.local) = true := by
    show (env.scope.names.lookup x == some NameKind.local) = true
    rw [hs, l1]; rfl
  have k2 : (env.kindOf y == some NameKind.local) = true := by
    show (env.scope.names.lookup y == some NameKind.local) = true
    rw [hs, l2]; rfl
  have bk : (env.blockKind != ScopeKind.function) = false := by
    unfold Env.blockKind
    rw [hk]; rfl
  unfold swappedStores
  dsimp only
  rw [if_neg (by rw [bk]; simp), if_neg]
  rotate_left
  · rw [Bool.not_eq_true, List.any_cons, List.any_cons, List.any_nil, Bool.or_false, Bool.or_eq_false_iff]
    constructor
    · cases a <;> first | rfl | cases h4
    · cases b <;> first | rfl | cases h5
  have t1 : (env.kindOf x == some NameKind.local && px.line == px.line) = true := by rw [k1, q1]; rfl
  have t2 : (env.kindOf y == some NameKind.local && py.line == px.line) = true := by rw [k2, q2]; rfl
  simp only [List.filterMap_cons, List.filterMap_nil, List.head?_cons, Option.map_some, Option.getD_some, Expr.pos, t1, t2, if_true]
  have nd : [x, y].eraseDups = [x, y] := by
    have : (y == x) = false := beq_eq_false_iff_ne.mpr (Ne.symm h3)
    simp [List.eraseDups_cons, this]
  rw [nd, if_neg (by simp), if_neg (by simpa using h6), if_neg (by simpa using h7)]
end
end Pv
end

section
set_option Elab.async false
set_option linter.all false
set_option maxRecDepth 100000
/-! Pv: statements, defs, all the defs of a text. -/
namespace Pv
open PySem PySem.Spec PyProof.Rows L2

section
variable (tb : Tb)
def kwE : E → Bool
  | .lc _ _ _ _ _ => true
  | .lc2 _ _ _ _ _ _ _ => true
  | _ => false
mutual
def mS (M : Mi) : S → Stmt → Bool
  | .asg tg e, st => match st with
    | .Assign [tg'] e' _ => mE tb M e e' && plainTg tg' && mTg M.N M.ok tg tg' && ((noSwap M.sc tg' e' && notSame M.sc tg' e') || pairSwap M.sc tg' e' || (kwE e && sameLine M.sc tg' e'))
    | _ => false
  | .sub o i v, st => match st with
    | .Assign [.Subscript o' i' _] v' _ => plainIx i' && mE tb M o o' && mE tb M i i' && mE tb M v v'
    | _ => false
  | .ex e, st => match st with
    | .Expr e' _ => !isComp e' && mE tb M e e'
    | _ => false
  | .ret e, st => match st with
    | .Return (some e') _ => mE tb M e e'
    | .Return none _ => (match e with
      | .cst .non => true
      | _ => false)
    | _ => false
  | .iff c a b, st => match st with
    | .If c' a' b' _ => mE tb M c c' && mSs M a a' && mSs M b b'
    | _ => false
  | .wh c b, st => match st with
    | .While c' b' [] _ => mE tb M c c' && mSs M b b'
    | _ => false
  | .fo tg it b, st => match st with
    | .For tg' it' b' [] _ => mTg M.N M.ok tg tg' && notSet it' && mI tb M it tg' it' && mSs M b b'
    | _ => false
  | .aug i o e, st => match st with
    | .AugAssign (.Name x _) o' e' _ => decide (M.N[i]? = some x) && M.ok x && decide (o' = o) && (decide (o = .Add) || decide (o = .Sub)) && mE tb M e e'
    | _ => false
  | .stop, _ => true
  | .cont, st => match st with
    | .Continue _ => true
    | _ => false
  | .brk, st => match st with
    | .Break _ => true
    | _ => false
def mSs (M : Mi) : Ss → List Stmt → Bool
  | .nil, l => match l with
    | [] => true
    | _ => false
  | .cons s r, l => match l with
    | st :: t => mS M s st && mSs M r t
    | [] => false
end
end
section
variable {X : Cx} {M : Mi} {tb : Tb} {T : List Fd} {k : Nat}
theorem qs_cg {x : Stmt} {m m' : Env' → Sto → Option Out} (h : QS X x m) (e : m' = m) : QS X x m' := by rw [e]; exact h
theorem mTg_nm {N : List Str} {ok : Str → Bool} {tg : Tg} {x : Str} {p : Pos} (h : mTg N ok tg (.Name x p) = true) : ∃ i, tg = .nm i ∧ N[i]? = some x ∧ ok x = true := by
  cases tg with
  | nm i =>
    simp only [mTg, Bool.and_eq_true, decide_eq_true_eq] at h
    exact ⟨i, rfl, h.1, h.2⟩
  | tp ts => simp [mTg] at h
theorem sameLine_eq {sc : Scope} {tg e : Expr} {env : Env} {l : Nat} (hs : env.scope = sc) (hk : env.scope.kind = .function) (h : sameLine sc tg e = true) : ∃ x px elt gs s pos, tg = .Name x px ∧ e = .ListComp elt gs s pos ∧ env.scope.names.lookup x = some .local ∧
    swapsWith (.ListComp elt gs s pos) (some (.Name x px)) l env = pure true := by
  unfold sameLine at h
  split at h
  · rename_i x px elt gs s pos
    rw [Bool.and_eq_true, Bool.and_eq_true, Bool.not_eq_true'] at h
    have hl : env.scope.names.lookup x = some .local := by
      rw [hs]
      have h1 := h.1.1
      split at h1
      · assumption
      · cases h1
    exact ⟨x, px, elt, gs, s, pos, rfl, rfl, hl, sw_true hk hl h.1.2 h.2⟩
  · cases h
theorem s_same {i : Nat} {x : Str} {px spos : Pos} {e : E} {e' : Expr} (G : Good X M tb T k) (hk : X.env.scope.kind = .function) (he : mE tb M e e' = true) (hi : X.N[i]? = some x) (kw : kwE e = true) (hl : sameLine M.sc (.Name x px) e' = true) :
    QS X (.Assign [.Name x px] e' spos) (fun ρ μ => seqO (evE (runT T k) e ρ μ) fun x μ1 => (bindT (.nm i) x ρ).map fun ρ1 => .nx ρ1 μ1) := by
  obtain ⟨x', px', elt', gs, s, pos, e1, rfl, hloc, hsw⟩ := sameLine_eq (l := spos.line) G.sc hk hl
  injection e1 with e1 e2
  subst e1 e2
  cases e with
  | lc own elt tg it cs =>
    simp only [mE] at he
    split at he
    · rename_i q1 q2 q3
      simp only [Bool.and_eq_true, decide_eq_true_eq] at he
      obtain ⟨⟨⟨⟨⟨⟨⟨⟨rfl, h1⟩, h2⟩, h3⟩, h4⟩, h5⟩, h6⟩, h7⟩, h8⟩ := he
      have bo := blkOk_by h1
      rw [← G.N, ← G.sc] at bo
      injection q3 with q4 q5 q6 q7
      subst q4 q5 q6 q7
      refine PS.le (ps_setLc (te := tM X.K (evE (runT T k) elt)) (tt := tMB X.K fun ρ μ => testB (evB (runT T k) true cs ρ μ)) G.calm G.nd hi hloc hsw (i_ok it _ _ M X G h5) bo (blk_g G h2) (fun s H C cl fp => ts_ok cs _ _ _ G.inn h8 h7) (fun s H C cl fp => (e_ok elt _ _ _ G.inn h6).1) (notSet_eq h4)) fun D σ H h => ?_
      exact lc_le (subB_eq h3) (gName_of h)
    · cases he
  | lc2 own own1 elt tg it tg1 it1 =>
    simp only [mE] at he
    split at he
    · rename_i q1 q2 q3
      simp only [Bool.and_eq_true, decide_eq_true_eq] at he
      obtain ⟨⟨⟨⟨⟨⟨⟨⟨⟨⟨⟨⟨rfl, rfl⟩, h1⟩, h2⟩, h2b⟩, h3⟩, h3b⟩, h3c⟩, h4⟩, h4b⟩, h5⟩, h5b⟩, h6⟩ := he
      have bo := blkOk_by h1
      rw [← G.N, ← G.sc] at bo
      injection q3 with q4 q5 q6 q7
      subst q4 q5 q6 q7
      refine PS.le (ps_setLc2 (te := tM X.K (evE (runT T k) elt)) (wi1 := tI X.K (evI (runT T k) it1)) G.calm G.nd hi hloc hsw (i_ok it _ _ M X G h5) bo (subB_eq h3c) (blk_g G h2) (fun _ _ _ _ _ => pts_nil) (fun s H C cl fp => i_ok it1 _ _ _ _ G.inn h5b) (blk_g G h2b) (fun _ _ _ _ _ => pts_nil) (fun s H C cl fp => (e_ok elt _ _ _ G.inn h6).1) (notSet_eq h4) (fun env => notSet_eq h4b)) fun D σ H h => ?_
      exact lc2_le (subB_eq h3) (subB_eq h3b) (gName_of h)
    · cases he
  | _ => cases kw
theorem s_asgAll {tg : Tg} {e : E} {tg' e' : Expr} {pos : Pos} (G : Good X M tb T k) (hk : X.env.scope.kind = .function) (he : mE tb M e e' = true) (hp : plainTg tg' = true) (ht : mTg M.N M.ok tg tg' = true)
    (h : ((noSwap M.sc tg' e' && notSame M.sc tg' e') || pairSwap M.sc tg' e' || (kwE e && sameLine M.sc tg' e')) = true) : QS X (.Assign [tg'] e' pos) (evS (runT T k) (.asg tg e)) := by
  have hN : mTg X.N M.ok tg tg' = true := by rw [G.N]; exact ht
  have pg := (g_ok G.calm G.nd G.ok tg tg' hN).1
  rw [Bool.or_eq_true, Bool.or_eq_true, Bool.and_eq_true, Bool.and_eq_true] at h
  rcases h with (h | h) | h
  · exact s_asg (e_ok e e' M X G he).1 pg hp (swaps_not G.sc h.2) (swapped_none G.sc h.1)
  · have h0 := h
    unfold pairSwap at h
    split at h
    · rename_i x px y py k1 p1 a b k2 p2
      obtain ⟨q1, q2, q3, q4⟩ := swapped_pair hk G.sc h0
      rw [← G.sc] at q2 q3
      cases tg with
      | nm i => simp [mTg] at hN
      | tp ts =>
        simp only [mTg] at hN
        match ts, hN, pg with
        | [], hN, _ => simp [mTgs] at hN
        | [t1], hN, _ => simp [mTgs] at hN
        | t1 :: t2 :: t3 :: r, hN, _ => simp [mTgs] at hN
        | [t1, t2], hN, _ =>
          simp only [mTgs, Bool.and_eq_true] at hN
          obtain ⟨i, rfl, hi, _⟩ := mTg_nm hN.1
          obtain ⟨j, rfl, hj, _⟩ := mTg_nm hN.2.1
          cases e with
          | tup es =>
            simp only [mE, Bool.and_eq_true] at he
            have hij : i ≠ j := fun z => q4 (by subst z; rw [hi] at hj; exact Option.some.inj hj)
            exact s_par G.calm G.nd hi hj hij q2 q3 (es_ok es _ M X G he.2 he.1) q1
          | bi b es => cases b <;> simp [mE] at he
          | _ => simp [mE] at he
    · cases h
  · obtain ⟨x, px, elt, gs, s, p, rfl, rfl, hloc, hsw⟩ := sameLine_eq (l := pos.line) G.sc hk h.2
    obtain ⟨i, rfl, hi, _⟩ := mTg_nm hN
    exact s_same G hk he hi h.1 h.2
mutual
theorem st_ok : ∀ (s : S) (st : Stmt) (M : Mi) (X : Cx), Good X M tb T k → X.env.scope.kind = .function → PassesOwn (model X.prog X.w) X.A X.env X.xe → mS tb M s st = true → QS X st (evS (runT T k) s)
  | .asg tg e, st, M, X, G, hk, ho, h => by
    simp only [mS] at h
    split at h
    · simp only [Bool.and_eq_true] at h
      exact s_asgAll G hk h.1.1.1 h.1.1.2 h.1.2 h.2
    · cases h
  | .sub o i v, st, M, X, G, hk, ho, h => by
    simp only [mS] at h
    split at h
    · simp only [Bool.and_eq_true] at h
      refine s_sub (e_ok v _ M X G h.2).1 (e_ok o _ M X G h.1.1.2).1 (e_ok i _ M X G h.1.2).1 ?_ ?_
      · have hx := h.1.1.1
        rename_i i' _ _ _
        intro u
        cases i' <;> first | rfl | cases hx
      · rename_i v' _
        cases v' <;> rfl
    · cases h
  | .ex e, st, M, X, G, hk, ho, h => by
    simp only [mS] at h
    split at h
    · simp only [Bool.and_eq_true, Bool.not_eq_true'] at h
      exact s_ex (e_ok e _ M X G h.2).1 (swaps_false h.1)
    · cases h
  | .ret e, st, M, X, G, hk, ho, h => by
    simp only [mS] at h
    split at h
    · exact s_ret (e_ok e _ M X G h).1
    · split at h
      · exact s_retN
      · cases h
    · cases h
  | .iff c a b, st, M, X, G, hk, ho, h => by
    simp only [mS] at h
    split at h
    · simp only [Bool.and_eq_true] at h
      exact s_if (e_ok c _ M X G h.1.1).2 (ss_ok a _ M X G hk ho h.1.2) (ss_ok b _ M X G hk ho h.2)
    · cases h
  | .wh c b, st, M, X, G, hk, ho, h => by
    simp only [mS] at h
    split at h
    · simp only [Bool.and_eq_true] at h
      exact s_wh ho (e_ok c _ M X G h.1).2 (ss_ok b _ M X G hk ho h.2)
    · cases h
  | .fo tg it b, st, M, X, G, hk, ho, h => by
    simp only [mS] at h
    split at h
    · simp only [Bool.and_eq_true] at h
      obtain ⟨⟨⟨h1, h2⟩, h3⟩, h4⟩ := h
      exact s_fo ho G.calm (i_ok it _ _ M X G h3) (g_ok G.calm G.nd G.ok tg _ (by rw [G.N]; exact h1)).1 (ss_ok b _ M X G hk ho h4) (notSet_eq h2)
    · cases h
  | .aug i o e, st, M, X, G, hk, ho, h => by
    simp only [mS] at h
    split at h
    · simp only [Bool.and_eq_true, Bool.or_eq_true, decide_eq_true_eq] at h
      obtain ⟨⟨⟨⟨h1, h2⟩, rfl⟩, h3⟩, h4⟩ := h
      exact s_aug G.nd (by rw [G.N]; exact h1) (G.ok _ h2) (e_ok e _ M X G h4).1 h3
    · cases h
  | .stop, st, M, X, G, hk, ho, h => s_stop
  | .cont, st, M, X, G, hk, ho, h => by
    simp only [mS] at h
    split at h
    · exact s_cont
    · cases h
  | .brk, st, M, X, G, hk, ho, h => by
    simp only [mS] at h
    split at h
    · exact s_brk
    · cases h
theorem ss_ok : ∀ (s : Ss) (sts : List Stmt) (M : Mi) (X : Cx), Good X M tb T k → X.env.scope.kind = .function → PassesOwn (model X.prog X.w) X.A X.env X.xe → mSs tb M s sts = true → QSs X sts (evSs (runT T k) s)
  | .nil, sts, M, X, G, hk, ho, h => by
    cases sts with
    | nil => exact ss_nil
    | cons _ _ => simp [mSs] at h
  | .cons s r, sts, M, X, G, hk, ho, h => by
    cases sts with
    | nil => simp [mSs] at h
    | cons st t =>
      simp only [mSs, Bool.and_eq_true] at h
      exact ss_cons (st_ok s st M X G hk ho h.1) (ss_ok r t M X G hk ho h.2)
end

/-! ### a def -/
variable {P : Program} {w : World} {K : PySem.W.Frag} {mg : Str → Option Value} {base : Heap}
theorem env_start {H : Hp} {ι : List Addr} {qs : List PV} {vs : List V} {N : List Str} {n : Nat} (r : Rls K H ι qs vs) (hn : N.length = n) : EnvR K H ι (qs.map some ++ List.replicate (n - qs.length) none) (L2.start N vs) := by
  unfold L2.start
  have hl := r.length
  refine ⟨by simp [hl, hn], fun i p e => ?_⟩
  by_cases hi : i < qs.length
  · rw [List.getElem?_append_left (by simpa using hi), List.getElem?_map] at e
    cases eq : qs[i]? with
    | none => rw [eq] at e; cases e
    | some q =>
      rw [eq] at e
      obtain rfl : q = p := Option.some.inj (Option.some.inj e)
      obtain ⟨v, hv, lv⟩ := r.get eq
      refine ⟨v, ?_, lv⟩
      rw [List.getElem?_append_left (by rw [List.length_map, ← hl]; exact hi), List.getElem?_map, hv]
      rfl
  · rw [List.getElem?_append_right (by simpa using hi), List.getElem?_replicate] at e
    split at e <;> cases e
/-- what is known of a def before any run -/
structure FdS (K : PySem.W.Frag) (tb : Tb) (T : List Fd) (x : Str) (j : Nat) (f : Addr) (fd : FuncData) (ps : List Str) (d : Fd) : Prop where
  ex : ∃ qual params body scope N, FunD K x qual params body scope [] [] f fd ∧ FnScope N ps scope ∧ ps.length = d.ar ∧ N.length = d.ns ∧ mSs tb ⟨N, scope, none⟩ d.body body = true
theorem fd_ok {x : Str} {j : Nat} {f : Addr} {fd : FuncData} {ps : List Str} {d : Fd} (F : FdS K tb T x j f fd ps d) (hT : T[j]? = some d) (g : GlobK P w K mg base tb T k) : FnG P w K mg base (k + 1) f fd ps (spM K d.ar (runT T (k + 1) j)) := by
  obtain ⟨qual, params, body, scope, N, D, S, har, hns, chk⟩ := F.ex
  refine FnG.of D S (fun vs H Q h => ?_) fun cdv A outer s H vs Q room gd h => ?_
  · obtain ⟨ι, μ, qs, p, μ', st, r, hl, _⟩ := h
    rw [← r.length, hl, har]
  · refine ⟨tMS K (evSs (runT T k) d.body), ?_, ?_⟩
    · have G : Good (cxOf nothX P w K mg base N qual scope f cdv A outer s H noX) ⟨N, scope, none⟩ tb T k :=
        ⟨rfl, S.nd, rfl, rfl, room, gd, fun y hy => ⟨isLC_eq hy, .inl rfl⟩, g⟩
      exact ss_ok d.body body _ _ G S.kind (passes_of rfl) chk
    · obtain ⟨ι, μ, qs, p, μ', st, r, hl, e, q⟩ := h
      simp only [runT, hT, runF, hl, if_true] at e
      have er : EnvR K H ι (qs.map some ++ List.replicate (d.ns - d.ar) none) (L2.start N vs) := by
        rw [← hl]
        exact env_start r hns
      split at e
      · rename_i p' μ1 ev
        obtain ⟨rfl, rfl⟩ := some_inj2 e
        exact ⟨ι, μ, _, _, ⟨st, er⟩, ev, fun ι' H' v s x l => q ι' H' v s x l⟩
      · rename_i ρ1 μ1 ev
        obtain ⟨rfl, rfl⟩ := some_inj2 e
        exact ⟨ι, μ, _, _, ⟨st, er⟩, ev, fun ι' H' σ' s _ x => q ι' H' _ s x rfl⟩
      · cases e
/-- all the defs of a text -/
theorem glob_all (free : ∀ x ∈ tb.fr, mg x = none) (con : ∀ q ∈ tb.cs, ∃ u v, mg q.1 = some u ∧ RelV v u ∧ ∀ ι H, Rl K H ι q.2 v)
    (fn : ∀ q ∈ tb.fns, ∃ d f fd ps, T[q.2]? = some d ∧ mg q.1 = some (.ref f) ∧ PySem.W.keepIn K (.ref f) = true ∧ Binds K fd ps [] ∧ FdS K tb T q.1 q.2 f fd ps d ∧ ∀ z ∈ tb.kws, z.1 = q.1 → KwB K fd ps z.2.1 z.2.2) : ∀ k, GlobK P w K mg base tb T k
  | 0 => ⟨free, con, fun q hq => by
    obtain ⟨d, f, fd, ps, h1, h2, h3, h4, h5, h6⟩ := fn q hq
    have no : ∀ vs H Q, ¬ spM K d.ar (runT T 0 q.2) vs H Q noX := fun vs H Q h => by
      obtain ⟨ι, μ, qs, p, μ', st, r, hl, e, _⟩ := h
      cases e
    exact ⟨d, f, fd, ps, h1, h2, h3, h4, ⟨fun vs H Q h => absurd h (no vs H Q), fun A outer s H args us vs Q _ _ _ _ _ h => absurd h (no vs H Q)⟩, h6⟩⟩
  | k + 1 => ⟨free, con, fun q hq => by
    obtain ⟨d, f, fd, ps, h1, h2, h3, h4, h5, h6⟩ := fn q hq
    exact ⟨d, f, fd, ps, h1, h2, h3, h4, fd_ok h5 h1 (glob_all free con fn k), h6⟩⟩
end
end Pv
end

section
set_option Elab.async false
set_option linter.all false
set_option maxRecDepth 100000
/-! Pv: the law's call, from its own meaning. -/
namespace Pv
open PySem PySem.Spec PyProof.Rows L2

section
variable {P : Program} {w : World} {K : PySem.W.Frag} {mg mb : Str → Option Value} {k : Nat} {fa a : Addr} {fd : FuncData} {x : Str} {t : Shared} {vals : List Value} {is : List Int} {H : Hp}
/-- what the law's caller wants -/
def Wants (t : Shared) : Result → Shared → Prop := fun r t' => r = .ok (.ret (.bool true)) ∧ OldK t.heap t'.heap ∧ t'.os = t.os ∧ AllBare t'.gens
theorem rol_R (is : List Int) (hz : is.length ≤ sizeLine) (hs : SqF K H a (is.map V.int)) : Rl K H [] (.rol (is.map PV.int)) (.ref a) :=
  ⟨a, _, rfl, hs, ints_R is, by rw [List.length_map]; exact hz⟩
/-- from a heap in which the script alone may be told -/
theorem call_core {m : List PV → Sto → Option (PV × Sto)} (KX : K.In t.heap) (ng : t.heap.Ns mainGlobals mg) (nbl : t.heap.Ns builtinsNs mb) (bb : ∀ x : Str, x ≠ "__name__" → mb x = bootBuiltins x) (lim : t.heap.NoLimit) (bare : AllBare t.gens) (room : Room k callerA) (gd : callerA.guards = some [])
    (F : ∀ base : Heap, K.In base → base.Ns mainGlobals mg → FnG P w K mg base k fa fd [x] (spM K 1 m)) (bind : ∀ (s : Shared) (u : Value), BindsTo s fd ⟨[u], []⟩ [(x, u)])
    (hz : is.length ≤ sizeLine) (main : ∃ μ, m [.rol (is.map PV.int)] [] = some (.bl true, μ)) (hs : SqF K H a (is.map V.int)) (hok : HOk P w H t.heap)
    (only : ∀ b, H b ≠ none → b = a ∧ ∃ o xs, H b = some (.frz o (.lst xs))) (seq : ∀ b o, H b ≠ none → t.heap.get? b = some o → ∀ es ep, o.data ≠ .dict es ep) (notK : H a ≠ none → K.lookup a = none) :
    codeAny (model P w) callerA (.call (.ref fa) ⟨[.ref a], []⟩) (Wants t) t := by
  have keepNs : ∀ {b : Addr} {mm : Str → Option Value}, t.heap.Ns b mm → (hidT t.heap H).Ns b mm := fun {b mm} ⟨o, es, ep, e, d, r⟩ =>
    ⟨o, es, ep, hidT_get e (Classical.byContradiction fun z => seq b o z e es ep d), d, r⟩
  have KB : K.In (hidT t.heap H) := fun b o e => hidT_get (KX b o e) (Classical.byContradiction fun z => by
    obtain ⟨rfl, _⟩ := only b z
    rw [notK z] at e
    cases e)
  have md : Mod K mg (hidT t.heap H) := by
    refine ⟨KB, keepNs ng, ⟨mb, keepNs nbl, bb⟩, ?_⟩
    obtain ⟨mc, h1, h2⟩ := lim
    exact ⟨mc, keepNs h1, h2⟩
  have env0 : Env0 P w K mg (hidT t.heap H) callerA [] t H :=
    ⟨rfl, md, fun b o e => of_hidT e, Nat.le_of_eq (hidT_size _ _), trivial, fun b z => absurd (show b ∈ ([] : List Addr) from z) (by simp), hok, bare⟩
  obtain ⟨μ, em⟩ := main
  have st0 : StR K H [] [] := ⟨rfl, .nil, fun n mo a e _ => by cases e⟩
  have want : spM K 1 m [.ref a] H (fun v _ => v = .bl true) noX :=
    ⟨[], [], [.rol (is.map PV.int)], .bl true, μ, st0, ⟨_, _, rfl, rol_R is hz hs, rfl⟩, rfl, em, fun ι' H' v _ _ l => l⟩
  refine codeAny_mono ((F _ KB (keepNs ng)).run callerA [] t H ⟨[.ref a], []⟩ [.ref a] [.ref a] _ room gd env0 (bind t (.ref a)) (.cons rfl .nil) want) fun r t' fin => ?_
  cases r with
  | error e => exact fin.elim
  | ok fl => cases fl with
    | next => exact fin.elim
    | brk => exact fin.elim
    | cont => exact fin.elim
    | ret u =>
      obtain ⟨v, H', os, br, un, hok', ru, rfl⟩ := fin
      obtain rfl : u = Value.bool true := ru
      refine ⟨rfl, OldK.of_keep fun b o e => ?_, os, br⟩
      by_cases hb : H b = none
      · exact un.keep b o e hb (fun z => absurd (show b ∈ ([] : List Addr) from z) (by simp)) (by simp)
      · obtain ⟨_, ob, xs, eb⟩ := only b hb
        have e1 := (hok b _ eb).1
        have e2 := (hok' b _ (un.frzs b ob _ eb)).1
        rw [e] at e1
        obtain rfl := Option.some.inj e1
        exact e2
theorem law_callG {m : List PV → Sto → Option (PV × Sto)} (KX : K.In t.heap) (ng : t.heap.Ns mainGlobals mg) (nbl : t.heap.Ns builtinsNs mb) (bb : ∀ x : Str, x ≠ "__name__" → mb x = bootBuiltins x) (lim : t.heap.NoLimit) (gens : t.gens = #[]) (room : Room k callerA) (gd : callerA.guards = some [])
    (F : ∀ base : Heap, K.In base → base.Ns mainGlobals mg → FnG P w K mg base k fa fd [x] (spM K 1 m)) (bind : ∀ (s : Shared) (u : Value), BindsTo s fd ⟨[u], []⟩ [(x, u)])
    (ha : t.heap.get? a = some { cls := .type "list", data := .seq vals.toArray }) (hi : IntsAre vals is) (hz : is.length ≤ sizeLine) (main : ∃ μ, m [.rol (is.map PV.int)] [] = some (.bl true, μ)) :
    codeAny (model P w) callerA (.call (.ref fa) ⟨[.ref a], []⟩) (Wants t) t := by
  have rv := vals_ints hi
  have lv := hi.length
  by_cases hk : K.lookup a = none
  · let S : HO := .frz { cls := .type "list", data := .seq vals.toArray } (.lst (is.map V.int))
    let H : Hp := fun b => if b = a then some S else none
    have at_ : H a = some S := if_pos rfl
    have off : ∀ b, b ≠ a → H b = none := fun b hb => if_neg hb
    have is_a : ∀ b, H b ≠ none → b = a := fun b hb => Classical.byContradiction fun z => hb (off b z)
    refine call_core (H := H) KX ng nbl bb lim (.of_eq gens) room gd F bind hz main (.inl ⟨_, at_⟩) (fun b o e => ?_) (fun b hb => ?_) (fun b o hb e es ep d => ?_) fun _ => hk
    · have hb : b = a := is_a b (by rw [e]; exact fun z => nomatch z)
      subst hb
      rw [at_] at e
      obtain rfl := Option.some.inj e
      exact ⟨ha, by rw [List.length_map]; exact hz, vals, _, rv, ha⟩
    · obtain rfl := is_a b hb
      exact ⟨rfl, _, _, at_⟩
    · obtain rfl := is_a b hb
      rw [ha] at e
      obtain rfl := Option.some.inj e
      cases d
  · obtain ⟨o, e⟩ := Option.ne_none_iff_exists'.mp hk
    have e2 := KX a o e
    rw [ha] at e2
    obtain rfl := Option.some.inj e2
    have no : ∀ b : Addr, (fun _ : Addr => (none : Option HO)) b ≠ none → False := fun b z => z rfl
    refine call_core (H := fun _ => none) KX ng nbl bb lim (.of_eq gens) room gd F bind hz main (.inr ⟨_, vals.toArray, _, e, rfl, rfl, rfl, by rw [List.size_toArray, lv]; exact hz, by simpa using rv⟩) (fun b o z => ?_) (fun b z => (no b z).elim) (fun b o z => (no b z).elim) fun z => (no a z).elim
    have z' : (none : Option HO) = some o := z
    cases z'
end
/-- a law: its own meaning answers True at every script -/
theorem walk_ofG {l : PySem.W.OpenLaw} {n k : Nat} {q : Program} {loose : List Str} {XP : (Str → Option Value) → Heap → Prop} {YP : World → Heap → Prop} {d : DefRec} {x : Str} {m : List PV → Sto → Option (PV × Sto)}
    (hn : l.most = some n) (hn2 : n ≤ sizeLine) (hdf : d.params.defaults = []) (room : Room k callerA) (gd : callerA.guards = some [])
    (main : ∀ is : List Int, is.length ≤ n → ∃ μ, m [.rol (is.map PV.int)] [] = some (.bl true, μ))
    (F : ∀ (w : World) (mg : Str → Option Value) (fa : Addr) (h : Heap), YP w h → h.Ns mainGlobals mg → mg d.name = some (.ref fa) →
      ∃ (K : PySem.W.Frag) (fd : FuncData), K.In h ∧ (∀ (s : Shared) (u : Value), BindsTo s fd ⟨[u], []⟩ [(x, u)]) ∧ ∀ base : Heap, K.In base → base.Ns mainGlobals mg → FnG l.prog w K mg base k fa fd [x] (spM K 1 m)) :
    PySem.W.WalkO q loose XP YP l.row.toRowW d [] (fun f vs => PySem.call f vs) := by
  refine Att.attach_call hn hdf fun w s0 t mg mb fa o pm cd doc a vals is G Y ho hd hcd hmg hobj hints hlen hg => ?_
  obtain ⟨K, fd, KX, bind, hF⟩ := F w mg fa _ Y G.T.g hmg
  exact law_callG KX G.T.g G.T.b G.T.builtins G.T.nolimit hg room gd hF bind hobj hints (Nat.le_trans hlen hn2) (main is hlen)
end Pv
end

section
set_option Elab.async false
set_option linter.all false
set_option maxRecDepth 100000
/-! Pv: what the module's top leaves, and what follows of its defs. -/
namespace Pv
open PySem PySem.Spec PyProof.Rows L2

mutual
/-- a constant of the module -/
def conV (K : PySem.W.Frag) : PV → Value → Bool
  | .non, u => decide (u = .none)
  | .bl b, u => decide (u = .bool b)
  | .int i, u => match u with
    | .int j _ => decide (j = i)
    | _ => false
  | .str x, u => match u with
    | .str y _ => decide (y = x)
    | _ => false
  | .tup ps, u => match u with
    | .ref a => match K.lookup a with
      | some o => decide (o.cls = .type "tuple") && match o.data with
        | .seq its _ => decide (its.size ≤ sizeLine) && conVs K ps its.toList
        | _ => false
      | none => false
    | _ => false
  | .rol _, _ => false
  | .loc _, _ => false
def conVs (K : PySem.W.Frag) : List PV → List Value → Bool
  | [], us => match us with
    | [] => true
    | _ => false
  | p :: ps, us => match us with
    | u :: r => conV K p u && conVs K ps r
    | [] => false
end
mutual
theorem conV_ok {K : PySem.W.Frag} : ∀ {p : PV} {u : Value}, conV K p u = true → ∃ v, RelV v u ∧ ∀ ι H, Rl K H ι p v
  | .non, u, h => by
    have e : u = Value.none := of_decide_eq_true h
    exact ⟨.non, e, fun _ _ => rfl⟩
  | .bl b, u, h => by
    have e : u = Value.bool b := of_decide_eq_true h
    exact ⟨.bl b, e, fun _ _ => rfl⟩
  | .int i, u, h => by
    simp only [conV] at h
    split at h
    · rename_i j t
      obtain rfl := of_decide_eq_true h
      exact ⟨.int j, ⟨t, rfl⟩, fun _ _ => rfl⟩
    · cases h
  | .str x, u, h => by
    simp only [conV] at h
    split at h
    · rename_i y t
      obtain rfl := of_decide_eq_true h
      exact ⟨.str y, ⟨t, rfl⟩, fun _ _ => rfl⟩
    · cases h
  | .tup ps, u, h => by
    simp only [conV] at h
    split at h
    · rename_i a
      split at h
      · rename_i o ho
        rw [Bool.and_eq_true, decide_eq_true_eq] at h
        obtain ⟨hc, h⟩ := h
        split at h
        · rename_i its n hd
          rw [Bool.and_eq_true, decide_eq_true_eq] at h
          obtain ⟨vs, rv, hl⟩ := conVs_ok h.2
          exact ⟨.ref a, rfl, fun ι H => ⟨a, vs, rfl, .inr ⟨o, its, n, ho, hc, hd, h.1, rv⟩, hl ι H⟩⟩
        · cases h
      · cases h
    · cases h
  | .rol _, _, h => by cases h
  | .loc _, _, h => by cases h
theorem conVs_ok {K : PySem.W.Frag} : ∀ {ps : List PV} {us : List Value}, conVs K ps us = true → ∃ vs, Vals vs us ∧ ∀ ι H, Rls K H ι ps vs
  | [], us, h => by
    simp only [conVs] at h
    split at h
    · exact ⟨[], .nil, fun _ _ => rfl⟩
    · cases h
  | p :: ps, us, h => by
    simp only [conVs] at h
    split at h
    · rw [Bool.and_eq_true] at h
      obtain ⟨v, r1, l1⟩ := conV_ok h.1
      obtain ⟨vs, r2, l2⟩ := conVs_ok h.2
      exact ⟨v :: vs, .cons r1 r2, fun ι H => ⟨v, vs, rfl, l1 ι H, l2 ι H⟩⟩
    · cases h
end
def conG (K : PySem.W.Frag) (q : Str × PV) : Bool := match PySem.W.nsIn K mainGlobals q.1 with
  | some (some u) => conV K q.2 u
  | _ => false
theorem conG_ok {K : PySem.W.Frag} {h : Heap} {mg : Str → Option Value} (X : K.In h) (G : h.Ns mainGlobals mg) {q : Str × PV} (c : conG K q = true) : ∃ u v, mg q.1 = some u ∧ RelV v u ∧ ∀ ι H, Rl K H ι q.2 v := by
  unfold conG at c
  split at c
  · rename_i u e
    obtain ⟨v, r, l⟩ := conV_ok c
    exact ⟨u, v, PySem.W.mg_of X G e, r, l⟩
  · cases c
/-! ### the Hook -/
def obsK (fa : List He.Fa) (fn : List He.DefD) (cs : List (Str × PV)) (K : PySem.W.Frag) : Bool × He.AlD := (cs.all (conG K), He.obsD fa fn K)
def obsP (n : Nat) (fa : List He.Fa) (fn : List He.DefD) (cs : List (Str × PV)) (g : Addr → Option Obj) : Bool × He.AlD := obsK fa fn cs (He.frG g (He.asD g n))
def SaysP (fa : List He.Fa) (fn : List He.DefD) (cs : List (Str × PV)) (K : PySem.W.Frag) : Prop := obsK fa fn cs K = (true, He.valD fn)
def hookP (n : Nat) (fa : List He.Fa) (fn : List He.DefD) (cs : List (Str × PV)) : PySem.W.Hook where
  α := Bool × He.AlD
  obs := fun s => obsP n fa fn cs s.heap.get?
  val := fun _ => (true, He.valD fn)
  says := fun _ h => ∃ K : PySem.W.Frag, K.In h ∧ SaysP fa fn cs K
  of := fun _ _ e => ⟨_, He.frG_in, e⟩
  keeps := fun _ _ _ ⟨K, hK, c⟩ k => ⟨K, PySem.W.Frag.In.keeps hK k, c⟩
theorem obsP_eq {n : Nat} {fa : List He.Fa} {fn : List He.DefD} {cs : List (Str × PV)} {g : Addr → Option Obj} {s : Shared} (h : ∀ a, g a = s.heap.get? a) : obsP n fa fn cs g = (hookP n fa fn cs).obs s := by
  have e : g = s.heap.get? := funext h
  rw [e]
  rfl
/-! ### a text's defs -/
structure Inf where
  name : Str
  top : Nat
  ps : List Str
  N : List Str
  d : Fd
section
variable (p : Program)
def Inf.st (z : Inf) : Stmt := p.main.body.getD z.top (.Pass ⟨0, 0, 0, 0⟩)
def Inf.dd (z : Inf) : He.DefD := ⟨(z.name, none), z.name, z.name, defArgs (z.st p), defBody (z.st p), defScope (z.st p), [], []⟩
def scB (N ps : List Str) (sc : Scope) : Bool := decide (sc.kind = .function) && !sc.isCoroutine && !sc.isGenerator && decide N.Nodup && decide (N.take ps.length = ps) && (ps.all fun x => isLC (sc.names.lookup x)) && (sc.names.all fun y => decide (y.2 ≠ .free))
def Inf.chk (tb : Tb) (z : Inf) : Bool := scB z.N z.ps (defScope (z.st p)) && decide (z.ps.length = z.d.ar) && decide (z.N.length = z.d.ns) && mSs tb ⟨z.N, defScope (z.st p), none⟩ z.d.body (defBody (z.st p))
def BindP (z : Inf) : Prop := ∀ (kV doc pm : Value) (an : Option Addr) (cdv ct : Value) (us : List Value), us.length = z.ps.length →
  bindArgs (PySem.W.fnOf z.name z.name (defArgs (z.st p)) (defBody (z.st p)) (defScope (z.st p)) .none kV doc pm an cdv ct) ⟨us, []⟩ = pure (z.ps.zip us)
def KwP (z : Inf) (ks : List Str) (perm : List Nat) : Prop := ∀ (kV doc pm : Value) (an : Option Addr) (cdv ct : Value) (ws : List Value), ws.length = ks.length → ∃ zs, allSome (fun i => ws[i]?) perm = some zs ∧ zs.length = z.ps.length ∧
  bindArgs (PySem.W.fnOf z.name z.name (defArgs (z.st p)) (defBody (z.st p)) (defScope (z.st p)) .none kV doc pm an cdv ct) ⟨[], ks.zip ws⟩ = pure (z.ps.zip zs)
def AllI (F : Inf → Prop) : List Inf → Prop
  | [] => True
  | z :: r => F z ∧ AllI F r
end
theorem AllI.mem {F : Inf → Prop} : ∀ {l : List Inf} {z : Inf}, AllI F l → z ∈ l → F z
  | y :: r, z, h, m => by
    rcases List.mem_cons.mp m with e | m
    · rw [e]; exact h.1
    · exact AllI.mem h.2 m
theorem scB_ok {N ps : List Str} {sc : Scope} (h : scB N ps sc = true) : FnScope N ps sc := by
  unfold scB at h
  simp only [Bool.and_eq_true, decide_eq_true_eq, Bool.not_eq_true', List.all_eq_true] at h
  obtain ⟨⟨⟨⟨⟨⟨h1, h2⟩, h3⟩, h4⟩, h5⟩, h6⟩, h7⟩ := h
  exact ⟨h1, h2, h3, h4, h5, fun x hx => isLC_eq (h6 x hx), h7⟩
section
variable {p P : Program} {w : World} {K : PySem.W.Frag} {h base : Heap} {mg : Str → Option Value} {tb : Tb} {infos : List Inf}
abbrev faOf (tb : Tb) (infos : List Inf) : List He.Fa := (infos.map fun z => He.Fa.glo z.name) ++ tb.fr.map He.Fa.free
abbrev fnOfI (p : Program) (infos : List Inf) : List He.DefD := infos.map (Inf.dd p)
abbrev fnsOf (infos : List Inf) : List (Str × Nat) := infos.zipIdx.map fun q => (q.1.name, q.2)
theorem says_fact {fa : List He.Fa} {fn : List He.DefD} (c : He.SaysD fa fn K) {f : He.Fa} (m : f ∈ fa) : f.ok K = true := by
  obtain ⟨i, hi, e⟩ := List.getElem_of_mem m
  exact c.fact i (by rw [List.getElem?_eq_getElem hi, e])
theorem glob_of (X : K.In h) (G : h.Ns mainGlobals mg) (c : SaysP (faOf tb infos) (fnOfI p infos) tb.cs K) (hf : tb.fns = fnsOf infos) (chk : (infos.all fun z => z.chk p tb) = true) (bd : AllI (BindP p) infos)
    (kw : ∀ q ∈ tb.kws, ∀ z ∈ infos, q.1 = z.name → KwP p z q.2.1 q.2.2) : ∀ k, GlobK P w K mg base tb (infos.map (·.d)) k := by
  have c1 : tb.cs.all (conG K) = true := congrArg (fun z : Bool × He.AlD => z.1) c
  have c2 : He.SaysD (faOf tb infos) (fnOfI p infos) K := congrArg (fun z : Bool × He.AlD => z.2) c
  refine glob_all (fun x hx => ?_) (fun q hq => conG_ok X G (List.all_eq_true.mp c1 q hq)) fun q hq => ?_
  · exact He.free_ok X G (says_fact c2 (List.mem_append_right _ (List.mem_map.mpr ⟨x, hx, rfl⟩)))
  · rw [hf] at hq
    obtain ⟨⟨z, j⟩, hz, rfl⟩ := List.mem_map.mp hq
    have hj : infos[j]? = some z := by
      have := List.mem_zipIdx_iff_getElem?.mp hz
      simpa using this
    have mz := List.mem_of_getElem? hj
    obtain ⟨fd, F⟩ := c2.def_ j (d := z.dd p) (by rw [List.getElem?_map, hj]; rfl)
    have F : FunD K z.name z.name (defArgs (z.st p)) (defBody (z.st p)) (defScope (z.st p)) [] [] (He.ga K z.name) fd := F
    have ck := List.all_eq_true.mp chk z mz
    unfold Inf.chk at ck
    simp only [Bool.and_eq_true, decide_eq_true_eq] at ck
    obtain ⟨⟨⟨k1, k2⟩, k3⟩, k4⟩ := ck
    refine ⟨z.d, He.ga K z.name, fd, z.ps, ?_, He.glo_ok X G (says_fact c2 (List.mem_append_left _ (List.mem_map.mpr ⟨z, mz, rfl⟩))), F.kp, F.bindsN (bd.mem mz), ⟨_, _, _, _, z.N, F, scB_ok k1, k2, k3, k4⟩, fun y hy e => ?_⟩
    · show (infos.map (·.d))[j]? = some z.d
      rw [List.getElem?_map, hj]
      rfl
    · obtain ⟨oc, od, dV, kV, doc, pm, an, cdv, ct, osl, rfl, _, _, hD, _⟩ := F.ex
      rcases hD with ⟨_, rfl⟩ | ⟨e2, _⟩
      · intro s ws _ hl
        obtain ⟨zs, h1, h2, h3⟩ := kw y hy z mz e kV doc pm an cdv ct ws hl
        exact ⟨zs, h1, h2, .of_eq h3⟩
      · exact absurd rfl e2
/-- the law's own def -/
theorem law_facts {j : Nat} {z : Inf} {fa : Addr} {x : Str} {k : Nat} {T : List Fd} (X : K.In h) (G : h.Ns mainGlobals mg) (c : SaysP (faOf tb infos) (fnOfI p infos) tb.cs K) (hf : tb.fns = fnsOf infos) (chk : (infos.all fun z => z.chk p tb) = true) (bd : AllI (BindP p) infos)
    (kw : ∀ q ∈ tb.kws, ∀ z ∈ infos, q.1 = z.name → KwP p z q.2.1 q.2.2) (hT : T = infos.map (·.d)) (hj : infos[j]? = some z) (ps : z.ps = [x]) (hmg : mg z.name = some (.ref fa)) :
    ∃ fd, (∀ (s : Shared) (u : Value), BindsTo s fd ⟨[u], []⟩ [(x, u)]) ∧ ∀ base : Heap, K.In base → base.Ns mainGlobals mg → FnG P w K mg base (k + 1) fa fd [x] (spM K 1 (runT T (k + 1) j)) := by
  subst hT
  have g : ∀ base, GlobK P w K mg base tb (infos.map (·.d)) k := fun base => glob_of X G c hf chk bd kw k
  have c2 : He.SaysD (faOf tb infos) (fnOfI p infos) K := congrArg (fun z : Bool × He.AlD => z.2) c
  have mq : (z.name, j) ∈ tb.fns := by
    rw [hf]
    exact List.mem_map.mpr ⟨(z, j), List.mem_zipIdx_iff_getElem?.mpr (by simpa using hj), rfl⟩
  have ck := List.all_eq_true.mp chk z (List.mem_of_getElem? hj)
  unfold Inf.chk at ck
  simp only [Bool.and_eq_true, decide_eq_true_eq] at ck
  have ar : z.d.ar = 1 := by rw [← ck.1.1.2, ps]; rfl
  obtain ⟨fd, F⟩ := c2.def_ j (d := z.dd p) (by rw [List.getElem?_map, hj]; rfl)
  have F : FunD K z.name z.name (defArgs (z.st p)) (defBody (z.st p)) (defScope (z.st p)) [] [] (He.ga K z.name) fd := F
  have bs := F.bindsA (ps := z.ps) (bd.mem (List.mem_of_getElem? hj))
  have e := hmg.symm.trans (He.glo_ok X G (says_fact c2 (List.mem_append_left _ (List.mem_map.mpr ⟨z, List.mem_of_getElem? hj, rfl⟩))))
  obtain rfl : fa = He.ga K z.name := by injection (Option.some.inj e)
  refine ⟨fd, fun s u => by have b := bs s [u] (by rw [ps]; rfl); rw [ps] at b; exact b, fun base _ _ => ?_⟩
  have hT : (infos.map (·.d))[j]? = some z.d := by rw [List.getElem?_map, hj]; rfl
  have q := fd_ok (P := P) (w := w) (mg := mg) (base := base) ⟨_, _, _, _, z.N, F, scB_ok ck.1.1.1, ck.1.1.2, ck.1.2, ck.2⟩ hT (g base)
  rw [ar, ps] at q
  exact q
end
end Pv
end

section
set_option Elab.async false
set_option linter.all false
set_option maxRecDepth 100000
set_option maxHeartbeats 0
namespace Lw
open PySem PySem.Spec L2 Pv
abbrev prog : Program := PySem.Challenge.pw_wholeparts_k29_whole_forms_of_relative_s
abbrev c_MOST_PARTS : PV := (.int 3)
abbrev c_OF_TWO : PV := (.tup [(.str "both"), (.str "either")])
abbrev c_OF_A_PART : PV := (.tup [(.str "some"), (.str "every")])
abbrev c_DIGITS : PV := (.str "0123456789")
abbrev c_SMALL : PV := (.str "abcdefghijklmnopqrstuvwxyz")
abbrev c_MOST_DEEP : PV := (.int 30)
abbrev c_MOST_DIGITS : PV := (.int 30)
abbrev c_BARE_WORD : PV := (.str "any")
abbrev c_FIRSTS : PV := (.tup [(.str "empty"), (.str "smooth"), (.str "atoms")])
/-- 0: is_integer(value) -/
abbrev b_is_integer : Ss := (.cons (.ret (.bo true (.cons (.isi (.var 0) "int") (.cons (.nt (.isi (.var 0) "bool")) .nil))))
    .nil)
abbrev f_is_integer : Fd := ⟨1, 1, b_is_integer⟩
/-- 1: is_natural(value) -/
abbrev b_is_natural : Ss := (.cons (.ret (.bo true (.cons (.call 0 (.cons (.var 0) .nil)) (.cons (.cmp .GtE (.var 0) (.cst (.int 0))) .nil))))
    .nil)
abbrev f_is_natural : Fd := ⟨1, 1, b_is_natural⟩
/-- 2: is_between(value, low, high) -/
abbrev b_is_between : Ss := (.cons (.ret (.bo true (.cons (.call 0 (.cons (.var 0) .nil)) (.cons (.chn .LtE .LtE (.var 1) (.var 0) (.var 2)) .nil))))
    .nil)
abbrev f_is_between : Fd := ⟨3, 3, b_is_between⟩
/-- 3: is_ascending(items) -/
abbrev b_is_ascending : Ss := (.cons (.ret (.bi .all (.cons (.lc [("one", 1), ("other", 2)] (.cmp .Lt (.var 1) (.var 2)) (.tp [(.nm 1), (.nm 2)]) (.zp (.var 0) (.slL (.var 0) (.cst (.int 1)))) .nil) .nil)))
    .nil)
abbrev f_is_ascending : Fd := ⟨1, 3, b_is_ascending⟩
/-- 4: rising(values) -/
abbrev b_rising : Ss := (.cons (.ret (.bi .tuple (.cons (.bi .sorted (.cons (.dc [("value", 1)] (.var 1) (.cst (.bl true)) (.nm 1) (.val (.var 0)) .nil) .nil)) .nil)))
    .nil)
abbrev f_rising : Fd := ⟨1, 2, b_rising⟩
/-- 5: is_meet(told) -/
abbrev b_is_meet : Ss := (.cons (.iff (.nt (.isi (.var 0) "tuple")) (.cons (.ret (.cst (.bl false)))
    .nil) .nil)
    (.cons (.fo (.nm 1) (.val (.var 0)) (.cons (.iff (.bo false (.cons (.nt (.isi (.var 1) "tuple")) (.cons (.cmp .NotEq (.bi .len (.cons (.var 1) .nil)) (.cst (.int 2))) .nil))) (.cons (.ret (.cst (.bl false)))
    .nil) .nil)
    (.cons (.iff (.bo false (.cons (.nt (.call 2 (.cons (.ix (.var 1) (.cst (.int 0))) (.cons (.cst (.int 0)) (.cons (.bin .Sub (.glo "MOST_PARTS" c_MOST_PARTS) (.cst (.int 1))) .nil))))) (.cons (.nt (.call 2 (.cons (.ix (.var 1) (.cst (.int 1))) (.cons (.cst (.int 0)) (.cons (.cst (.int 1)) .nil))))) .nil))) (.cons (.ret (.cst (.bl false)))
    .nil) .nil)
    .nil)))
    (.cons (.ret (.call 3 (.cons (.lc [("name", 2), ("bit", 3)] (.var 2) (.tp [(.nm 2), (.nm 3)]) (.val (.var 0)) .nil) .nil)))
    .nil)))
abbrev f_is_meet : Fd := ⟨1, 4, b_is_meet⟩
/-- 6: is_first(told) -/
abbrev b_is_first : Ss := (.cons (.iff (.cmp .In (.ix (.var 0) (.cst (.int 0))) (.tup (.cons (.cst (.str "empty")) (.cons (.cst (.str "smooth")) .nil)))) (.cons (.ret (.bo true (.cons (.cmp .Eq (.bi .len (.cons (.var 0) .nil)) (.cst (.int 3))) (.cons (.call 1 (.cons (.ix (.var 0) (.cst (.int 1))) .nil)) (.cons (.call 5 (.cons (.ix (.var 0) (.cst (.int 2))) .nil)) .nil)))))
    .nil) .nil)
    (.cons (.iff (.bo false (.cons (.cmp .NotEq (.ix (.var 0) (.cst (.int 0))) (.cst (.str "atoms"))) (.cons (.cmp .NotEq (.bi .len (.cons (.var 0) .nil)) (.cst (.int 4))) (.cons (.nt (.call 1 (.cons (.ix (.var 0) (.cst (.int 1))) .nil))) .nil)))) (.cons (.ret (.cst (.bl false)))
    .nil) .nil)
    (.cons (.ret (.bo true (.cons (.call 0 (.cons (.ix (.var 0) (.cst (.int 2))) .nil)) (.cons (.cmp .Gt (.ix (.var 0) (.cst (.int 2))) (.cst (.int 0))) (.cons (.call 5 (.cons (.ix (.var 0) (.cst (.int 3))) .nil)) .nil)))))
    .nil)))
abbrev f_is_first : Fd := ⟨1, 1, b_is_first⟩
/-- 7: must_be(told) -/
abbrev b_must_be : Ss := (.cons (.iff (.bo false (.cons (.nt (.isi (.var 0) "tuple")) (.cons (.cmp .Eq (.bi .len (.cons (.var 0) .nil)) (.cst (.int 0))) (.cons (.nt (.isi (.ix (.var 0) (.cst (.int 0))) "str")) .nil)))) (.cons (.ret (.cst .non))
    .nil) .nil)
    (.cons (.asg (.tp [(.nm 1), (.nm 2)]) (.tup (.cons (.ix (.var 0) (.cst (.int 0))) (.cons (.slL (.var 0) (.cst (.int 1))) .nil))))
    (.cons (.iff (.cmp .Eq (.var 1) (.cst (.str "not"))) (.cons (.ret (.ite (.cmp .Eq (.bi .len (.cons (.var 2) .nil)) (.cst (.int 1))) (.var 2) (.cst .non)))
    .nil) .nil)
    (.cons (.iff (.cmp .In (.var 1) (.glo "OF_TWO" c_OF_TWO)) (.cons (.ret (.ite (.cmp .Eq (.bi .len (.cons (.var 2) .nil)) (.cst (.int 2))) (.var 2) (.cst .non)))
    .nil) .nil)
    (.cons (.iff (.cmp .In (.var 1) (.glo "OF_A_PART" c_OF_A_PART)) (.cons (.ret (.ite (.bo true (.cons (.cmp .Eq (.bi .len (.cons (.var 2) .nil)) (.cst (.int 2))) (.cons (.call 2 (.cons (.ix (.var 2) (.cst (.int 0))) (.cons (.cst (.int 0)) (.cons (.bin .Sub (.glo "MOST_PARTS" c_MOST_PARTS) (.cst (.int 1))) .nil)))) .nil))) (.slL (.var 2) (.cst (.int 1))) (.cst .non)))
    .nil) .nil)
    (.cons (.ret (.ite (.call 6 (.cons (.var 0) .nil)) (.tup .nil) (.cst .non)))
    .nil))))))
abbrev f_must_be : Fd := ⟨1, 3, b_must_be⟩
/-- 8: is_saying_in(told) -/
abbrev b_is_saying_in : Ss := (.cons (.asg (.nm 1) (.lst (.cons (.var 0) .nil)))
    (.cons (.wh (.cmp .Gt (.bi .len (.cons (.var 1) .nil)) (.cst (.int 0))) (.cons (.asg (.nm 2) (.call 7 (.cons (.me .pop (.var 1) .nil) .nil)))
    (.cons (.iff (.cmp .Is (.var 2) (.cst .non)) (.cons (.ret (.cst (.bl false)))
    .nil) .nil)
    (.cons (.ex (.me .extend (.var 1) (.cons (.var 2) .nil)))
    .nil))))
    (.cons (.ret (.cst (.bl true)))
    .nil)))
abbrev f_is_saying_in : Fd := ⟨1, 3, b_is_saying_in⟩
/-- 9: check_saying(saying) -/
abbrev b_check_saying : Ss := (.cons (.iff (.nt (.call 8 (.cons (.var 0) .nil))) (.cons .stop
    .nil) .nil)
    .nil)
abbrev f_check_saying : Fd := ⟨1, 1, b_check_saying⟩
/-- 10: inner_sayings(saying) -/
abbrev b_inner_sayings : Ss := (.cons (.iff (.bo false (.cons (.cmp .Eq (.ix (.var 0) (.cst (.int 0))) (.cst (.str "not"))) (.cons (.cmp .In (.ix (.var 0) (.cst (.int 0))) (.glo "OF_TWO" c_OF_TWO)) .nil))) (.cons (.ret (.slL (.var 0) (.cst (.int 1))))
    .nil) .nil)
    (.cons (.ret (.ite (.cmp .In (.ix (.var 0) (.cst (.int 0))) (.glo "OF_A_PART" c_OF_A_PART)) (.slL (.var 0) (.cst (.int 2))) (.tup .nil)))
    .nil))
abbrev f_inner_sayings : Fd := ⟨1, 1, b_inner_sayings⟩
/-- 11: is_atom_saying(saying) -/
abbrev b_is_atom_saying : Ss := (.cons (.ret (.cmp .Eq (.bi .len (.cons (.call 10 (.cons (.var 0) .nil)) .nil)) (.cst (.int 0))))
    .nil)
abbrev f_is_atom_saying : Fd := ⟨1, 1, b_is_atom_saying⟩
/-- 12: free_in(saying) -/
abbrev b_free_in : Ss := (.cons (.iff (.call 11 (.cons (.var 0) .nil)) (.cons (.ret (.bi .tuple (.cons (.lc [("name", 3), ("bit", 4)] (.var 3) (.tp [(.nm 3), (.nm 4)]) (.val (.ix (.var 0) (.neg (.cst (.int 1))))) .nil) .nil)))
    .nil) .nil)
    (.cons (.asg (.nm 1) (.lc2 [("part", 2), ("name", 3)] [3] (.var 3) (.nm 2) (.val (.call 10 (.cons (.var 0) .nil))) (.nm 3) (.val (.call 12 (.cons (.var 2) .nil)))))
    (.cons (.iff (.cmp .In (.ix (.var 0) (.cst (.int 0))) (.glo "OF_A_PART" c_OF_A_PART)) (.cons (.asg (.nm 1) (.lc [("name", 3)] (.var 3) (.nm 3) (.val (.var 1)) (.cons (.cmp .NotEq (.var 3) (.ix (.var 0) (.cst (.int 1)))) .nil)))
    .nil) .nil)
    (.cons (.ret (.call 4 (.cons (.var 1) .nil)))
    .nil))))
abbrev f_free_in : Fd := ⟨1, 5, b_free_in⟩
/-- 13: parts_in(saying) -/
abbrev b_parts_in : Ss := (.cons (.ret (.bin .Add (.lc2 [("inner", 1), ("part", 2)] [2] (.var 2) (.nm 1) (.val (.call 10 (.cons (.var 0) .nil))) (.nm 2) (.val (.call 13 (.cons (.var 1) .nil)))) (.lst (.cons (.var 0) .nil))))
    .nil)
abbrev f_parts_in : Fd := ⟨1, 3, b_parts_in⟩
/-- 14: height_in(saying) -/
abbrev b_height_in : Ss := (.cons (.asg (.nm 1) (.ite (.cmp .In (.ix (.var 0) (.cst (.int 0))) (.glo "OF_A_PART" c_OF_A_PART)) (.cst (.int 1)) (.cst (.int 0))))
    (.cons (.ret (.bin .Add (.var 1) (.mxd (.lc [("part", 2)] (.call 14 (.cons (.var 2) .nil)) (.nm 2) (.val (.call 10 (.cons (.var 0) .nil))) .nil) (.cst (.int 0)))))
    .nil))
abbrev f_height_in : Fd := ⟨1, 3, b_height_in⟩
/-- 15: is_plain_in(saying) -/
abbrev b_is_plain_in : Ss := (.cons (.ret (.bi .all (.cons (.lc [("part", 1)] (.bo true (.cons (.cmp .Eq (.ix (.var 1) (.cst (.int 0))) (.cst (.str "empty"))) (.cons (.cmp .Eq (.ix (.var 1) (.cst (.int 1))) (.cst (.int 0))) .nil))) (.nm 1) (.val (.call 13 (.cons (.var 0) .nil))) (.cons (.call 11 (.cons (.var 1) .nil)) .nil)) .nil)))
    .nil)
abbrev f_is_plain_in : Fd := ⟨1, 2, b_is_plain_in⟩
/-- 16: is_saying(told) -/
abbrev b_is_saying : Ss := (.cons (.ret (.call 8 (.cons (.var 0) .nil)))
    .nil)
abbrev f_is_saying : Fd := ⟨1, 1, b_is_saying⟩
/-- 17: free_parts(saying) -/
abbrev b_free_parts : Ss := (.cons (.ex (.call 9 (.cons (.var 0) .nil)))
    (.cons (.ret (.call 12 (.cons (.var 0) .nil)))
    .nil))
abbrev f_free_parts : Fd := ⟨1, 1, b_free_parts⟩
/-- 18: parts_of(saying) -/
abbrev b_parts_of : Ss := (.cons (.ex (.call 9 (.cons (.var 0) .nil)))
    (.cons (.ret (.bi .tuple (.cons (.call 13 (.cons (.var 0) .nil)) .nil)))
    .nil))
abbrev f_parts_of : Fd := ⟨1, 1, b_parts_of⟩
/-- 19: height(saying) -/
abbrev b_height : Ss := (.cons (.ex (.call 9 (.cons (.var 0) .nil)))
    (.cons (.ret (.call 14 (.cons (.var 0) .nil)))
    .nil))
abbrev f_height : Fd := ⟨1, 1, b_height⟩
/-- 20: is_plain(saying) -/
abbrev b_is_plain : Ss := (.cons (.ex (.call 9 (.cons (.var 0) .nil)))
    (.cons (.ret (.call 15 (.cons (.var 0) .nil)))
    .nil))
abbrev f_is_plain : Fd := ⟨1, 1, b_is_plain⟩
/-- 21: show_meet(meet) -/
abbrev b_show_meet : Ss := (.cons (.ret (.lc [("name", 1), ("bit", 2)] (.bin .Add (.ite (.cmp .Eq (.var 2) (.cst (.int 1))) (.cst (.str "+")) (.cst (.str "-"))) (.bi .str (.cons (.var 1) .nil))) (.tp [(.nm 1), (.nm 2)]) (.val (.var 0)) .nil))
    .nil)
abbrev f_show_meet : Fd := ⟨1, 3, b_show_meet⟩
/-- 22: show_saying(saying) -/
abbrev b_show_saying : Ss := (.cons (.asg (.nm 1) (.lst (.cons (.ix (.var 0) (.cst (.int 0))) .nil)))
    (.cons (.iff (.cmp .In (.ix (.var 0) (.cst (.int 0))) (.tup (.cons (.cst (.str "empty")) (.cons (.cst (.str "smooth")) (.cons (.cst (.str "atoms")) .nil))))) (.cons (.asg (.nm 1) (.bin .Add (.bin .Add (.var 1) (.lc [("own", 2)] (.bi .str (.cons (.var 2) .nil)) (.nm 2) (.val (.slB (.var 0) (.cst (.int 1)) (.neg (.cst (.int 1))))) .nil)) (.call 21 (.cons (.ix (.var 0) (.neg (.cst (.int 1)))) .nil))))
    .nil) (.cons (.asg (.nm 1) (.bin .Add (.var 1) (.lc [("own", 2)] (.ite (.call 0 (.cons (.var 2) .nil)) (.bi .str (.cons (.var 2) .nil)) (.call 22 (.cons (.var 2) .nil))) (.nm 2) (.val (.slL (.var 0) (.cst (.int 1)))) .nil)))
    .nil))
    (.cons (.ret (.bin .Add (.bin .Add (.cst (.str "(")) (.me .join (.cst (.str " ")) (.cons (.var 1) .nil))) (.cst (.str ")"))))
    .nil)))
abbrev f_show_saying : Fd := ⟨1, 3, b_show_saying⟩
/-- 23: check_text(text) -/
abbrev b_check_text : Ss := (.cons (.iff (.bo false (.cons (.nt (.isi (.var 0) "str")) (.cons (.cmp .Eq (.var 0) (.cst (.str ""))) .nil))) (.cons .stop
    .nil) .nil)
    .nil)
abbrev f_check_text : Fd := ⟨1, 1, b_check_text⟩
/-- 24: end_of(text, at, signs) -/
abbrev b_end_of : Ss := (.cons (.asg (.nm 3) (.var 1))
    (.cons (.wh (.bo true (.cons (.cmp .Lt (.var 3) (.bi .len (.cons (.var 0) .nil))) (.cons (.cmp .In (.ix (.var 0) (.var 3)) (.var 2)) .nil))) (.cons (.asg (.nm 3) (.bin .Add (.var 3) (.cst (.int 1))))
    .nil))
    (.cons (.ret (.var 3))
    .nil)))
abbrev f_end_of : Fd := ⟨3, 4, b_end_of⟩
/-- 25: integer_from(text, at) -/
abbrev b_integer_from : Ss := (.cons (.asg (.nm 2) (.call 24 (.cons (.var 0) (.cons (.var 1) (.cons (.glo "DIGITS" c_DIGITS) .nil)))))
    (.cons (.iff (.bo false (.cons (.cmp .Eq (.var 2) (.var 1)) (.cons (.cmp .Gt (.bin .Sub (.var 2) (.var 1)) (.glo "MOST_DIGITS" c_MOST_DIGITS)) (.cons (.bo true (.cons (.cmp .Eq (.ix (.var 0) (.var 1)) (.cst (.str "0"))) (.cons (.cmp .Gt (.bin .Sub (.var 2) (.var 1)) (.cst (.int 1))) .nil))) .nil)))) (.cons .stop
    .nil) .nil)
    (.cons (.ret (.tup (.cons (.bi .int (.cons (.slB (.var 0) (.var 1) (.var 2)) .nil)) (.cons (.var 2) .nil))))
    .nil)))
abbrev f_integer_from : Fd := ⟨2, 3, b_integer_from⟩
/-- 26: pair_from(text, at) -/
abbrev b_pair_from : Ss := (.cons (.asg (.tp [(.nm 2), (.nm 3)]) (.call 25 (.cons (.var 0) (.cons (.bin .Add (.var 1) (.cst (.int 1))) .nil))))
    (.cons (.ret (.tup (.cons (.tup (.cons (.var 2) (.cons (.ite (.cmp .Eq (.ix (.var 0) (.var 1)) (.cst (.str "+"))) (.cst (.int 1)) (.cst (.int 0))) .nil))) (.cons (.var 3) .nil))))
    .nil))
abbrev f_pair_from : Fd := ⟨2, 4, b_pair_from⟩
/-- 27: gathered(found) -/
abbrev b_gathered : Ss := (.cons (.iff (.cmp .NotIn (.ix (.var 0) (.cst (.int 0))) (.glo "FIRSTS" c_FIRSTS)) (.cons (.ret (.bi .tuple (.cons (.var 0) .nil)))
    .nil) .nil)
    (.cons (.asg (.nm 1) (.ite (.cmp .Eq (.ix (.var 0) (.cst (.int 0))) (.cst (.str "atoms"))) (.cst (.int 3)) (.cst (.int 2))))
    (.cons (.ret (.bin .Add (.bi .tuple (.cons (.slU (.var 0) (.var 1)) .nil)) (.tup (.cons (.bi .tuple (.cons (.slL (.var 0) (.var 1)) .nil)) .nil))))
    .nil)))
abbrev f_gathered : Fd := ⟨1, 2, b_gathered⟩
/-- 28: said_from(text, at, opened) -/
abbrev b_said_from : Ss := (.cons (.asg (.tp [(.nm 5), (.nm 3)]) (.tup (.cons (.slB (.var 0) (.var 1) (.bin .Add (.var 1) (.cst (.int 1)))) (.cons (.call 24 (.cons (.var 0) (.cons (.var 1) (.cons (.glo "SMALL" c_SMALL) .nil)))) .nil))))
    (.cons (.iff (.bo false (.cons (.cmp .Eq (.var 5) (.cst (.str "+"))) (.cons (.cmp .Eq (.var 5) (.cst (.str "-"))) .nil))) (.cons (.ret (.call 26 (.cons (.var 0) (.cons (.var 1) .nil))))
    .nil) .nil)
    (.cons (.iff (.cmp .Gt (.var 3) (.var 1)) (.cons (.iff (.cmp .NotEq (.slB (.var 0) (.var 1) (.var 3)) (.glo "BARE_WORD" c_BARE_WORD)) (.cons .stop
    .nil) .nil)
    (.cons (.ret (.tup (.cons (.tup (.cons (.glo "BARE_WORD" c_BARE_WORD) .nil)) (.cons (.var 3) .nil))))
    .nil)) .nil)
    (.cons (.iff (.cmp .NotEq (.var 5) (.cst (.str "("))) (.cons (.ret (.call 25 (.cons (.var 0) (.cons (.var 1) .nil))))
    .nil) .nil)
    (.cons (.iff (.cmp .Eq (.var 2) (.glo "MOST_DEEP" c_MOST_DEEP)) (.cons .stop
    .nil) .nil)
    (.cons (.asg (.nm 3) (.call 24 (.cons (.var 0) (.cons (.bin .Add (.var 1) (.cst (.int 1))) (.cons (.glo "SMALL" c_SMALL) .nil)))))
    (.cons (.asg (.nm 4) (.lst (.cons (.slB (.var 0) (.bin .Add (.var 1) (.cst (.int 1))) (.var 3)) .nil)))
    (.cons (.wh (.cmp .Eq (.slB (.var 0) (.var 3) (.bin .Add (.var 3) (.cst (.int 1)))) (.cst (.str " "))) (.cons (.asg (.tp [(.nm 6), (.nm 3)]) (.call 28 (.cons (.var 0) (.cons (.bin .Add (.var 3) (.cst (.int 1))) (.cons (.bin .Add (.var 2) (.cst (.int 1))) .nil)))))
    (.cons (.ex (.me .append (.var 4) (.cons (.var 6) .nil)))
    .nil)))
    (.cons (.iff (.bo false (.cons (.cmp .NotEq (.slB (.var 0) (.var 3) (.bin .Add (.var 3) (.cst (.int 1)))) (.cst (.str ")"))) (.cons (.cmp .Lt (.bi .len (.cons (.var 4) .nil)) (.cst (.int 2))) .nil))) (.cons .stop
    .nil) .nil)
    (.cons (.ret (.tup (.cons (.call 27 (.cons (.var 4) .nil)) (.cons (.bin .Add (.var 3) (.cst (.int 1))) .nil))))
    .nil))))))))))
abbrev f_said_from : Fd := ⟨3, 7, b_said_from⟩
/-- 29: said_in(text) -/
abbrev b_said_in : Ss := (.cons (.ex (.call 23 (.cons (.var 0) .nil)))
    (.cons (.asg (.tp [(.nm 1), (.nm 2)]) (.call 28 (.cons (.var 0) (.cons (.cst (.int 0)) (.cons (.cst (.int 0)) .nil)))))
    (.cons (.iff (.cmp .NotEq (.var 2) (.bi .len (.cons (.var 0) .nil))) (.cons .stop
    .nil) .nil)
    (.cons (.ret (.var 1))
    .nil))))
abbrev f_said_in : Fd := ⟨1, 3, b_said_in⟩
/-- 30: read_saying(text) -/
abbrev b_read_saying : Ss := (.cons (.asg (.nm 1) (.call 29 (.cons (.var 0) .nil)))
    (.cons (.iff (.nt (.call 8 (.cons (.var 1) .nil))) (.cons .stop
    .nil) .nil)
    (.cons (.ret (.var 1))
    .nil)))
abbrev f_read_saying : Fd := ⟨1, 2, b_read_saying⟩
/-- 31: _law_spring(script, place) -/
abbrev b__law_spring : Ss := (.cons (.asg (.nm 2) (.bin .Add (.cst (.int 90071992547)) (.bin .Mult (.cst (.int 1000003)) (.var 1))))
    (.cons (.fo (.nm 3) (.val (.slU (.var 0) (.cst (.int 63)))) (.cons (.asg (.nm 2) (.bin .Mod (.bi .int (.cons (.bin .Add (.bin .Add (.bin .Mult (.var 2) (.cst (.int 4611686018427387847))) (.bin .Mult (.bi .int (.cons (.var 3) .nil)) (.cst (.int 2654435789)))) (.cst (.int 12345678910987))) .nil)) (.cst (.int 162259276829213363391578010288127))))
    .nil))
    (.cons (.asg (.nm 4) (.ite (.cmp .Lt (.var 1) (.bi .len (.cons (.var 0) .nil))) (.bi .int (.cons (.ix (.var 0) (.var 1)) .nil)) (.cst (.int 0))))
    (.cons (.ret (.lst (.cons (.bi .max2 (.cons (.cst (.int 0)) (.cons (.bin .Sub (.bi .abs (.cons (.var 4) .nil)) (.bin .Pow (.cst (.int 10)) (.cst (.int 18)))) .nil))) (.cons (.var 2) .nil))))
    .nil))))
abbrev f__law_spring : Fd := ⟨2, 5, b__law_spring⟩
/-- 32: _law_pick(spring, many) -/
abbrev b__law_pick : Ss := (.cons (.iff (.cmp .Gt (.ix (.var 0) (.cst (.int 0))) (.cst (.int 0))) (.cons (.asg (.nm 3) (.bin .Mod (.bi .int (.cons (.ix (.var 0) (.cst (.int 0))) .nil)) (.var 1)))
    (.cons (.sub (.var 0) (.cst (.int 0)) (.bin .FloorDiv (.ix (.var 0) (.cst (.int 0))) (.var 1)))
    (.cons (.ret (.var 3))
    .nil))) .nil)
    (.cons (.sub (.var 0) (.cst (.int 1)) (.bin .Mod (.bi .int (.cons (.bin .Add (.bin .Mult (.ix (.var 0) (.cst (.int 1))) (.cst (.int 6364136223846793005))) (.cst (.int 1442695040888963407))) .nil)) (.cst (.int 162259276829213363391578010288127))))
    (.cons (.asg (.nm 2) (.bin .Mod (.bi .int (.cons (.bin .Add (.bin .Mult (.ix (.var 0) (.cst (.int 1))) (.ix (.var 0) (.cst (.int 1)))) (.bin .Mult (.cst (.int 7)) (.ix (.var 0) (.cst (.int 1))))) .nil)) (.cst (.int 618970019642690137449562111))))
    (.cons (.ret (.bin .Mod (.bi .int (.cons (.bin .FloorDiv (.var 2) (.cst (.int 1048583))) .nil)) (.var 1)))
    .nil))))
abbrev f__law_pick : Fd := ⟨2, 4, b__law_pick⟩
/-- 33: _law_like(told, due) -/
abbrev b__law_like : Ss := (.cons (.iff (.cmp .Is (.var 1) (.cst .non)) (.cons (.ret (.cmp .Is (.var 0) (.cst .non)))
    .nil) .nil)
    (.cons (.iff (.isi (.var 1) "bool") (.cons (.ret (.bo true (.cons (.isi (.var 0) "bool") (.cons (.cmp .Eq (.var 0) (.var 1)) .nil))))
    .nil) .nil)
    (.cons (.iff (.isi (.var 1) "int") (.cons (.ret (.bo true (.cons (.isi (.var 0) "int") (.cons (.nt (.isi (.var 0) "bool")) (.cons (.cmp .Eq (.var 0) (.var 1)) .nil)))))
    .nil) .nil)
    (.cons (.iff (.isi (.var 1) "str") (.cons (.ret (.bo true (.cons (.isi (.var 0) "str") (.cons (.cmp .Eq (.var 0) (.var 1)) .nil))))
    .nil) .nil)
    (.cons (.iff (.bo false (.cons (.cmp .NotEq (.isi (.var 1) "tuple") (.isi (.var 0) "tuple")) (.cons (.cmp .NotEq (.isi (.var 1) "list") (.isi (.var 0) "list")) .nil))) (.cons (.ret (.cst (.bl false)))
    .nil) .nil)
    (.cons (.ret (.bo true (.cons (.cmp .Eq (.bi .len (.cons (.var 0) .nil)) (.bi .len (.cons (.var 1) .nil))) (.cons (.bi .all (.cons (.lc [("own", 2), ("wanted", 3)] (.call 33 (.cons (.var 2) (.cons (.var 3) .nil))) (.tp [(.nm 2), (.nm 3)]) (.zp (.var 0) (.var 1)) .nil) .nil)) .nil))))
    .nil))))))
abbrev f__law_like : Fd := ⟨2, 4, b__law_like⟩
/-- 34: _law_free(saying) -/
abbrev b__law_free : Ss := (.cons (.iff (.cmp .In (.ix (.var 0) (.cst (.int 0))) (.tup (.cons (.cst (.str "empty")) (.cons (.cst (.str "atoms")) (.cons (.cst (.str "smooth")) .nil))))) (.cons (.ret (.lc [("name", 3), ("bit", 4)] (.var 3) (.tp [(.nm 3), (.nm 4)]) (.val (.ix (.var 0) (.neg (.cst (.int 1))))) .nil))
    .nil) .nil)
    (.cons (.asg (.nm 1) (.lst .nil))
    (.cons (.fo (.nm 2) (.val (.ite (.cmp .In (.ix (.var 0) (.cst (.int 0))) (.tup (.cons (.cst (.str "not")) (.cons (.cst (.str "both")) (.cons (.cst (.str "either")) .nil))))) (.slL (.var 0) (.cst (.int 1))) (.slL (.var 0) (.cst (.int 2))))) (.cons (.asg (.nm 1) (.bin .Add (.var 1) (.call 34 (.cons (.var 2) .nil))))
    .nil))
    (.cons (.ret (.lc [("name", 3)] (.var 3) (.nm 3) (.val (.bi .sset (.cons (.var 1) .nil))) (.cons (.bo false (.cons (.cmp .NotIn (.ix (.var 0) (.cst (.int 0))) (.tup (.cons (.cst (.str "some")) (.cons (.cst (.str "every")) .nil)))) (.cons (.cmp .NotEq (.var 3) (.ix (.var 0) (.cst (.int 1)))) .nil))) .nil)))
    .nil))))
abbrev f__law_free : Fd := ⟨1, 5, b__law_free⟩
/-- 35: _law_high(saying) -/
abbrev b__law_high : Ss := (.cons (.iff (.cmp .In (.ix (.var 0) (.cst (.int 0))) (.tup (.cons (.cst (.str "empty")) (.cons (.cst (.str "atoms")) (.cons (.cst (.str "smooth")) .nil))))) (.cons (.ret (.cst (.int 0)))
    .nil) .nil)
    (.cons (.iff (.cmp .In (.ix (.var 0) (.cst (.int 0))) (.tup (.cons (.cst (.str "some")) (.cons (.cst (.str "every")) .nil)))) (.cons (.ret (.bin .Add (.cst (.int 1)) (.call 35 (.cons (.ix (.var 0) (.cst (.int 2))) .nil))))
    .nil) .nil)
    (.cons (.ret (.bi .max1 (.cons (.lc [("inner", 1)] (.call 35 (.cons (.var 1) .nil)) (.nm 1) (.val (.slL (.var 0) (.cst (.int 1)))) .nil) .nil)))
    .nil)))
abbrev f__law_high : Fd := ⟨1, 2, b__law_high⟩
/-- 36: _law_meet_of(spring, names) -/
abbrev b__law_meet_of : Ss := (.cons (.asg (.nm 2) (.lst .nil))
    (.cons (.fo (.nm 3) (.val (.var 1)) (.cons (.asg (.nm 4) (.call 32 (.cons (.var 0) (.cons (.cst (.int 2)) .nil))))
    (.cons (.iff (.cmp .Gt (.call 32 (.cons (.var 0) (.cons (.cst (.int 4)) .nil))) (.cst (.int 0))) (.cons (.ex (.me .append (.var 2) (.cons (.tup (.cons (.var 3) (.cons (.var 4) .nil))) .nil)))
    .nil) .nil)
    .nil)))
    (.cons (.ret (.bi .tuple (.cons (.var 2) .nil)))
    .nil)))
abbrev f__law_meet_of : Fd := ⟨2, 5, b__law_meet_of⟩
/-- 37: _law_below(saying, name, bit) -/
abbrev b__law_below : Ss := (.cons (.iff (.cmp .In (.ix (.var 0) (.cst (.int 0))) (.tup (.cons (.cst (.str "empty")) (.cons (.cst (.str "atoms")) (.cons (.cst (.str "smooth")) .nil))))) (.cons (.ret (.bin .Add (.slU (.var 0) (.neg (.cst (.int 1)))) (.tup (.cons (.bi .tuple (.cons (.bi .sorted (.cons (.bin .Add (.ix (.var 0) (.neg (.cst (.int 1)))) (.tup (.cons (.tup (.cons (.var 1) (.cons (.var 2) .nil))) .nil))) .nil)) .nil)) .nil))))
    .nil) .nil)
    (.cons (.iff (.cmp .In (.ix (.var 0) (.cst (.int 0))) (.tup (.cons (.cst (.str "some")) (.cons (.cst (.str "every")) .nil)))) (.cons (.ret (.tup (.cons (.ix (.var 0) (.cst (.int 0))) (.cons (.ix (.var 0) (.cst (.int 1))) (.cons (.call 37 (.cons (.ix (.var 0) (.cst (.int 2))) (.cons (.var 1) (.cons (.var 2) .nil)))) .nil)))))
    .nil) .nil)
    (.cons (.ret (.bin .Add (.tup (.cons (.ix (.var 0) (.cst (.int 0))) .nil)) (.bi .tuple (.cons (.lc [("inner", 3)] (.call 37 (.cons (.var 3) (.cons (.var 1) (.cons (.var 2) .nil)))) (.nm 3) (.val (.slL (.var 0) (.cst (.int 1)))) .nil) .nil))))
    .nil)))
abbrev f__law_below : Fd := ⟨3, 4, b__law_below⟩
/-- 38: _law_any(spring, names, others, size, high) -/
abbrev b__law_any : Ss := (.cons (.asg (.tp [(.nm 7), (.nm 8)]) (.tup (.cons (.call 32 (.cons (.var 0) (.cons (.cst (.int 7)) .nil))) (.cons (.call 32 (.cons (.var 0) (.cons (.cst (.int 3)) .nil))) .nil))))
    (.cons (.iff (.bo false (.cons (.cmp .Lt (.var 3) (.cst (.int 2))) (.cons (.cmp .Eq (.var 7) (.cst (.int 0))) .nil))) (.cons (.asg (.tp [(.nm 11), (.nm 12)]) (.tup (.cons (.call 36 (.cons (.var 0) (.cons (.var 1) .nil))) (.cons (.call 32 (.cons (.var 0) (.cons (.cst (.int 3)) .nil))) .nil))))
    (.cons (.ret (.ix (.lst (.cons (.tup (.cons (.cst (.str "empty")) (.cons (.var 12) (.cons (.var 11) .nil)))) (.cons (.tup (.cons (.cst (.str "atoms")) (.cons (.var 12) (.cons (.bin .Add (.cst (.int 1)) (.call 32 (.cons (.var 0) (.cons (.cst (.int 4)) .nil)))) (.cons (.var 11) .nil))))) (.cons (.tup (.cons (.cst (.str "smooth")) (.cons (.var 12) (.cons (.var 11) .nil)))) .nil)))) (.var 8)))
    .nil)) .nil)
    (.cons (.iff (.bo true (.cons (.cmp .Lt (.var 7) (.cst (.int 4))) (.cons (.cmp .Gt (.var 4) (.cst (.int 0))) .nil))) (.cons (.asg (.nm 9) (.ix (.var 2) (.call 32 (.cons (.var 0) (.cons (.bi .len (.cons (.var 2) .nil)) .nil)))))
    (.cons (.asg (.nm 10) (.call 38 (.cons (.var 0) (.cons (.bi .sset (.cons (.bin .Add (.var 1) (.lst (.cons (.var 9) .nil))) .nil)) (.cons (.var 2) (.cons (.bin .Sub (.var 3) (.cst (.int 1))) (.cons (.bin .Sub (.var 4) (.cst (.int 1))) .nil)))))))
    (.cons (.ret (.tup (.cons (.ix (.lst (.cons (.cst (.str "some")) (.cons (.cst (.str "every")) .nil))) (.call 32 (.cons (.var 0) (.cons (.cst (.int 2)) .nil)))) (.cons (.var 9) (.cons (.var 10) .nil)))))
    .nil))) .nil)
    (.cons (.iff (.bo false (.cons (.cmp .Eq (.var 7) (.cst (.int 4))) (.cons (.cmp .Lt (.var 3) (.cst (.int 3))) .nil))) (.cons (.ret (.tup (.cons (.cst (.str "not")) (.cons (.call 38 (.cons (.var 0) (.cons (.var 1) (.cons (.var 2) (.cons (.bin .Sub (.var 3) (.cst (.int 1))) (.cons (.var 4) .nil)))))) .nil))))
    .nil) .nil)
    (.cons (.asg (.nm 5) (.bin .FloorDiv (.bin .Sub (.var 3) (.cst (.int 1))) (.cst (.int 2))))
    (.cons (.asg (.nm 6) (.call 38 (.cons (.var 0) (.cons (.var 1) (.cons (.var 2) (.cons (.var 5) (.cons (.var 4) .nil)))))))
    (.cons (.ret (.tup (.cons (.ix (.lst (.cons (.cst (.str "both")) (.cons (.cst (.str "either")) .nil))) (.call 32 (.cons (.var 0) (.cons (.cst (.int 2)) .nil)))) (.cons (.var 6) (.cons (.call 38 (.cons (.var 0) (.cons (.var 1) (.cons (.var 2) (.cons (.var 5) (.cons (.var 4) .nil)))))) .nil)))))
    .nil)))))))
abbrev f__law_any : Fd := ⟨5, 13, b__law_any⟩
/-- 39: _law_parts(saying) -/
abbrev b__law_parts : Ss := (.cons (.iff (.cmp .In (.ix (.var 0) (.cst (.int 0))) (.tup (.cons (.cst (.str "empty")) (.cons (.cst (.str "atoms")) (.cons (.cst (.str "smooth")) .nil))))) (.cons (.ret (.tup (.cons (.var 0) .nil)))
    .nil) .nil)
    (.cons (.asg (.nm 1) (.tup .nil))
    (.cons (.fo (.nm 2) (.val (.ite (.cmp .In (.ix (.var 0) (.cst (.int 0))) (.tup (.cons (.cst (.str "some")) (.cons (.cst (.str "every")) .nil)))) (.slL (.var 0) (.cst (.int 2))) (.slL (.var 0) (.cst (.int 1))))) (.cons (.asg (.nm 1) (.bin .Add (.var 1) (.call 39 (.cons (.var 2) .nil))))
    .nil))
    (.cons (.ret (.bin .Add (.var 1) (.tup (.cons (.var 0) .nil))))
    .nil))))
abbrev f__law_parts : Fd := ⟨1, 3, b__law_parts⟩
/-- 40: _law_is_plain(saying) -/
abbrev b__law_is_plain : Ss := (.cons (.ret (.bi .all (.cons (.lc [("part", 1)] (.bo true (.cons (.cmp .NotIn (.ix (.var 1) (.cst (.int 0))) (.tup (.cons (.cst (.str "atoms")) (.cons (.cst (.str "smooth")) .nil)))) (.cons (.bo false (.cons (.cmp .NotEq (.ix (.var 1) (.cst (.int 0))) (.cst (.str "empty"))) (.cons (.cmp .Eq (.ix (.var 1) (.cst (.int 1))) (.cst (.int 0))) .nil))) .nil))) (.nm 1) (.val (.call 39 (.cons (.var 0) .nil))) .nil) .nil)))
    .nil)
abbrev f__law_is_plain : Fd := ⟨1, 2, b__law_is_plain⟩
/-- 41: _law_spoilt(saying, name, way) -/
abbrev b__law_spoilt : Ss := (.cons (.iff (.cmp .In (.ix (.var 0) (.cst (.int 0))) (.tup (.cons (.cst (.str "some")) (.cons (.cst (.str "every")) .nil)))) (.cons (.ret (.bin .Add (.slU (.var 0) (.cst (.int 2))) (.tup (.cons (.call 41 (.cons (.ix (.var 0) (.cst (.int 2))) (.cons (.var 1) (.cons (.var 2) .nil)))) .nil))))
    .nil) .nil)
    (.cons (.iff (.cmp .In (.ix (.var 0) (.cst (.int 0))) (.tup (.cons (.cst (.str "not")) (.cons (.cst (.str "both")) (.cons (.cst (.str "either")) .nil))))) (.cons (.ret (.bin .Add (.tup (.cons (.ix (.var 0) (.cst (.int 0))) (.cons (.call 41 (.cons (.ix (.var 0) (.cst (.int 1))) (.cons (.var 1) (.cons (.var 2) .nil)))) .nil))) (.slL (.var 0) (.cst (.int 2)))))
    .nil) .nil)
    (.cons (.asg (.nm 3) (.bi .tuple (.cons (.lc [("pair", 5)] (.var 5) (.nm 5) (.val (.ix (.var 0) (.neg (.cst (.int 1))))) (.cons (.cmp .NotEq (.ix (.var 5) (.cst (.int 0))) (.var 1)) .nil)) .nil)))
    (.cons (.asg (.nm 4) (.ix (.lst (.cons (.tup (.cons (.tup (.cons (.var 1) (.cons (.cst (.int 1)) .nil))) (.cons (.tup (.cons (.var 1) (.cons (.cst (.int 1)) .nil))) .nil))) (.cons (.tup (.cons (.tup (.cons (.var 1) (.cons (.cst (.int 0)) .nil))) (.cons (.tup (.cons (.var 1) (.cons (.cst (.int 1)) .nil))) .nil))) (.cons (.bin .Add (.var 3) (.tup (.cons (.tup (.cons (.var 1) (.cons (.cst (.int 1)) .nil))) (.cons (.tup (.cons (.bin .Sub (.var 1) (.cst (.int 1))) (.cons (.cst (.int 0)) .nil))) .nil)))) (.cons (.bin .Add (.tup (.cons (.tup (.cons (.var 1) (.cons (.cst (.bl true)) .nil))) .nil)) (.var 3)) .nil))))) (.var 2)))
    (.cons (.ret (.bin .Add (.slU (.var 0) (.neg (.cst (.int 1)))) (.tup (.cons (.var 4) .nil))))
    .nil)))))
abbrev f__law_spoilt : Fd := ⟨3, 6, b__law_spoilt⟩
/-- 42: _law_right(spring) -/
abbrev b__law_right : Ss := (.cons (.fo (.nm 1) (.rg (.cst (.int 6))) (.cons (.asg (.nm 2) (.call 32 (.cons (.var 0) (.cons (.cst (.int 3)) .nil))))
    (.cons (.asg (.nm 3) (.lc [("other", 9)] (.var 9) (.nm 9) (.val (.tup (.cons (.cst (.int 0)) (.cons (.cst (.int 1)) (.cons (.cst (.int 2)) .nil))))) (.cons (.cmp .NotEq (.var 9) (.var 2)) .nil)))
    (.cons (.asg (.nm 4) (.call 38 (.cons (.var 0) (.cons (.slU (.var 3) (.call 32 (.cons (.var 0) (.cons (.cst (.int 3)) .nil)))) (.cons (.var 3) (.cons (.bin .Add (.cst (.int 1)) (.call 32 (.cons (.var 0) (.cons (.cst (.int 14)) .nil)))) (.cons (.cst (.int 3)) .nil)))))))
    (.cons (.fo (.nm 5) (.val (.tup (.cons (.cst (.int 0)) (.cons (.cst (.int 1)) .nil)))) (.cons (.asg (.tp [(.nm 10), (.nm 11)]) (.tup (.cons (.call 37 (.cons (.var 4) (.cons (.var 2) (.cons (.var 5) .nil)))) (.cons (.bi .repr (.cons (.var 4) .nil)) .nil))))
    (.cons (.asg (.nm 6) (.bi .tuple (.cons (.lc [("part", 12)] (.call 37 (.cons (.var 12) (.cons (.var 2) (.cons (.var 5) .nil)))) (.nm 12) (.val (.call 39 (.cons (.var 4) .nil))) .nil) .nil)))
    (.cons (.asg (.nm 7) (.bi .tuple (.cons (.bi .sorted (.cons (.bin .Add (.call 34 (.cons (.var 4) .nil)) (.lst (.cons (.var 2) .nil))) .nil)) .nil)))
    (.cons (.asg (.nm 8) (.lst (.cons (.call 16 (.cons (.var 10) .nil)) (.cons (.call 17 (.cons (.var 10) .nil)) (.cons (.call 18 (.cons (.var 10) .nil)) (.cons (.call 19 (.cons (.var 10) .nil)) (.cons (.call 20 (.cons (.var 10) .nil)) .nil)))))))
    (.cons (.iff (.bo false (.cons (.nt (.call 33 (.cons (.var 8) (.cons (.lst (.cons (.cst (.bl true)) (.cons (.var 7) (.cons (.var 6) (.cons (.call 35 (.cons (.var 4) .nil)) (.cons (.call 40 (.cons (.var 4) .nil)) .nil)))))) .nil)))) (.cons (.cmp .Gt (.bi .len (.cons (.var 6) .nil)) (.cst (.int 14))) .nil))) (.cons (.ret (.cst (.bl false)))
    .nil) .nil)
    (.cons (.iff (.bo false (.cons (.nt (.call 33 (.cons (.lst (.cons (.call 30 (.cons (.call 22 (.cons (.var 10) .nil)) .nil)) (.cons (.callK 18 [0] 0 (.cons (.var 10) .nil)) .nil))) (.cons (.lst (.cons (.var 10) (.cons (.var 6) .nil))) .nil)))) (.cons (.cmp .NotEq (.bi .repr (.cons (.var 4) .nil)) (.var 11)) .nil))) (.cons (.ret (.cst (.bl false)))
    .nil) .nil)
    (.cons (.iff (.cmp .NotEq (.lc [("way", 13)] (.call 16 (.cons (.call 41 (.cons (.var 10) (.cons (.var 2) (.cons (.var 13) .nil)))) .nil)) (.nm 13) (.rg (.cst (.int 4))) .nil) (.bin .Mult (.lst (.cons (.cst (.bl false)) .nil)) (.cst (.int 4)))) (.cons (.ret (.cst (.bl false)))
    .nil) .nil)
    .nil))))))))
    .nil)))))
    (.cons (.ret (.cst (.bl true)))
    .nil))
abbrev f__law_right : Fd := ⟨1, 14, b__law_right⟩
/-- 43: law(script) -/
abbrev b_law : Ss := (.cons (.fo (.nm 1) (.rg (.bi .max2 (.cons (.cst (.int 1)) (.cons (.bi .min2 (.cons (.cst (.int 2)) (.cons (.bi .len (.cons (.var 0) .nil)) .nil))) .nil)))) (.cons (.iff (.nt (.call 42 (.cons (.call 31 (.cons (.var 0) (.cons (.var 1) .nil))) .nil))) (.cons (.ret (.cst (.bl false)))
    .nil) .nil)
    .nil))
    (.cons (.ret (.cst (.bl true)))
    .nil))
abbrev f_law : Fd := ⟨1, 2, b_law⟩
abbrev T : List Fd := f_is_integer :: f_is_natural :: f_is_between :: f_is_ascending :: f_rising :: f_is_meet :: f_is_first :: f_must_be :: f_is_saying_in :: f_check_saying :: f_inner_sayings :: f_is_atom_saying :: f_free_in :: f_parts_in :: f_height_in :: f_is_plain_in :: f_is_saying :: f_free_parts :: f_parts_of :: f_height :: f_is_plain :: f_show_meet :: f_show_saying :: f_check_text :: f_end_of :: f_integer_from :: f_pair_from :: f_gathered :: f_said_from :: f_said_in :: f_read_saying :: f__law_spring :: f__law_pick :: f__law_like :: f__law_free :: f__law_high :: f__law_meet_of :: f__law_below :: f__law_any :: f__law_parts :: f__law_is_plain :: f__law_spoilt :: f__law_right :: f_law :: []
abbrev freeN : List Str := ["abs", "all", "bool", "int", "isinstance", "len", "list", "max", "min", "range", "repr", "set", "sorted", "str", "tuple", "zip"]
abbrev fnsN : List (Str × Nat) := ("is_integer", 0) :: ("is_natural", 1) :: ("is_between", 2) :: ("is_ascending", 3) :: ("rising", 4) :: ("is_meet", 5) :: ("is_first", 6) :: ("must_be", 7) :: ("is_saying_in", 8) :: ("check_saying", 9) :: ("inner_sayings", 10) :: ("is_atom_saying", 11) :: ("free_in", 12) :: ("parts_in", 13) :: ("height_in", 14) :: ("is_plain_in", 15) :: ("is_saying", 16) :: ("free_parts", 17) :: ("parts_of", 18) :: ("height", 19) :: ("is_plain", 20) :: ("show_meet", 21) :: ("show_saying", 22) :: ("check_text", 23) :: ("end_of", 24) :: ("integer_from", 25) :: ("pair_from", 26) :: ("gathered", 27) :: ("said_from", 28) :: ("said_in", 29) :: ("read_saying", 30) :: ("_law_spring", 31) :: ("_law_pick", 32) :: ("_law_like", 33) :: ("_law_free", 34) :: ("_law_high", 35) :: ("_law_meet_of", 36) :: ("_law_below", 37) :: ("_law_any", 38) :: ("_law_parts", 39) :: ("_law_is_plain", 40) :: ("_law_spoilt", 41) :: ("_law_right", 42) :: ("law", 43) :: []
abbrev kwsN : List (Str × List Str × List Nat) := [("parts_of", ["saying"], [0])]
abbrev csN : List (Str × PV) := [("MOST_PARTS", c_MOST_PARTS), ("OF_TWO", c_OF_TWO), ("OF_A_PART", c_OF_A_PART), ("DIGITS", c_DIGITS), ("SMALL", c_SMALL), ("MOST_DEEP", c_MOST_DEEP), ("MOST_DIGITS", c_MOST_DIGITS), ("BARE_WORD", c_BARE_WORD), ("FIRSTS", c_FIRSTS)]
abbrev tb : Tb := ⟨freeN, fnsN, kwsN, csN⟩
abbrev infos : List Inf := ⟨"is_integer", 5, ["value"], ["value"], f_is_integer⟩ ::
  ⟨"is_natural", 6, ["value"], ["value"], f_is_natural⟩ ::
  ⟨"is_between", 7, ["value", "low", "high"], ["value", "low", "high"], f_is_between⟩ ::
  ⟨"is_ascending", 8, ["items"], ["items", "one", "other"], f_is_ascending⟩ ::
  ⟨"rising", 9, ["values"], ["values", "value"], f_rising⟩ ::
  ⟨"is_meet", 14, ["told"], ["told", "pair", "name", "bit"], f_is_meet⟩ ::
  ⟨"is_first", 15, ["told"], ["told"], f_is_first⟩ ::
  ⟨"must_be", 16, ["told"], ["told", "word", "rest"], f_must_be⟩ ::
  ⟨"is_saying_in", 17, ["told"], ["told", "waiting", "inner"], f_is_saying_in⟩ ::
  ⟨"check_saying", 18, ["saying"], ["saying"], f_check_saying⟩ ::
  ⟨"inner_sayings", 19, ["saying"], ["saying"], f_inner_sayings⟩ ::
  ⟨"is_atom_saying", 20, ["saying"], ["saying"], f_is_atom_saying⟩ ::
  ⟨"free_in", 21, ["saying"], ["saying", "names", "part", "name", "bit"], f_free_in⟩ ::
  ⟨"parts_in", 22, ["saying"], ["saying", "inner", "part"], f_parts_in⟩ ::
  ⟨"height_in", 23, ["saying"], ["saying", "own", "part"], f_height_in⟩ ::
  ⟨"is_plain_in", 24, ["saying"], ["saying", "part"], f_is_plain_in⟩ ::
  ⟨"is_saying", 25, ["told"], ["told"], f_is_saying⟩ ::
  ⟨"free_parts", 26, ["saying"], ["saying"], f_free_parts⟩ ::
  ⟨"parts_of", 27, ["saying"], ["saying"], f_parts_of⟩ ::
  ⟨"height", 28, ["saying"], ["saying"], f_height⟩ ::
  ⟨"is_plain", 29, ["saying"], ["saying"], f_is_plain⟩ ::
  ⟨"show_meet", 31, ["meet"], ["meet", "name", "bit"], f_show_meet⟩ ::
  ⟨"show_saying", 32, ["saying"], ["saying", "pieces", "own"], f_show_saying⟩ ::
  ⟨"check_text", 40, ["text"], ["text"], f_check_text⟩ ::
  ⟨"end_of", 41, ["text", "at", "signs"], ["text", "at", "signs", "end"], f_end_of⟩ ::
  ⟨"integer_from", 42, ["text", "at"], ["text", "at", "end"], f_integer_from⟩ ::
  ⟨"pair_from", 43, ["text", "at"], ["text", "at", "name", "end"], f_pair_from⟩ ::
  ⟨"gathered", 44, ["found"], ["found", "size"], f_gathered⟩ ::
  ⟨"said_from", 45, ["text", "at", "opened"], ["text", "at", "opened", "end", "found", "sign", "thing"], f_said_from⟩ ::
  ⟨"said_in", 46, ["text"], ["text", "thing", "end"], f_said_in⟩ ::
  ⟨"read_saying", 47, ["text"], ["text", "found"], f_read_saying⟩ ::
  ⟨"_law_spring", 49, ["script", "place"], ["script", "place", "mixed", "cell", "own"], f__law_spring⟩ ::
  ⟨"_law_pick", 50, ["spring", "many"], ["spring", "many", "mixed", "found"], f__law_pick⟩ ::
  ⟨"_law_like", 51, ["told", "due"], ["told", "due", "own", "wanted"], f__law_like⟩ ::
  ⟨"_law_free", 52, ["saying"], ["saying", "found", "inner", "name", "bit"], f__law_free⟩ ::
  ⟨"_law_high", 53, ["saying"], ["saying", "inner"], f__law_high⟩ ::
  ⟨"_law_meet_of", 54, ["spring", "names"], ["spring", "names", "found", "name", "bit"], f__law_meet_of⟩ ::
  ⟨"_law_below", 55, ["saying", "name", "bit"], ["saying", "name", "bit", "inner"], f__law_below⟩ ::
  ⟨"_law_any", 56, ["spring", "names", "others", "size", "high"], ["spring", "names", "others", "size", "high", "half", "one", "way", "sort", "name", "inner", "pairs", "level"], f__law_any⟩ ::
  ⟨"_law_parts", 57, ["saying"], ["saying", "found", "inner"], f__law_parts⟩ ::
  ⟨"_law_is_plain", 58, ["saying"], ["saying", "part"], f__law_is_plain⟩ ::
  ⟨"_law_spoilt", 59, ["saying", "name", "way"], ["saying", "name", "way", "meet", "bent", "pair"], f__law_spoilt⟩ ::
  ⟨"_law_right", 60, ["spring"], ["spring", "turn", "name", "others", "saying", "bit", "parts", "free", "found", "other", "told", "kept", "part", "way"], f__law_right⟩ ::
  ⟨"law", 61, ["script"], ["script", "place"], f_law⟩ :: []

theorem infos_T : T = infos.map (·.d) := rfl
theorem fns_ok : tb.fns = fnsOf infos := by decide +kernel
theorem chk : (infos.all fun z => z.chk prog tb) = true := by decide +kernel
theorem binds : AllI (BindP prog) infos :=
  ⟨(fun _ _ _ _ _ _ us hl => match us, hl with | [_], _ => rfl),
  (fun _ _ _ _ _ _ us hl => match us, hl with | [_], _ => rfl),
  (fun _ _ _ _ _ _ us hl => match us, hl with | [_, _, _], _ => rfl),
  (fun _ _ _ _ _ _ us hl => match us, hl with | [_], _ => rfl),
  (fun _ _ _ _ _ _ us hl => match us, hl with | [_], _ => rfl),
  (fun _ _ _ _ _ _ us hl => match us, hl with | [_], _ => rfl),
  (fun _ _ _ _ _ _ us hl => match us, hl with | [_], _ => rfl),
  (fun _ _ _ _ _ _ us hl => match us, hl with | [_], _ => rfl),
  (fun _ _ _ _ _ _ us hl => match us, hl with | [_], _ => rfl),
  (fun _ _ _ _ _ _ us hl => match us, hl with | [_], _ => rfl),
  (fun _ _ _ _ _ _ us hl => match us, hl with | [_], _ => rfl),
  (fun _ _ _ _ _ _ us hl => match us, hl with | [_], _ => rfl),
  (fun _ _ _ _ _ _ us hl => match us, hl with | [_], _ => rfl),
  (fun _ _ _ _ _ _ us hl => match us, hl with | [_], _ => rfl),
  (fun _ _ _ _ _ _ us hl => match us, hl with | [_], _ => rfl),
  (fun _ _ _ _ _ _ us hl => match us, hl with | [_], _ => rfl),
  (fun _ _ _ _ _ _ us hl => match us, hl with | [_], _ => rfl),
  (fun _ _ _ _ _ _ us hl => match us, hl with | [_], _ => rfl),
  (fun _ _ _ _ _ _ us hl => match us, hl with | [_], _ => rfl),
  (fun _ _ _ _ _ _ us hl => match us, hl with | [_], _ => rfl),
  (fun _ _ _ _ _ _ us hl => match us, hl with | [_], _ => rfl),
  (fun _ _ _ _ _ _ us hl => match us, hl with | [_], _ => rfl),
  (fun _ _ _ _ _ _ us hl => match us, hl with | [_], _ => rfl),
  (fun _ _ _ _ _ _ us hl => match us, hl with | [_], _ => rfl),
  (fun _ _ _ _ _ _ us hl => match us, hl with | [_, _, _], _ => rfl),
  (fun _ _ _ _ _ _ us hl => match us, hl with | [_, _], _ => rfl),
  (fun _ _ _ _ _ _ us hl => match us, hl with | [_, _], _ => rfl),
  (fun _ _ _ _ _ _ us hl => match us, hl with | [_], _ => rfl),
  (fun _ _ _ _ _ _ us hl => match us, hl with | [_, _, _], _ => rfl),
  (fun _ _ _ _ _ _ us hl => match us, hl with | [_], _ => rfl),
  (fun _ _ _ _ _ _ us hl => match us, hl with | [_], _ => rfl),
  (fun _ _ _ _ _ _ us hl => match us, hl with | [_, _], _ => rfl),
  (fun _ _ _ _ _ _ us hl => match us, hl with | [_, _], _ => rfl),
  (fun _ _ _ _ _ _ us hl => match us, hl with | [_, _], _ => rfl),
  (fun _ _ _ _ _ _ us hl => match us, hl with | [_], _ => rfl),
  (fun _ _ _ _ _ _ us hl => match us, hl with | [_], _ => rfl),
  (fun _ _ _ _ _ _ us hl => match us, hl with | [_, _], _ => rfl),
  (fun _ _ _ _ _ _ us hl => match us, hl with | [_, _, _], _ => rfl),
  (fun _ _ _ _ _ _ us hl => match us, hl with | [_, _, _, _, _], _ => rfl),
  (fun _ _ _ _ _ _ us hl => match us, hl with | [_], _ => rfl),
  (fun _ _ _ _ _ _ us hl => match us, hl with | [_], _ => rfl),
  (fun _ _ _ _ _ _ us hl => match us, hl with | [_, _, _], _ => rfl),
  (fun _ _ _ _ _ _ us hl => match us, hl with | [_], _ => rfl),
  (fun _ _ _ _ _ _ us hl => match us, hl with | [_], _ => rfl), trivial⟩
theorem kw0 : AllI (fun z => ("parts_of" : PySem.Str) = z.name → KwP prog z ["saying"] [0]) infos :=
  ⟨(fun e => absurd e (by decide +kernel)),
  (fun e => absurd e (by decide +kernel)),
  (fun e => absurd e (by decide +kernel)),
  (fun e => absurd e (by decide +kernel)),
  (fun e => absurd e (by decide +kernel)),
  (fun e => absurd e (by decide +kernel)),
  (fun e => absurd e (by decide +kernel)),
  (fun e => absurd e (by decide +kernel)),
  (fun e => absurd e (by decide +kernel)),
  (fun e => absurd e (by decide +kernel)),
  (fun e => absurd e (by decide +kernel)),
  (fun e => absurd e (by decide +kernel)),
  (fun e => absurd e (by decide +kernel)),
  (fun e => absurd e (by decide +kernel)),
  (fun e => absurd e (by decide +kernel)),
  (fun e => absurd e (by decide +kernel)),
  (fun e => absurd e (by decide +kernel)),
  (fun e => absurd e (by decide +kernel)),
  (fun _ _ _ _ _ _ _ ws hl => match ws, hl with | [w0], _ => ⟨[w0], rfl, rfl, rfl⟩),
  (fun e => absurd e (by decide +kernel)),
  (fun e => absurd e (by decide +kernel)),
  (fun e => absurd e (by decide +kernel)),
  (fun e => absurd e (by decide +kernel)),
  (fun e => absurd e (by decide +kernel)),
  (fun e => absurd e (by decide +kernel)),
  (fun e => absurd e (by decide +kernel)),
  (fun e => absurd e (by decide +kernel)),
  (fun e => absurd e (by decide +kernel)),
  (fun e => absurd e (by decide +kernel)),
  (fun e => absurd e (by decide +kernel)),
  (fun e => absurd e (by decide +kernel)),
  (fun e => absurd e (by decide +kernel)),
  (fun e => absurd e (by decide +kernel)),
  (fun e => absurd e (by decide +kernel)),
  (fun e => absurd e (by decide +kernel)),
  (fun e => absurd e (by decide +kernel)),
  (fun e => absurd e (by decide +kernel)),
  (fun e => absurd e (by decide +kernel)),
  (fun e => absurd e (by decide +kernel)),
  (fun e => absurd e (by decide +kernel)),
  (fun e => absurd e (by decide +kernel)),
  (fun e => absurd e (by decide +kernel)),
  (fun e => absurd e (by decide +kernel)),
  (fun e => absurd e (by decide +kernel)), trivial⟩
theorem kwOk : ∀ q ∈ tb.kws, ∀ z ∈ infos, q.1 = z.name → KwP prog z q.2.1 q.2.2 := by
  intro q hq z hz e
  have hq : q ∈ kwsN := hq
  simp only [kwsN, List.mem_cons, List.not_mem_nil, or_false] at hq
  subst hq
  exact kw0.mem hz e

end Lw
end

section
set_option Elab.async false
set_option linter.all false
set_option maxRecDepth 100000
set_option maxHeartbeats 0
namespace Lw
open PySem PySem.Spec L2 Pv

/-! ### the head -/
abbrev R : PySem.W.OpenRow := PySem.W.OpenLaw.row PySem.Challenge.rw_wholeparts_k29_whole_forms_of_relative_s
abbrev faL : List He.Fa := faOf tb infos
abbrev fnL : List He.DefD := fnOfI prog infos
abbrev hk : PySem.W.Hook := hookP 4 faL fnL tb.cs
def ob (s : PySem.W.SharedT) : Bool × He.AlD := obsP 4 faL fnL tb.cs (HandSHeadRun.getT s)
theorem ob_eq (s : PySem.W.SharedT) : ob s = hk.obs s.abs := obsP_eq (HandSHeadRun.getT_eq s)
abbrev loose : List PySem.Str := (["WholeError", "InvalidSaying", "Unreadable", "is_integer", "is_natural", "is_between", "is_ascending", "rising", "MOST_PARTS", "OF_TWO", "OF_A_PART", "is_meet", "is_first", "must_be", "is_saying_in", "check_saying", "inner_sayings", "is_atom_saying", "free_in", "parts_in", "height_in", "is_plain_in", "is_saying", "free_parts", "parts_of", "height", "is_plain", "show_meet", "show_saying", "DIGITS"] : List PySem.Str) ++ (["SMALL", "MOST_DEEP", "MOST_DIGITS", "BARE_WORD", "FIRSTS", "check_text", "end_of", "integer_from", "pair_from", "gathered", "said_from", "said_in", "read_saying", "_law_spring", "_law_pick", "_law_like", "_law_free", "_law_high", "_law_meet_of", "_law_below", "_law_any", "_law_parts", "_law_is_plain", "_law_spoilt", "_law_right"] : List PySem.Str)
theorem run (w : World) : HandSHeadRun.RunEq R (PySem.W.view R.prog [61]) hk ob 6000 loose w := by
  intro os
  kernel_rfl
theorem room_caller {k : Nat} (h : k ≤ 230) : Room k callerA := by
  have h1 : callerA.depth ≤ 301 := by decide
  have h2 : callerA.units ≤ 500 := by decide
  have h3 : recursionLimit = 1000 := rfl
  have h4 : 9000 ≤ cLine := by decide
  exact ⟨rfl, by omega, by omega⟩
/-- the law holds, if its own meaning answers True -/
theorem holds_of (k : Nat) (hk2 : k ≤ 229) (main : ∀ is : List Int, is.length ≤ 63 → ∃ μ, runT T (k + 1) 43 [.rol (is.map PV.int)] [] = some (.bl true, μ)) : PySem.Challenge.rw_wholeparts_k29_whole_forms_of_relative_s.Holds := by
  w_on; o_law
  refine HandSHeadRun.head_any (r := PySem.W.OpenLaw.row PySem.Challenge.rw_wholeparts_k29_whole_forms_of_relative_s) (q := PySem.W.view (PySem.W.OpenLaw.row PySem.Challenge.rw_wholeparts_k29_whole_forms_of_relative_s).prog [61]) (H := hk) (ob := ob) (M := 6000) (loose := loose) (d := HandSHeadRun.topDef (PySem.W.OpenLaw.row PySem.Challenge.rw_wholeparts_k29_whole_forms_of_relative_s).prog 61) (kwd := []) ob_eq
    (by kernel_rfl) (fun s => by kernel_rfl) run (by kernel_rfl) (by kernel_rfl) (by kernel_rfl) (by rfl) (by first | assumption | decide +kernel) (by decide +kernel) ⟨rfl, rfl, rfl, rfl, rfl, by decide +kernel⟩ ?hw ?hc
  case hw => w_witness2
  case hc =>
    refine walk_ofG (l := PySem.Challenge.rw_wholeparts_k29_whole_forms_of_relative_s) (n := 63) (k := k + 1) (x := "script") rfl (by decide) (by kernel_rfl) (room_caller (by omega)) rfl main ?F
    intro w mg fa h Y G hmg0
    obtain ⟨K, KX, c⟩ := Y
    have hmg : mg ("law" : PySem.Str) = some (.ref fa) := by
      have e : (HandSHeadRun.topDef (PySem.W.OpenLaw.row PySem.Challenge.rw_wholeparts_k29_whole_forms_of_relative_s).prog 61).name = ("law" : PySem.Str) := by kernel_rfl
      rw [← e]
      exact hmg0
    obtain ⟨fd, b, F⟩ := law_facts (P := PySem.Challenge.rw_wholeparts_k29_whole_forms_of_relative_s.prog) (w := w) (k := k) KX G c fns_ok chk binds kwOk infos_T (j := 43) (z := ⟨"law", 61, ["script"], ["script", "place"], f_law⟩) rfl rfl hmg
    exact ⟨K, fd, KX, b, F⟩

end Lw
end

section
set_option Elab.async false
set_option linter.all false
set_option maxRecDepth 100000
/-! Pv: what is wanted behind an own meaning (for the plain mathematics). -/
namespace Pv
open PySem PySem.Spec L2
def W {α : Type} (o : Option (α × Sto)) (Q : α → Sto → Prop) : Prop := ∃ a μ, o = some (a, μ) ∧ Q a μ
def WO (o : Option Out) (Q : Out → Prop) : Prop := ∃ a, o = some a ∧ Q a
theorem W_cg {α : Type} {m m' : Option (α × Sto)} {Q : α → Sto → Prop} (h : m = m') : W m Q = W m' Q := by rw [h]
theorem WO_cg {m m' : Option Out} {Q : Out → Prop} (h : m = m') : WO m Q = WO m' Q := by rw [h]
theorem W_some {α : Type} {a : α} {μ : Sto} {Q : α → Sto → Prop} : W (some (a, μ)) Q = Q a μ := by
  apply propext
  constructor
  · rintro ⟨_, _, e, q⟩
    obtain ⟨rfl, rfl⟩ := Prod.mk.inj (Option.some.inj e)
    exact q
  · exact fun q => ⟨a, μ, rfl, q⟩
theorem W_seq {α β : Type} {m : Option (α × Sto)} {k : α → Sto → Option (β × Sto)} {Q : β → Sto → Prop} : W (seqO m k) Q = W m fun a μ => W (k a μ) Q := by
  apply propext
  constructor
  · rintro ⟨b, μ', e, q⟩
    obtain ⟨a, μ, e1, e2⟩ := seqO_eq e
    exact ⟨a, μ, e1, b, μ', e2, q⟩
  · rintro ⟨a, μ, e, b, μ', e2, q⟩
    exact ⟨b, μ', by rw [e]; exact e2, q⟩
theorem W_test {m : Option (PV × Sto)} {Q : Bool → Sto → Prop} : W (testB m) Q = W m fun p μ => ∃ b, p = .bl b ∧ Q b μ := by
  apply propext
  constructor
  · rintro ⟨b, μ, e, q⟩
    unfold testB at e
    split at e
    · obtain ⟨rfl, rfl⟩ := Prod.mk.inj (Option.some.inj e)
      exact ⟨_, _, rfl, _, rfl, q⟩
    · cases e
  · rintro ⟨p, μ, e, b, e2, q⟩
    exact ⟨b, μ, by rw [e, e2]; rfl, q⟩
theorem W_map {α β : Type} {m : Option (α × Sto)} {f : α × Sto → β × Sto} {Q : β → Sto → Prop} : W (m.map f) Q = W m fun a μ => Q (f (a, μ)).1 (f (a, μ)).2 := by
  apply propext
  constructor
  · rintro ⟨b, μ', e, q⟩
    cases m with
    | none => cases e
    | some r =>
      have e : f r = (b, μ') := Option.some.inj e
      refine ⟨r.1, r.2, rfl, ?_⟩
      show Q (f r).1 (f r).2
      rw [e]
      exact q
  · rintro ⟨a, μ, e, q⟩
    exact ⟨_, _, by rw [e]; rfl, q⟩
theorem WO_some {a : Out} {Q : Out → Prop} : WO (some a) Q = Q a := by
  apply propext
  constructor
  · rintro ⟨_, e, q⟩
    obtain rfl := Option.some.inj e
    exact q
  · exact fun q => ⟨a, rfl, q⟩
theorem WO_seq {α : Type} {m : Option (α × Sto)} {k : α → Sto → Option Out} {Q : Out → Prop} : WO (seqO m k) Q = W m fun a μ => WO (k a μ) Q := by
  apply propext
  constructor
  · rintro ⟨b, e, q⟩
    obtain ⟨a, μ, e1, e2⟩ := seqO_eq e
    exact ⟨a, μ, e1, b, e2, q⟩
  · rintro ⟨a, μ, e, b, e2, q⟩
    exact ⟨b, by rw [e]; exact e2, q⟩
theorem WO_map {α : Type} {m : Option α} {f : α → Out} {Q : Out → Prop} : WO (m.map f) Q = ∃ a, m = some a ∧ Q (f a) := by
  apply propext
  constructor
  · rintro ⟨b, e, q⟩
    cases m with
    | none => cases e
    | some a =>
      obtain rfl := Option.some.inj e
      exact ⟨a, rfl, q⟩
  · rintro ⟨a, rfl, q⟩
    exact ⟨_, rfl, q⟩
/-- behind a statement that is not the last -/
def nxt (k : Env' → Sto → Option Out) (Q : Out → Prop) : Out → Prop := fun o => match o with
  | .nx ρ μ => WO (k ρ μ) Q
  | o => Q o
theorem nxt_nx {k : Env' → Sto → Option Out} {Q : Out → Prop} {ρ : Env'} {μ : Sto} : nxt k Q (.nx ρ μ) = WO (k ρ μ) Q := rfl
theorem nxt_rt {k : Env' → Sto → Option Out} {Q : Out → Prop} {p : PV} {μ : Sto} : nxt k Q (.rt p μ) = Q (.rt p μ) := rfl
theorem WO_then {m : Option Out} {k : Env' → Sto → Option Out} {Q : Out → Prop} : WO (thenO m k) Q = WO m (nxt k Q) := by
  apply propext
  constructor
  · rintro ⟨b, e, q⟩
    cases m with
    | none => cases e
    | some o =>
      refine ⟨o, rfl, ?_⟩
      cases o with
      | nx ρ μ => exact ⟨b, e, q⟩
      | rt p μ => obtain rfl := Option.some.inj e; exact q
      | bk ρ μ => obtain rfl := Option.some.inj e; exact q
      | ct ρ μ => obtain rfl := Option.some.inj e; exact q
  · rintro ⟨o, rfl, q⟩
    cases o with
    | nx ρ μ => exact q
    | rt p μ => exact ⟨_, rfl, q⟩
    | bk ρ μ => exact ⟨_, rfl, q⟩
    | ct ρ μ => exact ⟨_, rfl, q⟩
/-- what is wanted behind a def's body -/
def fin (Q : PV → Sto → Prop) : Out → Prop := fun o => match o with
  | .rt p μ => Q p μ
  | .nx _ μ => Q .non μ
  | _ => False
theorem fin_rt {Q : PV → Sto → Prop} {p : PV} {μ : Sto} : fin Q (.rt p μ) = Q p μ := rfl
theorem fin_nx {Q : PV → Sto → Prop} {ρ : Env'} {μ : Sto} : fin Q (.nx ρ μ) = Q .non μ := rfl
theorem W_runF {Φ : Nat → List PV → Sto → Option (PV × Sto)} {d : Fd} {vs : List PV} {μ : Sto} {Q : PV → Sto → Prop} (h : vs.length = d.ar) (w : WO (evSs Φ d.body (vs.map some ++ List.replicate (d.ns - vs.length) none) μ) (fin Q)) : W (runF Φ d vs μ) Q := by
  obtain ⟨o, e, q⟩ := w
  unfold runF
  rw [if_pos h, e]
  cases o with
  | rt p μ => exact ⟨p, μ, rfl, q⟩
  | nx ρ μ => exact ⟨.non, μ, rfl, q⟩
  | bk ρ μ => exact q.elim
  | ct ρ μ => exact q.elim
theorem W_ite {α : Type} {c : Prop} [Decidable c] {a b : Option (α × Sto)} {Q : α → Sto → Prop} : W (if c then a else b) Q = if c then W a Q else W b Q := by split <;> rfl
theorem WO_ite {c : Prop} [Decidable c] {a b : Option Out} {Q : Out → Prop} : WO (if c then a else b) Q = if c then WO a Q else WO b Q := by split <;> rfl
theorem W.mono {α : Type} {o : Option (α × Sto)} {Q Q' : α → Sto → Prop} (h : W o Q) (i : ∀ a μ, Q a μ → Q' a μ) : W o Q' := by
  obtain ⟨a, μ, e, q⟩ := h
  exact ⟨a, μ, e, i a μ q⟩
theorem WO.mono {o : Option Out} {Q Q' : Out → Prop} (h : WO o Q) (i : ∀ a, Q a → Q' a) : WO o Q' := by
  obtain ⟨a, e, q⟩ := h
  exact ⟨a, e, i a q⟩

/-! ### stores that grow -/
def Gw (μ μ' : Sto) : Prop := ∃ t, μ' = μ ++ t
theorem Gw.refl {μ : Sto} : Gw μ μ := ⟨[], by simp⟩
theorem Gw.trans {μ μ1 μ2 : Sto} (a : Gw μ μ1) (b : Gw μ1 μ2) : Gw μ μ2 := by
  obtain ⟨t, rfl⟩ := a
  obtain ⟨u, rfl⟩ := b
  exact ⟨t ++ u, List.append_assoc _ _ _⟩
theorem Gw.new {μ : Sto} {x : MO} : Gw μ (μ ++ [x]) := ⟨[x], rfl⟩
theorem Gw.at_ {μ μ' : Sto} {n : Nat} {x : MO} (g : Gw μ μ') (h : μ[n]? = some x) : μ'[n]? = some x := by
  obtain ⟨t, rfl⟩ := g
  rw [List.getElem?_append_left (List.getElem?_eq_some_iff.mp h).1]
  exact h
theorem at_new {μ : Sto} {x : MO} : (μ ++ [x])[μ.length]? = some x := by simp
theorem Gw.chk {c : Chk} {μ μ' : Sto} (g : Gw μ μ') (h : chkOk c μ = true) : chkOk c μ' = true := by
  unfold chkOk at h ⊢
  rw [List.all_eq_true] at h ⊢
  intro x hx
  exact decide_eq_true (g.at_ (of_decide_eq_true (h x hx)))
/-- a comprehension whose turns keep what stands -/
theorem W_lc {c : Chk} {turn : PV → Sto → Option (Option PV × Sto)} (g : PV → Option PV) {Q : List PV → Sto → Prop} : ∀ {xs acc : List PV} {μ : Sto}, chkOk c μ = true →
    (∀ x ∈ xs, ∀ μ1, Gw μ μ1 → W (turn x μ1) fun r μ2 => r = g x ∧ Gw μ1 μ2) → acc.length + xs.length ≤ sizeLine → (∀ μ1, Gw μ μ1 → Q (acc ++ xs.filterMap g) μ1) → W (lcE c turn xs acc μ) Q
  | [], acc, μ, hc, _, _, q => by
    have z := q μ .refl
    rw [List.filterMap_nil, List.append_nil] at z
    simp only [lcE, hc, if_true]
    exact ⟨_, _, rfl, z⟩
  | x :: xs, acc, μ, hc, h, hl, q => by
    obtain ⟨r, μ1, e, rfl, g1⟩ := h x List.mem_cons_self μ .refl
    rw [List.length_cons] at hl
    simp only [lcE, hc, if_true]
    rw [e, seqO_some]
    cases hg : g x with
    | none =>
      refine W_lc g (g1.chk hc) (fun y hy μ2 g2 => h y (List.mem_cons_of_mem _ hy) μ2 (g1.trans g2)) (by omega) fun μ2 g2 => ?_
      have z := q μ2 (g1.trans g2)
      rw [List.filterMap_cons, hg] at z
      exact z
    | some y =>
      dsimp only
      rw [if_pos (by omega)]
      refine W_lc g (g1.chk hc) (fun y hy μ2 g2 => h y (List.mem_cons_of_mem _ hy) μ2 (g1.trans g2)) (by rw [List.length_append, List.length_singleton]; omega) fun μ2 g2 => ?_
      have z := q μ2 (g1.trans g2)
      rw [List.filterMap_cons, hg] at z
      rw [List.append_assoc]
      exact z
/-- a loop over items: I by what is left -/
theorem WO_for {c : Chk} {tg : Tg} {body : Env' → Sto → Option Out} {Q : Out → Prop} (I : List PV → Env' → Sto → Prop) : ∀ {xs : List PV} {ρ : Env'} {μ : Sto}, I xs ρ μ → (∀ xs ρ μ, I xs ρ μ → chkOk c μ = true) →
    (∀ x r ρ μ, I (x :: r) ρ μ → ∃ ρ1, bindT tg x ρ = some ρ1 ∧ WO (body ρ1 μ) fun o => match o with
      | .nx ρ2 μ2 => I r ρ2 μ2
      | .ct ρ2 μ2 => I r ρ2 μ2
      | .bk ρ2 μ2 => Q (.nx ρ2 μ2)
      | .rt p μ2 => Q (.rt p μ2)) → (∀ ρ μ, I [] ρ μ → Q (.nx ρ μ)) → WO (forE c tg body xs ρ μ) Q
  | [], ρ, μ, h, hc, _, hd => by
    simp only [forE, hc _ _ _ h, if_true]
    exact ⟨_, rfl, hd _ _ h⟩
  | x :: xs, ρ, μ, h, hc, hs, hd => by
    obtain ⟨ρ1, e, o, eo, q⟩ := hs x xs ρ μ h
    simp only [forE, hc _ _ _ h, if_true, e]
    rw [eo]
    cases o with
    | nx ρ2 μ2 => exact WO_for I q hc hs hd
    | ct ρ2 μ2 => exact WO_for I q hc hs hd
    | bk ρ2 μ2 => exact ⟨_, rfl, q⟩
    | rt p μ2 => exact ⟨_, rfl, q⟩
/-- while: I by a number of turns that is enough -/
theorem WO_while {cond : Env' → Sto → Option (Bool × Sto)} {body : Env' → Sto → Option Out} {Q : Out → Prop} (I : Nat → Env' → Sto → Prop) (hs : ∀ m ρ μ, I m ρ μ → W (cond ρ μ) fun b μ1 => if b = true then ∃ m', m = m' + 1 ∧ WO (body ρ μ1) fun o => match o with
      | .nx ρ2 μ2 => I m' ρ2 μ2
      | .ct ρ2 μ2 => I m' ρ2 μ2
      | .bk ρ2 μ2 => Q (.nx ρ2 μ2)
      | .rt p μ2 => Q (.rt p μ2) else Q (.nx ρ μ1)) : ∀ {n m : Nat} {ρ : Env'} {μ : Sto}, I m ρ μ → m < n → WO (whileE cond body n ρ μ) Q
  | 0, m, ρ, μ, _, hn => absurd hn (Nat.not_lt_zero _)
  | n + 1, m, ρ, μ, h, hn => by
    obtain ⟨b, μ1, e, q⟩ := hs m ρ μ h
    simp only [whileE]
    rw [e, seqO_some]
    cases b with
    | false =>
      rw [if_neg Bool.false_ne_true] at q ⊢
      exact ⟨_, rfl, q⟩
    | true =>
      rw [if_pos rfl] at q ⊢
      obtain ⟨m', rfl, o, eo, q⟩ := q
      rw [eo]
      cases o with
      | nx ρ2 μ2 => exact WO_while I hs q (by omega)
      | ct ρ2 μ2 => exact WO_while I hs q (by omega)
      | bk ρ2 μ2 => exact ⟨_, rfl, q⟩
      | rt p μ2 => exact ⟨_, rfl, q⟩
end Pv
end

section
set_option Elab.async false
set_option linter.all false
set_option maxRecDepth 100000
/-! Pv: the steps of a run, for simp. -/
namespace Pv
open PySem PySem.Spec L2
@[simp] theorem ty_non_int {μ : Sto} : isTy (Str.toString "int") .non μ = some false := (by decide +kernel : kitB "NoneType" (Str.toString "int") = some false)
@[simp] theorem ty_bl_int {b : Bool} {μ : Sto} : isTy (Str.toString "int") (.bl b) μ = some true := (by decide +kernel : kitB "bool" (Str.toString "int") = some true)
@[simp] theorem ty_int_int {i : Int} {μ : Sto} : isTy (Str.toString "int") (.int i) μ = some true := (by decide +kernel : kitB "int" (Str.toString "int") = some true)
@[simp] theorem ty_str_int {x : Str} {μ : Sto} : isTy (Str.toString "int") (.str x) μ = some false := (by decide +kernel : kitB "str" (Str.toString "int") = some false)
@[simp] theorem ty_tup_int {ps : List PV} {μ : Sto} : isTy (Str.toString "int") (.tup ps) μ = some false := (by decide +kernel : kitB "tuple" (Str.toString "int") = some false)
@[simp] theorem ty_loc_int {n : Nat} {xs : List PV} {μ : Sto} (h : μ[n]? = some (.lst xs)) : isTy (Str.toString "int") (.loc n) μ = some false := by
  have e : kitB "list" (Str.toString "int") = some false := by decide +kernel
  simp only [isTy, h]
  exact e
@[simp] theorem ty_non_bool {μ : Sto} : isTy (Str.toString "bool") .non μ = some false := (by decide +kernel : kitB "NoneType" (Str.toString "bool") = some false)
@[simp] theorem ty_bl_bool {b : Bool} {μ : Sto} : isTy (Str.toString "bool") (.bl b) μ = some true := (by decide +kernel : kitB "bool" (Str.toString "bool") = some true)
@[simp] theorem ty_int_bool {i : Int} {μ : Sto} : isTy (Str.toString "bool") (.int i) μ = some false := (by decide +kernel : kitB "int" (Str.toString "bool") = some false)
@[simp] theorem ty_str_bool {x : Str} {μ : Sto} : isTy (Str.toString "bool") (.str x) μ = some false := (by decide +kernel : kitB "str" (Str.toString "bool") = some false)
@[simp] theorem ty_tup_bool {ps : List PV} {μ : Sto} : isTy (Str.toString "bool") (.tup ps) μ = some false := (by decide +kernel : kitB "tuple" (Str.toString "bool") = some false)
@[simp] theorem ty_loc_bool {n : Nat} {xs : List PV} {μ : Sto} (h : μ[n]? = some (.lst xs)) : isTy (Str.toString "bool") (.loc n) μ = some false := by
  have e : kitB "list" (Str.toString "bool") = some false := by decide +kernel
  simp only [isTy, h]
  exact e
@[simp] theorem ty_non_str {μ : Sto} : isTy (Str.toString "str") .non μ = some false := (by decide +kernel : kitB "NoneType" (Str.toString "str") = some false)
@[simp] theorem ty_bl_str {b : Bool} {μ : Sto} : isTy (Str.toString "str") (.bl b) μ = some false := (by decide +kernel : kitB "bool" (Str.toString "str") = some false)
@[simp] theorem ty_int_str {i : Int} {μ : Sto} : isTy (Str.toString "str") (.int i) μ = some false := (by decide +kernel : kitB "int" (Str.toString "str") = some false)
@[simp] theorem ty_str_str {x : Str} {μ : Sto} : isTy (Str.toString "str") (.str x) μ = some true := (by decide +kernel : kitB "str" (Str.toString "str") = some true)
@[simp] theorem ty_tup_str {ps : List PV} {μ : Sto} : isTy (Str.toString "str") (.tup ps) μ = some false := (by decide +kernel : kitB "tuple" (Str.toString "str") = some false)
@[simp] theorem ty_loc_str {n : Nat} {xs : List PV} {μ : Sto} (h : μ[n]? = some (.lst xs)) : isTy (Str.toString "str") (.loc n) μ = some false := by
  have e : kitB "list" (Str.toString "str") = some false := by decide +kernel
  simp only [isTy, h]
  exact e
@[simp] theorem ty_non_tuple {μ : Sto} : isTy (Str.toString "tuple") .non μ = some false := (by decide +kernel : kitB "NoneType" (Str.toString "tuple") = some false)
@[simp] theorem ty_bl_tuple {b : Bool} {μ : Sto} : isTy (Str.toString "tuple") (.bl b) μ = some false := (by decide +kernel : kitB "bool" (Str.toString "tuple") = some false)
@[simp] theorem ty_int_tuple {i : Int} {μ : Sto} : isTy (Str.toString "tuple") (.int i) μ = some false := (by decide +kernel : kitB "int" (Str.toString "tuple") = some false)
@[simp] theorem ty_str_tuple {x : Str} {μ : Sto} : isTy (Str.toString "tuple") (.str x) μ = some false := (by decide +kernel : kitB "str" (Str.toString "tuple") = some false)
@[simp] theorem ty_tup_tuple {ps : List PV} {μ : Sto} : isTy (Str.toString "tuple") (.tup ps) μ = some true := (by decide +kernel : kitB "tuple" (Str.toString "tuple") = some true)
@[simp] theorem ty_loc_tuple {n : Nat} {xs : List PV} {μ : Sto} (h : μ[n]? = some (.lst xs)) : isTy (Str.toString "tuple") (.loc n) μ = some false := by
  have e : kitB "list" (Str.toString "tuple") = some false := by decide +kernel
  simp only [isTy, h]
  exact e
@[simp] theorem ty_non_list {μ : Sto} : isTy (Str.toString "list") .non μ = some false := (by decide +kernel : kitB "NoneType" (Str.toString "list") = some false)
@[simp] theorem ty_bl_list {b : Bool} {μ : Sto} : isTy (Str.toString "list") (.bl b) μ = some false := (by decide +kernel : kitB "bool" (Str.toString "list") = some false)
@[simp] theorem ty_int_list {i : Int} {μ : Sto} : isTy (Str.toString "list") (.int i) μ = some false := (by decide +kernel : kitB "int" (Str.toString "list") = some false)
@[simp] theorem ty_str_list {x : Str} {μ : Sto} : isTy (Str.toString "list") (.str x) μ = some false := (by decide +kernel : kitB "str" (Str.toString "list") = some false)
@[simp] theorem ty_tup_list {ps : List PV} {μ : Sto} : isTy (Str.toString "list") (.tup ps) μ = some false := (by decide +kernel : kitB "tuple" (Str.toString "list") = some false)
@[simp] theorem ty_loc_list {n : Nat} {xs : List PV} {μ : Sto} (h : μ[n]? = some (.lst xs)) : isTy (Str.toString "list") (.loc n) μ = some true := by
  have e : kitB "list" (Str.toString "list") = some true := by decide +kernel
  simp only [isTy, h]
  exact e

section
variable {Φ : Nat → List PV → Sto → Option (PV × Sto)} {ρ : Env'} {μ : Sto} {Q : PV → Sto → Prop} {QL : List PV → Sto → Prop} {QI' : List PV × Chk → Sto → Prop} {QO : Out → Prop}
theorem W_cgr {α : Type} {m m' : Option (α × Sto)} {Q : α → Sto → Prop} (h : m = m') : W m Q = W m' Q := W_cg h
theorem WO_cgr {m m' : Option Out} {Q : Out → Prop} (h : m = m') : WO m Q = WO m' Q := WO_cg h
@[simp] theorem w_some {α : Type} {a : α} {μ : Sto} {Q : α → Sto → Prop} : W (some (a, μ)) Q = Q a μ := W_some
theorem W_none {α : Type} {Q : α → Sto → Prop} : W none Q = False := by
  apply propext
  constructor
  · rintro ⟨_, _, e, _⟩
    cases e
  · exact fun h => h.elim
@[simp] theorem w_none {α : Type} {Q : α → Sto → Prop} : W none Q = False := W_none
@[simp] theorem wo_some {a : Out} : WO (some a) QO = QO a := WO_some
@[simp] theorem w_ite {α : Type} {c : Prop} [Decidable c] {a b : Option (α × Sto)} {Q : α → Sto → Prop} : W (if c then a else b) Q = if c then W a Q else W b Q := W_ite
@[simp] theorem wo_ite {c : Prop} [Decidable c] {a b : Option Out} : WO (if c then a else b) QO = if c then WO a QO else WO b QO := WO_ite
@[simp] theorem n_nx {k : Env' → Sto → Option Out} : nxt k QO (.nx ρ μ) = WO (k ρ μ) QO := rfl
@[simp] theorem n_rt {k : Env' → Sto → Option Out} {p : PV} : nxt k QO (.rt p μ) = QO (.rt p μ) := rfl
@[simp] theorem f_rt {p : PV} : fin Q (.rt p μ) = Q p μ := rfl
@[simp] theorem f_nx : fin Q (.nx ρ μ) = Q .non μ := rfl
@[simp] theorem e_var {i : Nat} : evE Φ (.var i) ρ μ = match ρ[i]? with
    | some (some p) => some (p, μ)
    | _ => none := by rfl
@[simp] theorem e_cst {p : PV} : evE Φ (.cst p) ρ μ = some (p, μ) := by simp only [evE]
@[simp] theorem e_glo {x : Str} {p : PV} : evE Φ (.glo x p) ρ μ = some (p, μ) := by simp only [evE]
@[simp] theorem e_bin {o : Operator} {a b : E} : W (evE Φ (.bin o a b) ρ μ) Q = W (evE Φ a ρ μ) fun x μ1 => W (evE Φ b ρ μ1) fun y μ2 => W (binP o x y μ2) Q := by simp only [evE, W_seq]
@[simp] theorem e_neg {a : E} : W (evE Φ (.neg a) ρ μ) Q = W (evE Φ a ρ μ) fun x μ1 => ∃ i : Int, x = .int i ∧ Q (.int (-i)) μ1 := by
  simp only [evE, W_seq]
  congr 1
  funext x μ1
  cases x <;> simp
@[simp] theorem e_cmp {o : CmpOp} {a b : E} : W (evE Φ (.cmp o a b) ρ μ) Q = W (evE Φ a ρ μ) fun x μ1 => W (evE Φ b ρ μ1) fun y μ2 => ∃ t, cmpB o x y μ2 = some t ∧ Q (.bl t) μ2 := by
  simp only [evE, W_seq, cmpP]
  congr 1
  funext x μ1
  congr 1
  funext y μ2
  cases cmpB o x y μ2 <;> simp
@[simp] theorem e_chn {o o' : CmpOp} {a b c : E} : W (evE Φ (.chn o o' a b c) ρ μ) Q = W (evE Φ a ρ μ) fun x μ1 => W (evE Φ b ρ μ1) fun y μ2 => ∃ t, cmpB o x y μ2 = some t ∧ if t = true then W (evE Φ c ρ μ2) fun z μ3 => ∃ t', cmpB o' y z μ3 = some t' ∧ Q (.bl t') μ3 else Q (.bl false) μ2 := by
  simp only [evE, W_seq]
  congr 1
  funext x μ1
  congr 1
  funext y μ2
  cases h : cmpB o x y μ2 with
  | none => simp
  | some t =>
    cases t with
    | false => simp
    | true =>
      simp only [W_seq, cmpP, Option.some.injEq, exists_eq_left', if_true]
      congr 1
      funext z μ3
      cases cmpB o' y z μ3 <;> simp
@[simp] theorem e_bo {k : Bool} {es : Es} : W (evE Φ (.bo k es) ρ μ) Q = W (evB Φ k es ρ μ) Q := by simp only [evE]
@[simp] theorem b_nil {k : Bool} : W (evB Φ k .nil ρ μ) Q = Q (.bl k) μ := by simp only [evB, W_some]
@[simp] theorem b_cons {k : Bool} {e : E} {es : Es} : W (evB Φ k (.cons e es) ρ μ) Q = W (evE Φ e ρ μ) fun p μ1 => ∃ b, p = .bl b ∧ if b = k then W (evB Φ k es ρ μ1) Q else Q (.bl b) μ1 := by
  simp only [evB, W_seq, W_test, W_ite, W_some]
@[simp] theorem e_nt {a : E} : W (evE Φ (.nt a) ρ μ) Q = W (evE Φ a ρ μ) fun p μ1 => ∃ b, p = .bl b ∧ Q (.bl (!b)) μ1 := by simp only [evE, W_seq, W_test, W_some]
@[simp] theorem e_ite {c a b : E} : W (evE Φ (.ite c a b) ρ μ) Q = W (evE Φ c ρ μ) fun p μ1 => ∃ t, p = .bl t ∧ if t = true then W (evE Φ a ρ μ1) Q else W (evE Φ b ρ μ1) Q := by simp only [evE, W_seq, W_test, W_ite]
@[simp] theorem es_nil : W (evEs Φ .nil ρ μ) QL = QL [] μ := by simp only [evEs, W_some]
@[simp] theorem es_cons {e : E} {es : Es} : W (evEs Φ (.cons e es) ρ μ) QL = W (evE Φ e ρ μ) fun x μ1 => W (evEs Φ es ρ μ1) fun xs μ2 => QL (x :: xs) μ2 := by simp only [evEs, W_seq, W_some]
@[simp] theorem e_tup {es : Es} : W (evE Φ (.tup es) ρ μ) Q = W (evEs Φ es ρ μ) fun vs μ1 => vs.length ≤ sizeLine ∧ Q (.tup vs) μ1 := by
  simp only [evE, W_seq]
  congr 1
  funext vs μ1
  by_cases h : vs.length ≤ sizeLine <;> simp [h]
@[simp] theorem e_lst {es : Es} : W (evE Φ (.lst es) ρ μ) Q = W (evEs Φ es ρ μ) fun vs μ1 => vs.length ≤ sizeLine ∧ Q (.loc μ1.length) (μ1 ++ [.lst vs]) := by
  simp only [evE, W_seq]
  congr 1
  funext vs μ1
  by_cases h : vs.length ≤ sizeLine <;> simp [h, newC]
@[simp] theorem e_ix {a b : E} : W (evE Φ (.ix a b) ρ μ) Q = W (evE Φ a ρ μ) fun x μ1 => W (evE Φ b ρ μ1) fun y μ2 => W (ixP x y μ2) Q := by simp only [evE, W_seq]
@[simp] theorem e_slL {a lo : E} : W (evE Φ (.slL a lo) ρ μ) Q = W (evE Φ a ρ μ) fun x μ1 => W (evE Φ lo ρ μ1) fun l μ2 => ∃ i : Int, l = .int i ∧ W (slP x (some i) none μ2) Q := by
  simp only [evE, W_seq]
  congr 1
  funext x μ1
  congr 1
  funext l μ2
  cases l <;> simp
@[simp] theorem e_slU {a lo : E} : W (evE Φ (.slU a lo) ρ μ) Q = W (evE Φ a ρ μ) fun x μ1 => W (evE Φ lo ρ μ1) fun l μ2 => ∃ i : Int, l = .int i ∧ W (slP x none (some i) μ2) Q := by
  simp only [evE, W_seq]
  congr 1
  funext x μ1
  congr 1
  funext l μ2
  cases l <;> simp
@[simp] theorem e_slB {a lo hi : E} : W (evE Φ (.slB a lo hi) ρ μ) Q = W (evE Φ a ρ μ) fun x μ1 => W (evE Φ lo ρ μ1) fun l μ2 => W (evE Φ hi ρ μ2) fun u μ3 => ∃ i j : Int, l = .int i ∧ u = .int j ∧ W (slP x (some i) (some j) μ3) Q := by
  simp only [evE, W_seq]
  congr 1
  funext x μ1
  congr 1
  funext l μ2
  congr 1
  funext u μ3
  cases l <;> cases u <;> simp
@[simp] theorem e_call {j : Nat} {es : Es} : W (evE Φ (.call j es) ρ μ) Q = W (evEs Φ es ρ μ) fun vs μ1 => W (Φ j vs μ1) Q := by simp only [evE, W_seq]
@[simp] theorem e_callK {j n : Nat} {perm : List Nat} {es : Es} : W (evE Φ (.callK j perm n es) ρ μ) Q = W (evEs Φ es ρ μ) fun vs μ1 => ∃ ws, allSome (fun i => vs[i]?) perm = some ws ∧ W (Φ j ws μ1) Q := by
  simp only [evE, W_seq]
  congr 1
  funext vs μ1
  cases allSome (fun i => vs[i]?) perm <;> simp
@[simp] theorem e_bi {b : Bi} {es : Es} : W (evE Φ (.bi b es) ρ μ) Q = W (evEs Φ es ρ μ) fun vs μ1 => W (biP b vs μ1) Q := by simp only [evE, W_seq]
@[simp] theorem e_mxd {a d : E} : W (evE Φ (.mxd a d) ρ μ) Q = W (evE Φ a ρ μ) fun x μ1 => W (evE Φ d ρ μ1) fun y μ2 => W (mxdP x y μ2) Q := by simp only [evE, W_seq]
@[simp] theorem e_isi {a : E} {T : Str} : W (evE Φ (.isi a T) ρ μ) Q = W (evE Φ a ρ μ) fun x μ1 => ∃ b, isTy T.toString x μ1 = some b ∧ Q (.bl b) μ1 := by
  simp only [evE, W_seq]
  congr 1
  funext x μ1
  cases isTy T.toString x μ1 <;> simp
@[simp] theorem e_me {m : Me} {o : E} {es : Es} : W (evE Φ (.me m o es) ρ μ) Q = W (evE Φ o ρ μ) fun x μ1 => recvB m x μ1 = true ∧ W (evEs Φ es ρ μ1) fun vs μ2 => W (meP m x vs μ2) Q := by
  simp only [evE, W_seq]
  congr 1
  funext x μ1
  cases recvB m x μ1 <;> simp [W_seq]
@[simp] theorem e_lc {own : List (Str × Nat)} {elt : E} {tg : Tg} {it : It'} {cs : Es} : W (evE Φ (.lc own elt tg it cs) ρ μ) Q = W (evI Φ it ρ μ) fun xc μ1 => W (lcE xc.2 (turnL tg (own.map (·.2)) (evB Φ true cs) (evE Φ elt) ρ) xc.1 [] μ1) fun acc μ4 => Q (.loc μ4.length) (μ4 ++ [.lst acc]) := by
  have e : evE Φ (.lc own elt tg it cs) ρ μ = seqO (evI Φ it ρ μ) fun xc μ1 => seqO (lcE xc.2 (turnL tg (own.map (·.2)) (evB Φ true cs) (evE Φ elt) ρ) xc.1 [] μ1) fun acc μ4 => newC (.lst acc) μ4 := rfl
  rw [e, W_seq]
  congr 1
  funext xc μ1
  rw [W_seq]
  congr 1
  funext acc μ4
  rw [newC, W_some]
@[simp] theorem e_lc2 {own : List (Str × Nat)} {own1 : List Nat} {elt : E} {tg tg1 : Tg} {it it1 : It'} : W (evE Φ (.lc2 own own1 elt tg it tg1 it1) ρ μ) Q = W (evI Φ it ρ μ) fun xc μ1 => W (lc2E xc.2 (turnL2 tg (own.map (·.2)) (evI Φ it1) tg1 own1 (evE Φ elt) ρ) xc.1 [] μ1) fun acc μ4 => Q (.loc μ4.length) (μ4 ++ [.lst acc]) := by
  have e : evE Φ (.lc2 own own1 elt tg it tg1 it1) ρ μ = seqO (evI Φ it ρ μ) fun xc μ1 => seqO (lc2E xc.2 (turnL2 tg (own.map (·.2)) (evI Φ it1) tg1 own1 (evE Φ elt) ρ) xc.1 [] μ1) fun acc μ4 => newC (.lst acc) μ4 := rfl
  rw [e, W_seq]
  congr 1
  funext xc μ1
  rw [W_seq]
  congr 1
  funext acc μ4
  rw [newC, W_some]
@[simp] theorem e_dc {own : List (Str × Nat)} {k v : E} {tg : Tg} {it : It'} {cs : Es} : W (evE Φ (.dc own k v tg it cs) ρ μ) Q = W (evI Φ it ρ μ) fun xc μ1 => W (dcE xc.2 (turnD tg (own.map (·.2)) (evB Φ true cs) (evE Φ k) (evE Φ v) ρ) xc.1 [] μ1) fun acc μ4 => Q (.loc μ4.length) (μ4 ++ [.dic acc]) := by
  have e : evE Φ (.dc own k v tg it cs) ρ μ = seqO (evI Φ it ρ μ) fun xc μ1 => seqO (dcE xc.2 (turnD tg (own.map (·.2)) (evB Φ true cs) (evE Φ k) (evE Φ v) ρ) xc.1 [] μ1) fun acc μ4 => newC (.dic acc) μ4 := rfl
  rw [e, W_seq]
  congr 1
  funext xc μ1
  rw [W_seq]
  congr 1
  funext acc μ4
  rw [newC, W_some]
@[simp] theorem t_lc {tg : Tg} {own : List Nat} {mt me : Env' → Sto → Option (PV × Sto)} {x : PV} {QT' : Option PV → Sto → Prop} : W (turnL tg own mt me ρ x μ) QT' = ∃ ρ1, bindT tg x (wipeE ρ own) = some ρ1 ∧ W (mt ρ1 μ) fun p μ3 => ∃ b, p = .bl b ∧ if b = true then W (me ρ1 μ3) fun v μ4 => QT' (some v) μ4 else QT' none μ3 := by
  unfold turnL
  cases bindT tg x (wipeE ρ own) with
  | none => simp
  | some ρ1 =>
    simp only [W_seq, W_test, W_ite, W_map, W_some, Option.some.injEq, exists_eq_left']
@[simp] theorem t_dc {tg : Tg} {own : List Nat} {mt mk me : Env' → Sto → Option (PV × Sto)} {x : PV} {QT' : Option (Key × PV) → Sto → Prop} : W (turnD tg own mt mk me ρ x μ) QT' = ∃ ρ1, bindT tg x (wipeE ρ own) = some ρ1 ∧ W (mt ρ1 μ) fun p μ3 => ∃ b, p = .bl b ∧ if b = true then W (mk ρ1 μ3) fun kv μ4 => W (me ρ1 μ4) fun v μ5 => ∃ kk, keyOf kv = some kk ∧ QT' (some (kk, v)) μ5 else QT' none μ3 := by
  unfold turnD
  cases bindT tg x (wipeE ρ own) with
  | none => simp
  | some ρ1 =>
    simp only [W_seq, W_test, W_ite, W_some, Option.some.injEq, exists_eq_left']
    congr 1
    funext p μ3
    congr 1
    funext b
    congr 1
    split
    · congr 1
      funext kv μ4
      congr 1
      funext v μ5
      cases keyOf kv <;> simp
    · rfl
/-! ### what is walked -/
@[simp] theorem i_val {e : E} : W (evI Φ (.val e) ρ μ) QI' = W (evE Φ e ρ μ) fun x μ1 => ∃ r, seqI x μ1 = some r ∧ QI' r μ1 := by
  simp only [evI, W_seq]
  congr 1
  funext x μ1
  cases seqI x μ1 <;> simp
@[simp] theorem i_en {e : E} : W (evI Φ (.en e) ρ μ) QI' = W (evE Φ e ρ μ) fun x μ1 => isTup x = false ∧ ∃ r, seqI x μ1 = some r ∧ QI' (numI r.1, r.2) μ1 := by
  simp only [evI, W_seq]
  congr 1
  funext x μ1
  cases isTup x
  · cases seqI x μ1 <;> simp
  · simp
@[simp] theorem i_zp {a b : E} : W (evI Φ (.zp a b) ρ μ) QI' = W (evE Φ a ρ μ) fun x μ1 => W (evE Φ b ρ μ1) fun y μ2 => isTup x = isTup y ∧ ∃ r t, seqI x μ2 = some r ∧ seqI y μ2 = some t ∧ QI' (r.1.zipWith (fun u v => .tup [u, v]) t.1, r.2 ++ t.2) μ2 := by
  simp only [evI, W_seq]
  congr 1
  funext x μ1
  congr 1
  funext y μ2
  by_cases h : isTup x = isTup y
  · rw [if_pos h]
    cases seqI x μ2 <;> cases seqI y μ2 <;> simp [h]
  · rw [if_neg h]
    simp [h]
@[simp] theorem i_rg {a : E} : W (evI Φ (.rg a) ρ μ) QI' = W (evE Φ a ρ μ) fun x μ1 => ∃ n : Int, x = .int n ∧ (-(2 ^ 62) ≤ n ∧ n < 2 ^ 62) ∧ QI' (rangeI n, []) μ1 := by
  simp only [evI, W_seq]
  congr 1
  funext x μ1
  cases x with
  | int n => by_cases h : -(2 ^ 62) ≤ n ∧ n < 2 ^ 62 <;> simp [h]
  | _ => simp
/-! ### statements -/
@[simp] theorem s_nil : WO (evSs Φ .nil ρ μ) QO = QO (.nx ρ μ) := by simp only [evSs, WO_some]
@[simp] theorem s_cons {s : S} {r : Ss} : WO (evSs Φ (.cons s r) ρ μ) QO = WO (evS Φ s ρ μ) (nxt (evSs Φ r) QO) := by
  simp only [evSs, WO_then]
@[simp] theorem s_asgW {tg : Tg} {e : E} : WO (evS Φ (.asg tg e) ρ μ) QO = W (evE Φ e ρ μ) fun x μ1 => ∃ ρ1, bindT tg x ρ = some ρ1 ∧ QO (.nx ρ1 μ1) := by simp only [evS, WO_seq, WO_map]
@[simp] theorem s_subW {o i v : E} : WO (evS Φ (.sub o i v) ρ μ) QO = W (evE Φ v ρ μ) fun x μ1 => W (evE Φ o ρ μ1) fun y μ2 => W (evE Φ i ρ μ2) fun z μ3 => ∃ μ4, setP y z x μ3 = some μ4 ∧ QO (.nx ρ μ4) := by simp only [evS, WO_seq, WO_map]
@[simp] theorem s_exW {e : E} : WO (evS Φ (.ex e) ρ μ) QO = W (evE Φ e ρ μ) fun _ μ1 => QO (.nx ρ μ1) := by simp only [evS, WO_seq, WO_some]
@[simp] theorem s_retW {e : E} : WO (evS Φ (.ret e) ρ μ) QO = W (evE Φ e ρ μ) fun x μ1 => QO (.rt x μ1) := by simp only [evS, WO_seq, WO_some]
@[simp] theorem s_iffW {c : E} {a b : Ss} : WO (evS Φ (.iff c a b) ρ μ) QO = W (evE Φ c ρ μ) fun p μ1 => ∃ t, p = .bl t ∧ if t = true then WO (evSs Φ a ρ μ1) QO else WO (evSs Φ b ρ μ1) QO := by simp only [evS, WO_seq, W_test, WO_ite]
@[simp] theorem s_foW {tg : Tg} {it : It'} {b : Ss} : WO (evS Φ (.fo tg it b) ρ μ) QO = W (evI Φ it ρ μ) fun xc μ1 => WO (forE xc.2 tg (fun ρ μ => evSs Φ b ρ μ) xc.1 ρ μ1) QO := by simp only [evS, WO_seq]
theorem s_whW {c : E} {b : Ss} : evS Φ (.wh c b) ρ μ = whileE (fun ρ μ => testB (evE Φ c ρ μ)) (fun ρ μ => evSs Φ b ρ μ) fuelW ρ μ := by simp only [evS]
@[simp] theorem s_contW : WO (evS Φ .cont ρ μ) QO = QO (.ct ρ μ) := by simp only [evS, WO_some]
@[simp] theorem s_brkW : WO (evS Φ .brk ρ μ) QO = QO (.bk ρ μ) := by simp only [evS, WO_some]
/-! ### values -/
@[simp] theorem bt_nm {i : Nat} {p : PV} : bindT (.nm i) p ρ = some (ρ.set i (some p)) := by simp only [bindT]
@[simp] theorem bt_tp {ts : List Tg} {ps : List PV} : bindT (.tp ts) (.tup ps) ρ = bindTs ts ps ρ := by simp only [bindT]
@[simp] theorem bts_nil : bindTs [] [] ρ = some ρ := by simp only [bindTs]
@[simp] theorem bts_cons {i : Nat} {ts : List Tg} {p : PV} {ps : List PV} : bindTs (.nm i :: ts) (p :: ps) ρ = bindTs ts ps (ρ.set i (some p)) := by simp only [bindTs, bindT]
@[simp] theorem wp_nil : wipeE ρ [] = ρ := rfl
@[simp] theorem wp_cons {v : Nat} {vs : List Nat} : wipeE ρ (v :: vs) = (wipeE ρ vs).set v none := rfl
@[simp] theorem o_addI {i j : Int} : binP .Add (.int i) (.int j) μ = some (.int (i + j), μ) := rfl
@[simp] theorem o_subI {i j : Int} : binP .Sub (.int i) (.int j) μ = some (.int (i - j), μ) := rfl
@[simp] theorem o_addS {x y : Str} : W (binP .Add (.str x) (.str y) μ) Q = (x.length + y.length ≤ sizeLine ∧ Q (.str (x ++ y)) μ) := by
  simp only [binP]
  by_cases h : x.length + y.length ≤ sizeLine <;> simp [h]
@[simp] theorem o_addT {x y : List PV} : W (binP .Add (.tup x) (.tup y) μ) Q = (x.length + y.length ≤ sizeLine ∧ Q (.tup (x ++ y)) μ) := by
  simp only [binP]
  by_cases h : x.length + y.length ≤ sizeLine <;> simp [h]
theorem o_addL {a b : Nat} {xs ys : List PV} (ha : μ[a]? = some (.lst xs)) (hb : μ[b]? = some (.lst ys)) : W (binP .Add (.loc a) (.loc b) μ) Q = (xs.length + ys.length ≤ sizeLine ∧ Q (.loc μ.length) (μ ++ [.lst (xs ++ ys)])) := by
  simp only [binP, ha, hb]
  by_cases h : xs.length + ys.length ≤ sizeLine <;> simp [h, newC]
@[simp] theorem c_eqI {i j : Int} : cmpB .Eq (.int i) (.int j) μ = some (decide (i = j)) := rfl
@[simp] theorem c_eqS {i j : Str} : cmpB .Eq (.str i) (.str j) μ = some (decide (i = j)) := rfl
@[simp] theorem c_eqB {i j : Bool} : cmpB .Eq (.bl i) (.bl j) μ = some (decide (i = j)) := rfl
@[simp] theorem c_neI {i j : Int} : cmpB .NotEq (.int i) (.int j) μ = some (!decide (i = j)) := rfl
@[simp] theorem c_neS {i j : Str} : cmpB .NotEq (.str i) (.str j) μ = some (!decide (i = j)) := rfl
@[simp] theorem c_neB {i j : Bool} : cmpB .NotEq (.bl i) (.bl j) μ = some (!decide (i = j)) := rfl
@[simp] theorem c_isN {p : PV} : cmpB .Is p .non μ = some (decide (p = .non)) := rfl
@[simp] theorem c_notN {p : PV} : cmpB .IsNot p .non μ = some (!decide (p = .non)) := rfl
@[simp] theorem c_lt {i j : Int} : cmpB .Lt (.int i) (.int j) μ = some (decide (i < j)) := rfl
@[simp] theorem c_le {i j : Int} : cmpB .LtE (.int i) (.int j) μ = some (decide (i ≤ j)) := rfl
@[simp] theorem c_gt {i j : Int} : cmpB .Gt (.int i) (.int j) μ = some (decide (j < i)) := rfl
@[simp] theorem c_ge {i j : Int} : cmpB .GtE (.int i) (.int j) μ = some (decide (j ≤ i)) := rfl
theorem c_inT {p : PV} {xs : List PV} (h : flatP p = true ∧ xs.all flatP = true) : cmpB .In p (.tup xs) μ = some (xs.any fun y => eqF y p) := by
  simp only [cmpB, inP]
  rw [if_pos h]
theorem c_ninT {p : PV} {xs : List PV} (h : flatP p = true ∧ xs.all flatP = true) : cmpB .NotIn p (.tup xs) μ = some (!xs.any fun y => eqF y p) := by
  simp only [cmpB, inP]
  rw [if_pos h]
  rfl
@[simp] theorem ix_T {xs : List PV} {i : Int} : W (ixP (.tup xs) (.int i) μ) Q = ∃ p, atI xs i = some p ∧ Q p μ := by
  simp only [ixP]
  cases atI xs i <;> simp
theorem ix_L {n : Nat} {xs : List PV} {i : Int} (h : μ[n]? = some (.lst xs)) : W (ixP (.loc n) (.int i) μ) Q = ∃ p, atI xs i = some p ∧ Q p μ := by
  simp only [ixP, cellL, h]
  cases atI xs i <;> simp
@[simp] theorem sl_T {xs : List PV} {lo hi : Option Int} : slP (.tup xs) lo hi μ = some (.tup (cutP xs lo hi), μ) := rfl
theorem sl_L {n : Nat} {xs : List PV} {lo hi : Option Int} (h : μ[n]? = some (.lst xs)) : slP (.loc n) lo hi μ = some (.loc μ.length, μ ++ [.lst (cutP xs lo hi)]) := by
  simp only [slP, cellL, h, newC]
@[simp] theorem sl_R {xs : List PV} {lo hi : Option Int} : slP (.rol xs) lo hi μ = some (.loc μ.length, μ ++ [.lst (cutP xs lo hi)]) := rfl
@[simp] theorem sq_T {xs : List PV} : seqI (.tup xs) μ = some (xs, []) := rfl
@[simp] theorem sq_R {xs : List PV} : seqI (.rol xs) μ = some (xs, []) := rfl
theorem sq_L {n : Nat} {xs : List PV} (h : μ[n]? = some (.lst xs)) : seqI (.loc n) μ = some (xs, [(n, .lst xs)]) := by simp only [seqI, h]
@[simp] theorem it_T {xs : List PV} : isTup (.tup xs) = true := rfl
@[simp] theorem it_L {n : Nat} : isTup (.loc n) = false := rfl
@[simp] theorem it_R {xs : List PV} : isTup (.rol xs) = false := rfl
@[simp] theorem bi_lenT {xs : List PV} : biP .len [.tup xs] μ = some (.int xs.length, μ) := rfl
@[simp] theorem bi_lenR {xs : List PV} : biP .len [.rol xs] μ = some (.int xs.length, μ) := rfl
theorem bi_lenL {n : Nat} {xs : List PV} (h : μ[n]? = some (.lst xs)) : biP .len [.loc n] μ = some (.int xs.length, μ) := by simp only [biP, cellL, h]
theorem asBools_map : ∀ bs : List Bool, asBools (bs.map PV.bl) = some bs
  | [] => rfl
  | b :: bs => by simp only [List.map_cons, asBools, asBools_map bs, Option.map_some]
theorem asInts_map : ∀ bs : List Int, asInts (bs.map PV.int) = some bs
  | [] => rfl
  | b :: bs => by simp only [List.map_cons, asInts, asInts_map bs, Option.map_some]
theorem asPairs_map : ∀ bs : List (Int × Int), asPairs (bs.map pairP) = some bs
  | [] => rfl
  | b :: bs => by simp only [List.map_cons, pairP, asPairs, asPairs_map bs, Option.map_some]
theorem bi_allL {n : Nat} {bs : List Bool} (h : μ[n]? = some (.lst (bs.map .bl))) : biP .all [.loc n] μ = some (.bl (bs.all id), μ) := by
  simp only [biP, cellL, h, asBools_map, Option.map_some]
theorem bi_sumL {n : Nat} {bs : List Int} (h : μ[n]? = some (.lst (bs.map .int))) : biP .sum [.loc n] μ = some (.int bs.sum, μ) := by
  simp only [biP, cellL, h, asInts_map, Option.map_some]
theorem bi_sortP {ps : List (Int × Int)} : biP .sorted [.tup (ps.map pairP)] μ = some (.loc μ.length, μ ++ [.lst ((psort ps).map pairP)]) := by
  simp only [biP, asPairs_map, newC]
theorem bi_sortL {n : Nat} {is : List Int} (h : μ[n]? = some (.lst (is.map .int))) : biP .sorted [.loc n] μ = some (.loc μ.length, μ ++ [.lst ((isort is).map .int)]) := by
  simp only [biP, h, asInts_map, newC]
theorem bi_ssetL {n : Nat} {is : List Int} (h : μ[n]? = some (.lst (is.map .int))) (hz : is.length < 63) : biP .sset [.loc n] μ = some (.loc μ.length, μ ++ [.lst ((isort (dedup is)).map .int)]) := by
  simp only [biP, h, asInts_map, newC, hz, if_true]
@[simp] theorem bi_tupT {xs : List PV} : biP .tuple [.tup xs] μ = some (.tup xs, μ) := rfl
theorem bi_tupL {n : Nat} {xs : List PV} (h : μ[n]? = some (.lst xs)) : biP .tuple [.loc n] μ = some (.tup xs, μ) := by simp only [biP, cellL, h]
@[simp] theorem bi_intI {i : Int} : biP .int [.int i] μ = some (.int i, μ) := rfl
@[simp] theorem bi_absI {i : Int} : biP .abs [.int i] μ = some (.int (if i < 0 then -i else i), μ) := rfl
@[simp] theorem bi_max2 {i j : Int} : biP .max2 [.int i, .int j] μ = some (.int (if j > i then j else i), μ) := rfl
@[simp] theorem bi_min2 {i j : Int} : biP .min2 [.int i, .int j] μ = some (.int (if j < i then j else i), μ) := rfl
end
end Pv
end

section
set_option Elab.async false
set_option linter.all false
set_option maxRecDepth 100000
namespace Lw
open PySem PySem.Spec L2 Pv
@[simp] theorem ne_empty_smooth : ((("empty" : Str) = "smooth") ) = False := eq_false (by decide +kernel)
@[simp] theorem ne_empty_atoms : ((("empty" : Str) = "atoms") ) = False := eq_false (by decide +kernel)
@[simp] theorem ne_empty_not : ((("empty" : Str) = "not") ) = False := eq_false (by decide +kernel)
@[simp] theorem ne_empty_both : ((("empty" : Str) = "both") ) = False := eq_false (by decide +kernel)
@[simp] theorem ne_empty_either : ((("empty" : Str) = "either") ) = False := eq_false (by decide +kernel)
@[simp] theorem ne_empty_some : ((("empty" : Str) = "some") ) = False := eq_false (by decide +kernel)
@[simp] theorem ne_empty_every : ((("empty" : Str) = "every") ) = False := eq_false (by decide +kernel)
@[simp] theorem ne_smooth_empty : ((("smooth" : Str) = "empty") ) = False := eq_false (by decide +kernel)
@[simp] theorem ne_smooth_atoms : ((("smooth" : Str) = "atoms") ) = False := eq_false (by decide +kernel)
@[simp] theorem ne_smooth_not : ((("smooth" : Str) = "not") ) = False := eq_false (by decide +kernel)
@[simp] theorem ne_smooth_both : ((("smooth" : Str) = "both") ) = False := eq_false (by decide +kernel)
@[simp] theorem ne_smooth_either : ((("smooth" : Str) = "either") ) = False := eq_false (by decide +kernel)
@[simp] theorem ne_smooth_some : ((("smooth" : Str) = "some") ) = False := eq_false (by decide +kernel)
@[simp] theorem ne_smooth_every : ((("smooth" : Str) = "every") ) = False := eq_false (by decide +kernel)
@[simp] theorem ne_atoms_empty : ((("atoms" : Str) = "empty") ) = False := eq_false (by decide +kernel)
@[simp] theorem ne_atoms_smooth : ((("atoms" : Str) = "smooth") ) = False := eq_false (by decide +kernel)
@[simp] theorem ne_atoms_not : ((("atoms" : Str) = "not") ) = False := eq_false (by decide +kernel)
@[simp] theorem ne_atoms_both : ((("atoms" : Str) = "both") ) = False := eq_false (by decide +kernel)
@[simp] theorem ne_atoms_either : ((("atoms" : Str) = "either") ) = False := eq_false (by decide +kernel)
@[simp] theorem ne_atoms_some : ((("atoms" : Str) = "some") ) = False := eq_false (by decide +kernel)
@[simp] theorem ne_atoms_every : ((("atoms" : Str) = "every") ) = False := eq_false (by decide +kernel)
@[simp] theorem ne_not_empty : ((("not" : Str) = "empty") ) = False := eq_false (by decide +kernel)
@[simp] theorem ne_not_smooth : ((("not" : Str) = "smooth") ) = False := eq_false (by decide +kernel)
@[simp] theorem ne_not_atoms : ((("not" : Str) = "atoms") ) = False := eq_false (by decide +kernel)
@[simp] theorem ne_not_both : ((("not" : Str) = "both") ) = False := eq_false (by decide +kernel)
@[simp] theorem ne_not_either : ((("not" : Str) = "either") ) = False := eq_false (by decide +kernel)
@[simp] theorem ne_not_some : ((("not" : Str) = "some") ) = False := eq_false (by decide +kernel)
@[simp] theorem ne_not_every : ((("not" : Str) = "every") ) = False := eq_false (by decide +kernel)
@[simp] theorem ne_both_empty : ((("both" : Str) = "empty") ) = False := eq_false (by decide +kernel)
@[simp] theorem ne_both_smooth : ((("both" : Str) = "smooth") ) = False := eq_false (by decide +kernel)
@[simp] theorem ne_both_atoms : ((("both" : Str) = "atoms") ) = False := eq_false (by decide +kernel)
@[simp] theorem ne_both_not : ((("both" : Str) = "not") ) = False := eq_false (by decide +kernel)
@[simp] theorem ne_both_either : ((("both" : Str) = "either") ) = False := eq_false (by decide +kernel)
@[simp] theorem ne_both_some : ((("both" : Str) = "some") ) = False := eq_false (by decide +kernel)
@[simp] theorem ne_both_every : ((("both" : Str) = "every") ) = False := eq_false (by decide +kernel)
@[simp] theorem ne_either_empty : ((("either" : Str) = "empty") ) = False := eq_false (by decide +kernel)
@[simp] theorem ne_either_smooth : ((("either" : Str) = "smooth") ) = False := eq_false (by decide +kernel)
@[simp] theorem ne_either_atoms : ((("either" : Str) = "atoms") ) = False := eq_false (by decide +kernel)
@[simp] theorem ne_either_not : ((("either" : Str) = "not") ) = False := eq_false (by decide +kernel)
@[simp] theorem ne_either_both : ((("either" : Str) = "both") ) = False := eq_false (by decide +kernel)
@[simp] theorem ne_either_some : ((("either" : Str) = "some") ) = False := eq_false (by decide +kernel)
@[simp] theorem ne_either_every : ((("either" : Str) = "every") ) = False := eq_false (by decide +kernel)
@[simp] theorem ne_some_empty : ((("some" : Str) = "empty") ) = False := eq_false (by decide +kernel)
@[simp] theorem ne_some_smooth : ((("some" : Str) = "smooth") ) = False := eq_false (by decide +kernel)
@[simp] theorem ne_some_atoms : ((("some" : Str) = "atoms") ) = False := eq_false (by decide +kernel)
@[simp] theorem ne_some_not : ((("some" : Str) = "not") ) = False := eq_false (by decide +kernel)
@[simp] theorem ne_some_both : ((("some" : Str) = "both") ) = False := eq_false (by decide +kernel)
@[simp] theorem ne_some_either : ((("some" : Str) = "either") ) = False := eq_false (by decide +kernel)
@[simp] theorem ne_some_every : ((("some" : Str) = "every") ) = False := eq_false (by decide +kernel)
@[simp] theorem ne_every_empty : ((("every" : Str) = "empty") ) = False := eq_false (by decide +kernel)
@[simp] theorem ne_every_smooth : ((("every" : Str) = "smooth") ) = False := eq_false (by decide +kernel)
@[simp] theorem ne_every_atoms : ((("every" : Str) = "atoms") ) = False := eq_false (by decide +kernel)
@[simp] theorem ne_every_not : ((("every" : Str) = "not") ) = False := eq_false (by decide +kernel)
@[simp] theorem ne_every_both : ((("every" : Str) = "both") ) = False := eq_false (by decide +kernel)
@[simp] theorem ne_every_either : ((("every" : Str) = "either") ) = False := eq_false (by decide +kernel)
@[simp] theorem ne_every_some : ((("every" : Str) = "some") ) = False := eq_false (by decide +kernel)
@[simp] theorem fl_str {x : Str} : flatP (.str x) = true := rfl
@[simp] theorem fl_int {x : Int} : flatP (.int x) = true := rfl
@[simp] theorem in2 {x a b : Str} {μ : Sto} : cmpB .In (.str x) (.tup [.str a, .str b]) μ = some (decide (a = x) || decide (b = x)) := by
  rw [c_inT (by simp)]
  simp [eqF]
@[simp] theorem in3 {x a b c : Str} {μ : Sto} : cmpB .In (.str x) (.tup [.str a, .str b, .str c]) μ = some (decide (a = x) || (decide (b = x) || decide (c = x))) := by
  rw [c_inT (by simp)]
  simp [eqF]
@[simp] theorem ni2 {x a b : Str} {μ : Sto} : cmpB .NotIn (.str x) (.tup [.str a, .str b]) μ = some (!(decide (a = x) || decide (b = x))) := by
  rw [c_ninT (by simp)]
  simp [eqF]
@[simp] theorem ni3 {x a b c : Str} {μ : Sto} : cmpB .NotIn (.str x) (.tup [.str a, .str b, .str c]) μ = some (!(decide (a = x) || (decide (b = x) || decide (c = x)))) := by
  rw [c_ninT (by simp)]
  simp [eqF]
theorem cut_from (xs : List PV) (n : Nat) : cutP xs (some (n : Int)) none = xs.drop n := by
  unfold cutP
  rw [HT.sIx_nat]
  show (xs.drop (min n xs.length)).take (xs.length - min n xs.length) = _
  rw [List.take_of_length_le (by rw [List.length_drop]; omega)]
  by_cases h : n ≤ xs.length
  · rw [Nat.min_eq_left h]
  · rw [Nat.min_eq_right (by omega), List.drop_length, List.drop_eq_nil_of_le (by omega)]
@[simp] theorem cut_1 {x : PV} {xs : List PV} : cutP (x :: xs) (some 1) none = xs := cut_from (x :: xs) 1
@[simp] theorem cut_2 {x y : PV} {xs : List PV} : cutP (x :: y :: xs) (some 2) none = xs := cut_from (x :: y :: xs) 2
theorem cut_to (xs : List PV) (n : Nat) : cutP xs none (some (n : Int)) = xs.take n := by
  unfold cutP
  rw [HT.sIx_nat]
  show (xs.drop 0).take (min n xs.length - 0) = _
  rw [List.drop_zero, Nat.sub_zero]
  by_cases h : n ≤ xs.length
  · rw [Nat.min_eq_left h]
  · rw [Nat.min_eq_right (by omega), List.take_length, List.take_of_length_le (by omega)]
@[simp] theorem cut_u1 {x : PV} {xs : List PV} : cutP (x :: xs) none (some 1) = [x] := cut_to (x :: xs) 1
@[simp] theorem cut_u2 {x y : PV} {xs : List PV} : cutP (x :: y :: xs) none (some 2) = [x, y] := cut_to (x :: y :: xs) 2
@[simp] theorem cut_u3 {x y z : PV} {xs : List PV} : cutP (x :: y :: z :: xs) none (some 3) = [x, y, z] := cut_to (x :: y :: z :: xs) 3
@[simp] theorem cut_m1 {xs : List PV} : cutP xs none (some (-1)) = xs.dropLast := by
  have h : HT.sIx xs.length xs.length (some (-1)) = xs.length - 1 := by
    show (if (-1 : Int) < 0 then (-1 + (xs.length : Int)).toNat else min (-1 : Int).toNat xs.length) = _
    rw [if_pos (by omega)]
    omega
  unfold cutP
  rw [h, HT.sIx_none, List.drop_zero, Nat.sub_zero, List.dropLast_eq_take]
@[simp] theorem cut_1m1 {x : PV} {xs : List PV} : cutP (x :: xs) (some 1) (some (-1)) = xs.dropLast := by
  have h : HT.sIx (x :: xs).length (x :: xs).length (some (-1)) = xs.length := by
    show (if (-1 : Int) < 0 then (-1 + ((x :: xs).length : Int)).toNat else min (-1 : Int).toNat (x :: xs).length) = _
    rw [if_pos (by omega), List.length_cons]
    omega
  have h1 : HT.sIx (x :: xs).length 0 (some 1) = 1 := by
    have z := HT.sIx_nat (x :: xs).length 0 1
    rw [show ((1 : Nat) : Int) = 1 from rfl] at z
    rw [z, List.length_cons]
    omega
  unfold cutP
  rw [h, h1, List.drop_succ_cons, List.drop_zero, List.dropLast_eq_take]
theorem at_nat {xs : List PV} {n : Nat} {x : PV} (h : xs[n]? = some x) : atI xs (n : Int) = some x := by
  have hl := (List.getElem?_eq_some_iff.mp h).1
  unfold atI ixN
  rw [if_pos (by omega), if_pos (by omega), Int.toNat_natCast]
  exact h
@[simp] theorem at_0 {x : PV} {xs : List PV} : atI (x :: xs) 0 = some x := at_nat (n := 0) rfl
@[simp] theorem at_1 {x y : PV} {xs : List PV} : atI (x :: y :: xs) 1 = some y := at_nat (n := 1) rfl
@[simp] theorem at_2 {x y z : PV} {xs : List PV} : atI (x :: y :: z :: xs) 2 = some z := at_nat (n := 2) rfl
@[simp] theorem at_3 {x y z w : PV} {xs : List PV} : atI (x :: y :: z :: w :: xs) 3 = some w := at_nat (n := 3) rfl
@[simp] theorem at_m1 {x : PV} {xs : List PV} : atI (xs ++ [x]) (-1) = some x := by
  have hl : (xs ++ [x]).length = xs.length + 1 := by simp
  unfold atI ixN
  rw [if_neg (by omega), if_pos (by omega)]
  have e : (-1 + ((xs ++ [x]).length : Int)).toNat = xs.length := by omega
  show (xs ++ [x])[(-1 + ((xs ++ [x]).length : Int)).toNat]? = some x
  rw [e]
  simp
@[simp] theorem at_m1_3 {x y z : PV} : atI [x, y, z] (-1) = some z := at_m1 (xs := [x, y])
@[simp] theorem at_m1_4 {x y z w : PV} : atI [x, y, z, w] (-1) = some w := at_m1 (xs := [x, y, z])
section
variable {μ : Sto}
@[simp] theorem sq_new {xs : List PV} : seqI (.loc μ.length) (μ ++ [.lst xs]) = some (xs, [(μ.length, .lst xs)]) := sq_L at_new
@[simp] theorem len_new {xs : List PV} : biP .len [.loc μ.length] (μ ++ [.lst xs]) = some (.int xs.length, μ ++ [.lst xs]) := bi_lenL at_new
@[simp] theorem tup_new {xs : List PV} : biP .tuple [.loc μ.length] (μ ++ [.lst xs]) = some (.tup xs, μ ++ [.lst xs]) := bi_tupL at_new
@[simp] theorem all_new {bs : List Bool} : biP .all [.loc μ.length] (μ ++ [.lst (bs.map .bl)]) = some (.bl (bs.all id), μ ++ [.lst (bs.map .bl)]) := bi_allL at_new
@[simp] theorem srt_new {is : List Int} : biP .sorted [.loc μ.length] (μ ++ [.lst (is.map .int)]) = some (.loc (μ ++ [MO.lst (is.map .int)]).length, μ ++ [MO.lst (is.map .int)] ++ [MO.lst ((isort is).map .int)]) := bi_sortL at_new
end
theorem sz : sizeLine = 16777216 := sizeLine_eq

theorem u0 (k : Nat) (vs : List PV) (μ : Sto) : runT T (k + 1) 0 vs μ = runF (runT T k) ((T[0]?).getD f_law) vs μ := rfl
theorem u1 (k : Nat) (vs : List PV) (μ : Sto) : runT T (k + 1) 1 vs μ = runF (runT T k) ((T[1]?).getD f_law) vs μ := rfl
theorem u2 (k : Nat) (vs : List PV) (μ : Sto) : runT T (k + 1) 2 vs μ = runF (runT T k) ((T[2]?).getD f_law) vs μ := rfl
theorem u3 (k : Nat) (vs : List PV) (μ : Sto) : runT T (k + 1) 3 vs μ = runF (runT T k) ((T[3]?).getD f_law) vs μ := rfl
theorem u4 (k : Nat) (vs : List PV) (μ : Sto) : runT T (k + 1) 4 vs μ = runF (runT T k) ((T[4]?).getD f_law) vs μ := rfl
theorem u5 (k : Nat) (vs : List PV) (μ : Sto) : runT T (k + 1) 5 vs μ = runF (runT T k) ((T[5]?).getD f_law) vs μ := rfl
theorem u6 (k : Nat) (vs : List PV) (μ : Sto) : runT T (k + 1) 6 vs μ = runF (runT T k) ((T[6]?).getD f_law) vs μ := rfl
theorem u7 (k : Nat) (vs : List PV) (μ : Sto) : runT T (k + 1) 7 vs μ = runF (runT T k) ((T[7]?).getD f_law) vs μ := rfl
theorem u8 (k : Nat) (vs : List PV) (μ : Sto) : runT T (k + 1) 8 vs μ = runF (runT T k) ((T[8]?).getD f_law) vs μ := rfl
theorem u9 (k : Nat) (vs : List PV) (μ : Sto) : runT T (k + 1) 9 vs μ = runF (runT T k) ((T[9]?).getD f_law) vs μ := rfl
theorem u10 (k : Nat) (vs : List PV) (μ : Sto) : runT T (k + 1) 10 vs μ = runF (runT T k) ((T[10]?).getD f_law) vs μ := rfl
theorem u11 (k : Nat) (vs : List PV) (μ : Sto) : runT T (k + 1) 11 vs μ = runF (runT T k) ((T[11]?).getD f_law) vs μ := rfl
theorem u12 (k : Nat) (vs : List PV) (μ : Sto) : runT T (k + 1) 12 vs μ = runF (runT T k) ((T[12]?).getD f_law) vs μ := rfl
theorem u13 (k : Nat) (vs : List PV) (μ : Sto) : runT T (k + 1) 13 vs μ = runF (runT T k) ((T[13]?).getD f_law) vs μ := rfl
theorem u14 (k : Nat) (vs : List PV) (μ : Sto) : runT T (k + 1) 14 vs μ = runF (runT T k) ((T[14]?).getD f_law) vs μ := rfl
theorem u15 (k : Nat) (vs : List PV) (μ : Sto) : runT T (k + 1) 15 vs μ = runF (runT T k) ((T[15]?).getD f_law) vs μ := rfl
theorem u16 (k : Nat) (vs : List PV) (μ : Sto) : runT T (k + 1) 16 vs μ = runF (runT T k) ((T[16]?).getD f_law) vs μ := rfl
theorem u17 (k : Nat) (vs : List PV) (μ : Sto) : runT T (k + 1) 17 vs μ = runF (runT T k) ((T[17]?).getD f_law) vs μ := rfl
theorem u18 (k : Nat) (vs : List PV) (μ : Sto) : runT T (k + 1) 18 vs μ = runF (runT T k) ((T[18]?).getD f_law) vs μ := rfl
theorem u19 (k : Nat) (vs : List PV) (μ : Sto) : runT T (k + 1) 19 vs μ = runF (runT T k) ((T[19]?).getD f_law) vs μ := rfl
theorem u20 (k : Nat) (vs : List PV) (μ : Sto) : runT T (k + 1) 20 vs μ = runF (runT T k) ((T[20]?).getD f_law) vs μ := rfl
theorem u21 (k : Nat) (vs : List PV) (μ : Sto) : runT T (k + 1) 21 vs μ = runF (runT T k) ((T[21]?).getD f_law) vs μ := rfl
theorem u22 (k : Nat) (vs : List PV) (μ : Sto) : runT T (k + 1) 22 vs μ = runF (runT T k) ((T[22]?).getD f_law) vs μ := rfl
theorem u23 (k : Nat) (vs : List PV) (μ : Sto) : runT T (k + 1) 23 vs μ = runF (runT T k) ((T[23]?).getD f_law) vs μ := rfl
theorem u24 (k : Nat) (vs : List PV) (μ : Sto) : runT T (k + 1) 24 vs μ = runF (runT T k) ((T[24]?).getD f_law) vs μ := rfl
theorem u25 (k : Nat) (vs : List PV) (μ : Sto) : runT T (k + 1) 25 vs μ = runF (runT T k) ((T[25]?).getD f_law) vs μ := rfl
theorem u26 (k : Nat) (vs : List PV) (μ : Sto) : runT T (k + 1) 26 vs μ = runF (runT T k) ((T[26]?).getD f_law) vs μ := rfl
theorem u27 (k : Nat) (vs : List PV) (μ : Sto) : runT T (k + 1) 27 vs μ = runF (runT T k) ((T[27]?).getD f_law) vs μ := rfl
theorem u28 (k : Nat) (vs : List PV) (μ : Sto) : runT T (k + 1) 28 vs μ = runF (runT T k) ((T[28]?).getD f_law) vs μ := rfl
theorem u29 (k : Nat) (vs : List PV) (μ : Sto) : runT T (k + 1) 29 vs μ = runF (runT T k) ((T[29]?).getD f_law) vs μ := rfl
theorem u30 (k : Nat) (vs : List PV) (μ : Sto) : runT T (k + 1) 30 vs μ = runF (runT T k) ((T[30]?).getD f_law) vs μ := rfl
theorem u31 (k : Nat) (vs : List PV) (μ : Sto) : runT T (k + 1) 31 vs μ = runF (runT T k) ((T[31]?).getD f_law) vs μ := rfl
theorem u32 (k : Nat) (vs : List PV) (μ : Sto) : runT T (k + 1) 32 vs μ = runF (runT T k) ((T[32]?).getD f_law) vs μ := rfl
theorem u33 (k : Nat) (vs : List PV) (μ : Sto) : runT T (k + 1) 33 vs μ = runF (runT T k) ((T[33]?).getD f_law) vs μ := rfl
theorem u34 (k : Nat) (vs : List PV) (μ : Sto) : runT T (k + 1) 34 vs μ = runF (runT T k) ((T[34]?).getD f_law) vs μ := rfl
theorem u35 (k : Nat) (vs : List PV) (μ : Sto) : runT T (k + 1) 35 vs μ = runF (runT T k) ((T[35]?).getD f_law) vs μ := rfl
theorem u36 (k : Nat) (vs : List PV) (μ : Sto) : runT T (k + 1) 36 vs μ = runF (runT T k) ((T[36]?).getD f_law) vs μ := rfl
theorem u37 (k : Nat) (vs : List PV) (μ : Sto) : runT T (k + 1) 37 vs μ = runF (runT T k) ((T[37]?).getD f_law) vs μ := rfl
theorem u38 (k : Nat) (vs : List PV) (μ : Sto) : runT T (k + 1) 38 vs μ = runF (runT T k) ((T[38]?).getD f_law) vs μ := rfl
theorem u39 (k : Nat) (vs : List PV) (μ : Sto) : runT T (k + 1) 39 vs μ = runF (runT T k) ((T[39]?).getD f_law) vs μ := rfl
theorem u40 (k : Nat) (vs : List PV) (μ : Sto) : runT T (k + 1) 40 vs μ = runF (runT T k) ((T[40]?).getD f_law) vs μ := rfl
theorem u41 (k : Nat) (vs : List PV) (μ : Sto) : runT T (k + 1) 41 vs μ = runF (runT T k) ((T[41]?).getD f_law) vs μ := rfl
theorem u42 (k : Nat) (vs : List PV) (μ : Sto) : runT T (k + 1) 42 vs μ = runF (runT T k) ((T[42]?).getD f_law) vs μ := rfl
theorem u43 (k : Nat) (vs : List PV) (μ : Sto) : runT T (k + 1) 43 vs μ = runF (runT T k) ((T[43]?).getD f_law) vs μ := rfl
variable {k : Nat} {μ : Sto} {Q : PV → Sto → Prop}
/-- what a call with so much fuel gives: a value, in a store that has grown -/
def Gives (d j : Nat) (vs : List PV) (p : PV) : Prop := ∀ {k : Nat} {μ : Sto} {Q : PV → Sto → Prop}, d ≤ k → (∀ μ1, Gw μ μ1 → Q p μ1) → W (runT T k j vs μ) Q
theorem is_integer_int {i : Int} (h : 1 ≤ k) (q : Q (.bl true) μ) : W (runT T k 0 [.int i] μ) Q := by
  obtain ⟨k, rfl⟩ := Nat.exists_eq_add_of_le' h
  rw [u0]
  refine W_runF rfl ?_
  simp
  exact q
theorem is_integer_bl {i : Bool} (h : 1 ≤ k) (q : Q (.bl false) μ) : W (runT T k 0 [.bl i] μ) Q := by
  obtain ⟨k, rfl⟩ := Nat.exists_eq_add_of_le' h
  rw [u0]
  refine W_runF rfl ?_
  simp
  exact q
theorem is_integer_tup {i : List PV} (h : 1 ≤ k) (q : Q (.bl false) μ) : W (runT T k 0 [.tup i] μ) Q := by
  obtain ⟨k, rfl⟩ := Nat.exists_eq_add_of_le' h
  rw [u0]
  refine W_runF rfl ?_
  simp
  exact q
theorem is_natural_int {i : Int} (h : 2 ≤ k) (q : Q (.bl (decide (0 ≤ i))) μ) : W (runT T k 1 [.int i] μ) Q := by
  obtain ⟨k, rfl⟩ := Nat.exists_eq_add_of_le' h
  rw [u1]
  refine W_runF rfl ?_
  simp
  refine is_integer_int (by omega) ?_
  simp
  by_cases h : 0 ≤ i
  · exact .inr ⟨h, by simpa [h] using q⟩
  · exact .inl ⟨by omega, by simpa [h] using q⟩
theorem is_between_int {i a b : Int} (h : 2 ≤ k) (q : Q (.bl (decide (a ≤ i) && decide (i ≤ b))) μ) : W (runT T k 2 [.int i, .int a, .int b] μ) Q := by
  obtain ⟨k, rfl⟩ := Nat.exists_eq_add_of_le' h
  rw [u2]
  refine W_runF rfl ?_
  simp
  refine is_integer_int (by omega) ?_
  simp
  by_cases h1 : a ≤ i
  · refine .inr ⟨h1, ?_⟩
    by_cases h2 : i ≤ b
    · exact .inr ⟨h2, by simpa [h1, h2] using q⟩
    · exact .inl ⟨by omega, by simpa [h1, h2] using q⟩
  · exact .inl ⟨by omega, by simpa [h1] using q⟩
theorem is_between_bl {i : Bool} {a b : Int} (h : 2 ≤ k) (q : Q (.bl false) μ) : W (runT T k 2 [.bl i, .int a, .int b] μ) Q := by
  obtain ⟨k, rfl⟩ := Nat.exists_eq_add_of_le' h
  rw [u2]
  refine W_runF rfl ?_
  simp
  refine is_integer_bl (by omega) ?_
  simp
  exact q
/-- strictly ascending -/
def asc (xs : List Int) : Bool := (xs.zipWith (fun a b => decide (a < b)) (xs.drop 1)).all id
theorem is_ascending_ok {n : Nat} {xs : List Int} (h : 1 ≤ k) (hl : xs.length ≤ 1000) (hn : μ[n]? = some (.lst (xs.map .int))) (q : ∀ μ1, Gw μ μ1 → Q (.bl (asc xs)) μ1) : W (runT T k 3 [.loc n] μ) Q := by
  obtain ⟨k, rfl⟩ := Nat.exists_eq_add_of_le' h
  rw [u3]
  refine W_runF rfl ?_
  simp [sl_L hn, sq_L (Gw.new.at_ hn), and_assoc]
  have cut : cutP (xs.map PV.int) (some 1) none = (xs.drop 1).map PV.int := by
    have z := cut_from (xs.map PV.int) 1
    rw [show ((1 : Nat) : Int) = 1 from rfl] at z
    rw [z, List.map_drop]
  rw [cut]
  refine W_lc (fun p => match p with
    | .tup [.int a, .int b] => some (.bl (decide (a < b)))
    | _ => none) ?_ (fun x hx μ1 g1 => ?_) ?_ fun μ1 g1 => ?_
  · simp [chkOk, List.getElem?_append_left (List.getElem?_eq_some_iff.mp hn).1, hn]
  · obtain ⟨i, hi, rfl⟩ := List.getElem_of_mem hx
    simp [Gw.refl]
    omega
  · simp
    rw [sz]
    omega
  · have e : (List.filterMap (fun p => match p with
      | PV.tup [.int a, .int b] => some (PV.bl (decide (a < b)))
      | _ => none) ((xs.map PV.int).zipWith (fun u v => PV.tup [u, v]) ((xs.drop 1).map PV.int))) = (xs.zipWith (fun a b => decide (a < b)) (xs.drop 1)).map .bl := by
      generalize xs.drop 1 = ys
      clear hn cut g1 hl q
      induction xs generalizing ys with
      | nil => simp
      | cons x xs ih => cases ys with
        | nil => simp
        | cons y ys => simp only [List.map_cons, List.zipWith_cons_cons, List.filterMap_cons, ih]
    rw [List.nil_append, e]
    simp only [e_bi, all_new, W_some]
    exact q _ ((Gw.new.trans g1).trans .new)
end Lw
end

section
set_option Elab.async false
set_option linter.all false
set_option maxRecDepth 100000
namespace Lw
open PySem PySem.Spec L2 Pv
variable {k : Nat} {μ : Sto} {Q : PV → Sto → Prop}
abbrev Mt := List (Int × Int)
def encM (m : Mt) : PV := .tup (m.map pairP)
def inR (p : Int × Int) : Bool := decide (0 ≤ p.1) && decide (p.1 ≤ 2) && (decide (0 ≤ p.2) && decide (p.2 ≤ 1))
def okM (m : Mt) : Bool := m.all inR && asc (m.map (·.1))
theorem names_lc {m : Mt} {kk : Nat} {ρ : Env'} {c : Chk} {own : List Nat} {tg : Tg} {elt : E} {QL : List PV → Sto → Prop} (hc : chkOk c μ = true) (hl : m.length ≤ 1000)
    (ht : ∀ (a b : Int) μ1, W (turnL tg own (evB (runT T kk) true .nil) (evE (runT T kk) elt) ρ (pairP (a, b)) μ1) fun r μ2 => r = some (.int a) ∧ Gw μ1 μ2)
    (q : ∀ μ1, Gw μ μ1 → QL ((m.map (·.1)).map .int) μ1) : W (lcE c (turnL tg own (evB (runT T kk) true .nil) (evE (runT T kk) elt) ρ) (m.map pairP) [] μ) QL := by
  refine W_lc (fun p => match p with
    | .tup [.int a, _] => some (.int a)
    | _ => none) hc (fun x hx μ1 g1 => ?_) (by simp; rw [sz]; omega) fun μ1 g1 => ?_
  · obtain ⟨⟨a, b⟩, _, rfl⟩ := List.mem_map.mp hx
    exact ht a b μ1
  · have e : (m.map pairP).filterMap (fun p => match p with
      | .tup [.int a, _] => some (PV.int a)
      | _ => none) = (m.map (·.1)).map .int := by
      clear q hl g1 ht hc
      induction m with
      | nil => rfl
      | cons p m ih => simp only [List.map_cons, List.filterMap_cons, pairP, ih]
    rw [List.nil_append, e]
    exact q μ1 g1
structure MI (m : Mt) (μ : Sto) (r : List PV) (ρ : Env') (μ' : Sto) : Prop where
  env : ∃ y, ρ = [some (encM m), y, none, none]
  st : μ' = μ
  at_ : ∃ pm rm : Mt, r = rm.map pairP ∧ m = pm ++ rm ∧ pm.all inR = true
theorem is_meet_ok {m : Mt} (h : 3 ≤ k) (hl : m.length ≤ 1000) (q : ∀ μ1, Gw μ μ1 → Q (.bl (okM m)) μ1) : W (runT T k 5 [encM m] μ) Q := by
  obtain ⟨k, rfl⟩ := Nat.exists_eq_add_of_le' h
  rw [u5]
  refine W_runF rfl ?_
  simp [encM, and_assoc]
  refine WO_for (MI m μ) ⟨⟨none, rfl⟩, rfl, [], m, rfl, rfl, rfl⟩ (fun _ _ _ _ => rfl) ?_ ?_
  · rintro x r ρ μ' ⟨⟨y, rfl⟩, rfl, pm, rm, e2, e3, e4⟩
    cases rm with
    | nil => cases e2
    | cons p rm =>
      obtain ⟨rfl, rfl⟩ := List.cons.inj e2
      obtain ⟨a, b⟩ := p
      have bad : inR (a, b) = false → okM m = false := fun z => by
        unfold okM
        rw [e3, List.all_append, List.all_cons, z]
        simp
      refine ⟨_, bt_nm, ?_⟩
      simp [pairP]
      refine is_between_int (by omega) ?_
      cases h1 : (decide (0 ≤ a) && decide (a ≤ 2)) with
      | false =>
        have q0 := q μ' .refl
        rw [bad (by unfold inR; simp only [h1]; rfl)] at q0
        simp [q0]
      | true =>
        simp
        refine is_between_int (by omega) ?_
        cases h2 : (decide (0 ≤ b) && decide (b ≤ 1)) with
        | false =>
          have q0 := q μ' .refl
          rw [bad (by unfold inR; simp only [h1, h2]; rfl)] at q0
          simp [q0]
        | true =>
          simp
          refine ⟨⟨_, rfl⟩, rfl, pm ++ [(a, b)], rm, rfl, by rw [e3]; simp, ?_⟩
          rw [List.all_append, e4, List.all_cons, List.all_nil]
          unfold inR
          simp only [h1, h2]
          rfl
  · rintro ρ μ' ⟨⟨y, rfl⟩, rfl, pm, rm, e2, e3, e4⟩
    cases rm with
    | cons _ _ => cases e2
    | nil =>
      rw [List.append_nil] at e3
      subst e3
      simp [encM, and_assoc]
      refine names_lc rfl hl (fun a b μ1 => ?_) fun μ1 g1 => ?_
      · simp [pairP, Gw.refl]
      · simp
        have q1 : ∀ μ2, Gw μ' μ2 → Q (.bl (asc (m.map (·.1)))) μ2 := fun μ2 g2 => by
          have z := q μ2 g2
          unfold okM at z
          rw [e4, Bool.true_and] at z
          exact z
        refine is_ascending_ok (xs := m.map (·.1)) (by omega) (by rw [List.length_map]; exact hl) (by rw [List.map_map]; exact at_new) fun μ2 g2 => ?_
        exact q1 _ ((g1.trans .new).trans g2)
/-- the fourth bent meet -/
theorem is_meet_bl {x : Int} {r : List PV} (h : 3 ≤ k) (hx : 0 ≤ x ∧ x ≤ 2) (q : ∀ μ1, Gw μ μ1 → Q (.bl false) μ1) : W (runT T k 5 [.tup (.tup [.int x, .bl true] :: r)] μ) Q := by
  obtain ⟨k, rfl⟩ := Nat.exists_eq_add_of_le' h
  rw [u5]
  refine W_runF rfl ?_
  simp [and_assoc]
  refine WO_for (fun xs ρ μ' => xs = .tup [.int x, .bl true] :: r ∧ ρ = [some (.tup (.tup [.int x, .bl true] :: r)), none, none, none] ∧ μ' = μ) ⟨rfl, rfl, rfl⟩ (fun _ _ _ _ => rfl) ?_ (fun ρ μ' e => nomatch e.1)
  rintro y r' ρ μ' ⟨e, rfl, rfl⟩
  obtain ⟨rfl, rfl⟩ := List.cons.inj e
  refine ⟨_, bt_nm, ?_⟩
  simp
  refine is_between_int (by omega) ?_
  have h1 : (decide (0 ≤ x) && decide (x ≤ 2)) = true := by simp [hx.1, hx.2]
  rw [h1]
  simp
  refine is_between_bl (by omega) ?_
  simp
  exact q _ .refl
end Lw
end

section
set_option Elab.async false
set_option linter.all false
set_option maxRecDepth 100000
namespace Lw
open PySem PySem.Spec L2 Pv
variable {k : Nat} {μ : Sto} {Q : PV → Sto → Prop}
inductive At where
  | emp (l : Int) (m : PV) | atm (l c : Int) (m : PV) | smo (l : Int) (m : PV)
def encA : At → PV
  | .emp l m => .tup [.str "empty", .int l, m]
  | .atm l c m => .tup [.str "atoms", .int l, .int c, m]
  | .smo l m => .tup [.str "smooth", .int l, m]
def At.m : At → PV
  | .emp _ m => m
  | .atm _ _ m => m
  | .smo _ m => m
def At.lv : At → Prop
  | .emp l _ => 0 ≤ l
  | .atm l c _ => 0 ≤ l ∧ 0 < c
  | .smo l _ => 0 ≤ l
inductive Tr where
  | at_ (a : At) | nt (s : Tr) | bo (e : Bool) (a b : Tr) | qu (e : Bool) (n : Int) (s : Tr)
def wb : Bool → Str
  | true => "both"
  | false => "either"
def wq : Bool → Str
  | true => "some"
  | false => "every"
def enc : Tr → PV
  | .at_ a => encA a
  | .nt s => .tup [.str "not", enc s]
  | .bo e a b => .tup [.str (wb e), enc a, enc b]
  | .qu e n s => .tup [.str (wq e), .int n, enc s]
def MeetB (m : PV) (b : Bool) : Prop := ∀ {k : Nat} {μ : Sto} {Q : PV → Sto → Prop}, 3 ≤ k → (∀ μ1, Gw μ μ1 → Q (.bl b) μ1) → W (runT T k 5 [m] μ) Q
theorem is_first_ok {a : At} {b : Bool} (h : 4 ≤ k) (hl : a.lv) (hm : MeetB a.m b) (q : ∀ μ1, Gw μ μ1 → Q (.bl b) μ1) : W (runT T k 6 [encA a] μ) Q := by
  obtain ⟨k, rfl⟩ := Nat.exists_eq_add_of_le' h
  rw [u6]
  refine W_runF rfl ?_
  cases a with
  | emp l m =>
    simp [encA, sz]
    refine is_natural_int (by omega) ?_
    have h0 : (0 : Int) ≤ l := hl
    simp [h0]
    refine hm (by omega) fun μ1 g1 => ?_
    cases b <;> simp <;> exact q _ g1
  | smo l m =>
    simp [encA, sz]
    refine is_natural_int (by omega) ?_
    have h0 : (0 : Int) ≤ l := hl
    simp [h0]
    refine hm (by omega) fun μ1 g1 => ?_
    cases b <;> simp <;> exact q _ g1
  | atm l c m =>
    simp [encA, sz]
    refine is_natural_int (by omega) ?_
    have h0 : (0 : Int) ≤ l := hl.1
    have h1 : (0 : Int) < c := hl.2
    simp [h0]
    refine is_integer_int (by omega) ?_
    simp [h1]
    refine .inr (hm (by omega) fun μ1 g1 => ?_)
    cases b <;> simp <;> exact q _ g1
/-- a tree whose atoms are found good or bad -/
inductive Al : Tr → Bool → Prop where
  | at_ {a : At} {b : Bool} (hl : a.lv) (hm : MeetB a.m b) : Al (.at_ a) b
  | nt {s : Tr} {b : Bool} (h : Al s b) : Al (.nt s) b
  | bo {e : Bool} {s t : Tr} {b c : Bool} (h : Al s b) (h' : Al t c) : Al (.bo e s t) (b && c)
  | qu {e : Bool} {n : Int} {s : Tr} {b : Bool} (hn : 0 ≤ n ∧ n ≤ 2) (h : Al s b) : Al (.qu e n s) b
def inner : Tr → List PV
  | .at_ _ => []
  | .nt s => [enc s]
  | .bo _ a b => [enc a, enc b]
  | .qu _ _ s => [enc s]
theorem must_be_at {a : At} {b : Bool} (h : 5 ≤ k) (hl : a.lv) (hm : MeetB a.m b) (q : ∀ μ1, Gw μ μ1 → Q (if b = true then .tup [] else .non) μ1) : W (runT T k 7 [encA a] μ) Q := by
  obtain ⟨k, rfl⟩ := Nat.exists_eq_add_of_le' h
  rw [u7]
  refine W_runF rfl ?_
  have f := @is_first_ok (k + 4) μ
  cases a with
  | emp l m =>
    simp [encA, sz]
    refine f (a := .emp l m) (by omega) hl hm fun μ1 g1 => ?_
    cases b <;> simp <;> exact q _ g1
  | atm l c m =>
    simp [encA, sz]
    refine f (a := .atm l c m) (by omega) hl hm fun μ1 g1 => ?_
    cases b <;> simp <;> exact q _ g1
  | smo l m =>
    simp [encA, sz]
    refine f (a := .smo l m) (by omega) hl hm fun μ1 g1 => ?_
    cases b <;> simp <;> exact q _ g1
theorem must_be_in {t : Tr} {b : Bool} (h : 5 ≤ k) (ha : Al t b) (hn : ∀ a, t ≠ .at_ a) (q : ∀ μ1, Gw μ μ1 → Q (.tup (inner t)) μ1) : W (runT T k 7 [enc t] μ) Q := by
  obtain ⟨k, rfl⟩ := Nat.exists_eq_add_of_le' h
  rw [u7]
  refine W_runF rfl ?_
  cases ha with
  | at_ hl hm => exact absurd rfl (hn _)
  | nt ha =>
    simp [enc, sz]
    exact q _ .refl
  | @bo e s t b c h1 h2 =>
    cases e <;> simp [enc, wb, sz] <;> exact q _ .refl
  | @qu e n s b h1 h2 =>
    cases e
    · simp [enc, wq, sz]
      refine is_between_int (by omega) ?_
      have z : (decide (0 ≤ n) && decide (n ≤ 2)) = true := by simp [h1.1, h1.2]
      rw [z]
      simp
      exact q _ .refl
    · simp [enc, wq, sz]
      refine is_between_int (by omega) ?_
      have z : (decide (0 ≤ n) && decide (n ≤ 2)) = true := by simp [h1.1, h1.2]
      rw [z]
      simp
      exact q _ .refl
theorem gw_put {μ0 μ : Sto} (g : Gw μ0 μ) {n : Nat} {x : MO} (h : μ0.length ≤ n) : Gw μ0 (μ.set n x) := by
  obtain ⟨t, rfl⟩ := g
  exact ⟨t.set (n - μ0.length) x, by rw [List.set_append_right _ _ h]⟩
theorem put_at {μ : Sto} {n : Nat} {x y : MO} (h : μ[n]? = some x) : (μ.set n y)[n]? = some y := by
  rw [List.getElem?_set_self (List.getElem?_eq_some_iff.mp h).1]
theorem me_pop {n : Nat} {xs : List PV} {y : PV} (h : μ[n]? = some (.lst (xs ++ [y]))) : meP .pop (.loc n) [] μ = some (y, μ.set n (.lst xs)) := by
  simp only [meP, h]
  simp
theorem me_ext {n : Nat} {xs ys : List PV} (h : μ[n]? = some (.lst xs)) (hz : xs.length + ys.length ≤ 10000000) : meP .extend (.loc n) [.tup ys] μ = some (.non, μ.set n (.lst (xs ++ ys))) := by
  simp only [meP, h]
  rw [if_pos (by rw [sz]; omega)]
theorem me_app {n : Nat} {xs : List PV} {y : PV} (h : μ[n]? = some (.lst xs)) (hz : xs.length ≤ 10000000) : meP .append (.loc n) [y] μ = some (.non, μ.set n (.lst (xs ++ [y]))) := by
  simp only [meP, h]
  rw [if_pos (by rw [sz]; omega)]
theorem rc_pop {n : Nat} {xs : List PV} (h : μ[n]? = some (.lst xs)) : recvB .pop (.loc n) μ = true := by simp only [recvB, h]
theorem rc_ext {n : Nat} {xs : List PV} (h : μ[n]? = some (.lst xs)) : recvB .extend (.loc n) μ = true := by simp only [recvB, h]
theorem rc_app {n : Nat} {xs : List PV} (h : μ[n]? = some (.lst xs)) : recvB .append (.loc n) μ = true := by simp only [recvB, h]
def nodes : Tr → Nat
  | .at_ _ => 1
  | .nt s => nodes s + 1
  | .bo _ a b => nodes a + nodes b + 1
  | .qu _ _ s => nodes s + 1
theorem nodes_pos : ∀ t, 1 ≤ nodes t
  | .at_ _ => Nat.le_refl _
  | .nt s => Nat.le_add_left _ _
  | .bo _ a b => Nat.le_add_left _ _
  | .qu _ _ s => Nat.le_add_left _ _
def tot (ts : List (Tr × Bool)) : Nat := (ts.map fun p => nodes p.1).sum
theorem len_tot : ∀ ts : List (Tr × Bool), ts.length ≤ tot ts
  | [] => Nat.zero_le _
  | t :: ts => by
    have := len_tot ts
    have := nodes_pos t.1
    simp only [tot, List.map_cons, List.sum_cons, List.length_cons] at *
    omega
structure SI (told : PV) (b : Bool) (μ0 : Sto) (m : Nat) (ρ : Env') (μ : Sto) : Prop where
  ex : ∃ (y : Option PV) (ts : List (Tr × Bool)), ρ = [some told, some (.loc μ0.length), y] ∧ μ[μ0.length]? = some (.lst (ts.map fun p => enc p.1).reverse) ∧ (∀ p ∈ ts, Al p.1 p.2) ∧ b = ts.all (·.2) ∧ m = tot ts ∧ tot ts ≤ 1000
  gw : Gw μ0 μ
theorem is_saying_ok {t0 : Tr} {b0 : Bool} (h : 6 ≤ k) (ha : Al t0 b0) (hz : nodes t0 ≤ 1000) (q : ∀ μ1, Gw μ μ1 → Q (.bl b0) μ1) : W (runT T k 8 [enc t0] μ) Q := by
  obtain ⟨k, rfl⟩ := Nat.exists_eq_add_of_le' h
  rw [u8]
  refine W_runF rfl ?_
  simp [sz]
  rw [s_whW]
  refine WO_while (SI (enc t0) b0 μ) ?_ (m := nodes t0) ⟨⟨none, [(t0, b0)], rfl, by simp, by simpa using ha, by simp, by simp [tot], by simpa [tot] using hz⟩, .new⟩ (by unfold fuelW; omega)
  rintro m ρ μ1 ⟨⟨y, ts, rfl, hc, hal, rfl, rfl, hb⟩, gw⟩
  rw [W_test]
  simp [bi_lenL hc]
  cases ts with
  | nil =>
    simp
    exact q _ gw
  | cons p ts =>
    obtain ⟨t, b⟩ := p
    have hp : Al t b := hal _ List.mem_cons_self
    have hr : ∀ p ∈ ts, Al p.1 p.2 := fun p hp => hal p (List.mem_cons_of_mem _ hp)
    have hc' : μ1[μ.length]? = some (.lst ((ts.map fun p => enc p.1).reverse ++ [enc t])) := by rw [hc]; simp
    have lt := len_tot ts
    have np := nodes_pos t
    have ht : tot ((t, b) :: ts) = nodes t + tot ts := by simp [tot]
    rw [ht] at hb ⊢
    simp [rc_pop hc', me_pop hc']
    refine ⟨nodes t + tot ts - 1, by omega, ?_⟩
    have at2 : (μ1.set μ.length (.lst (ts.map fun p => enc p.1).reverse))[μ.length]? = some (.lst (ts.map fun p => enc p.1).reverse) := put_at hc
    have gw2 : Gw μ (μ1.set μ.length (.lst (ts.map fun p => enc p.1).reverse)) := gw_put gw (Nat.le_refl _)
    -- the rest of the turn, for the parts within
    have go : ∀ (us : List (Tr × Bool)) μ2, (∀ p ∈ us, Al p.1 p.2) → inner t = us.map (fun p => enc p.1) → b = us.all (·.2) → nodes t = tot us + 1 → Gw (μ1.set μ.length (.lst (ts.map fun p => enc p.1).reverse)) μ2 →
        SI (enc t0) (((t, b) :: ts).all (·.2)) μ (nodes t + tot ts - 1) [some (enc t0), some (.loc μ.length), some (.tup (inner t))] (μ2.set μ.length (.lst ((ts.map fun p => enc p.1).reverse ++ inner t))) := by
      intro us μ2 h1 h2 h3 h4 g2
      refine ⟨⟨_, us.reverse ++ ts, rfl, ?_, fun p hp => ?_, ?_, ?_, ?_⟩, gw_put (gw2.trans g2) (Nat.le_refl _)⟩
      · rw [put_at (g2.at_ at2), h2]
        simp
      · rcases List.mem_append.mp hp with z | z
        · exact h1 p (List.mem_reverse.mp z)
        · exact hr p z
      · rw [List.all_cons, List.all_append, List.all_reverse, ← h3]
      · simp [tot] at h4 ⊢
        omega
      · simp [tot] at h4 hb ⊢
        omega
    have step : ∀ (us : List (Tr × Bool)) μ2, (∀ p ∈ us, Al p.1 p.2) → inner t = us.map (fun p => enc p.1) → b = us.all (·.2) → nodes t = tot us + 1 → Gw (μ1.set μ.length (.lst (ts.map fun p => enc p.1).reverse)) μ2 →
        recvB Me.extend (PV.loc μ.length) μ2 = true ∧ W (meP Me.extend (PV.loc μ.length) [.tup (inner t)] μ2) fun x_1 μ1 =>
          SI (enc t0) (b && ts.all fun x => x.snd) μ (nodes t + tot ts - 1) [some (enc t0), some (PV.loc μ.length), some (.tup (inner t))] μ1 := by
      intro us μ2 h1 h2 h3 h4 g2
      refine ⟨rc_ext (g2.at_ at2), ?_⟩
      have il : (inner t).length ≤ 2 := by cases t <;> simp [inner]
      rw [me_ext (g2.at_ at2) (by rw [List.length_reverse, List.length_map]; omega), W_some]
      exact go us μ2 h1 h2 h3 h4 g2
    cases hp with
    | @at_ a b hl hm =>
      refine must_be_at (by omega) hl hm fun μ2 g2 => ?_
      cases b with
      | true => exact .inl ⟨(fun z => nomatch z), step [] μ2 (fun _ z => nomatch z) rfl rfl rfl g2⟩
      | false =>
        have z := q μ2 (gw2.trans g2)
        exact .inr ⟨rfl, by simpa using z⟩
    | @nt s b hs =>
      refine must_be_in (by omega) (.nt hs) (fun _ z => nomatch z) fun μ2 g2 => .inl ⟨(fun z => nomatch z), step [(s, b)] μ2 (by simpa using hs) rfl (by simp) (by simp [tot, nodes]) g2⟩
    | @bo e s t b c h1 h2 =>
      refine must_be_in (by omega) (.bo h1 h2) (fun _ z => nomatch z) fun μ2 g2 => .inl ⟨(fun z => nomatch z), step [(s, b), (t, c)] μ2 (by simp [h1, h2]) rfl (by simp) (by simp [tot, nodes]) g2⟩
    | @qu e n s b hn hs =>
      refine must_be_in (by omega) (.qu hn hs) (fun _ z => nomatch z) fun μ2 g2 => .inl ⟨(fun z => nomatch z), step [(s, b)] μ2 (by simpa using hs) rfl (by simp) (by simp [tot, nodes]) g2⟩
end Lw
end

section
set_option Elab.async false
set_option linter.all false
set_option maxRecDepth 100000
namespace Lw
open PySem PySem.Spec L2 Pv
variable {k : Nat} {μ : Sto} {Q : PV → Sto → Prop}
section
variable {Φ : Nat → List PV → Sto → Option (PV × Sto)} {ρ : Env'} {QL : List PV → Sto → Prop} {QT' : Option PV → Sto → Prop}
def turnI (tg1 : Tg) (own1 : List Nat) (me : Env' → Sto → Option (PV × Sto)) (ρ1 : Env') : PV → Sto → Option (Option PV × Sto) := fun y μ4 => match bindT tg1 y (wipeE ρ1 own1) with
  | some ρ2 => (me ρ2 μ4).map fun r => (some r.1, r.2)
  | none => none
@[simp] theorem t_in {tg : Tg} {own : List Nat} {me : Env' → Sto → Option (PV × Sto)} {x : PV} : W (turnI tg own me ρ x μ) QT' = ∃ ρ1, bindT tg x (wipeE ρ own) = some ρ1 ∧ W (me ρ1 μ) fun v μ4 => QT' (some v) μ4 := by
  unfold turnI
  cases bindT tg x (wipeE ρ own) with
  | none => simp
  | some ρ1 => simp only [W_map, Option.some.injEq, exists_eq_left']
@[simp] theorem t_lc2 {tg tg1 : Tg} {own own1 : List Nat} {mi1 : Env' → Sto → Option ((List PV × Chk) × Sto)} {me : Env' → Sto → Option (PV × Sto)} {x : PV} {acc : List PV} : W (turnL2 tg own mi1 tg1 own1 me ρ x acc μ) QL =
    ∃ ρ1, bindT tg x (wipeE ρ own) = some ρ1 ∧ W (mi1 ρ1 μ) fun xc μ3 => W (lcE xc.2 (turnI tg1 own1 me ρ1) xc.1 acc μ3) QL := by
  unfold turnL2
  cases bindT tg x (wipeE ρ own) with
  | none => simp
  | some ρ1 =>
    simp only [W_seq, Option.some.injEq, exists_eq_left']
    rfl
theorem W_lc2 {c : Chk} {turn : PV → List PV → Sto → Option (List PV × Sto)} (g : PV → List PV) : ∀ {xs acc : List PV} {μ : Sto}, chkOk c μ = true → acc.length + (xs.flatMap g).length ≤ 100000 →
    (∀ x ∈ xs, ∀ acc' μ1, Gw μ μ1 → acc'.length + (g x).length ≤ 100000 → W (turn x acc' μ1) fun r μ2 => r = acc' ++ g x ∧ Gw μ1 μ2) → (∀ μ1, Gw μ μ1 → QL (acc ++ xs.flatMap g) μ1) → W (lc2E c turn xs acc μ) QL
  | [], acc, μ, hc, _, _, q => by
    have z := q μ .refl
    rw [List.flatMap_nil, List.append_nil] at z
    simp only [lc2E, hc, if_true]
    exact ⟨_, _, rfl, z⟩
  | x :: xs, acc, μ, hc, hl, h, q => by
    rw [List.flatMap_cons, List.length_append] at hl
    obtain ⟨r, μ1, e, rfl, g1⟩ := h x List.mem_cons_self acc μ .refl (by omega)
    simp only [lc2E, hc, if_true]
    rw [e, seqO_some]
    refine W_lc2 g (g1.chk hc) (by rw [List.length_append]; omega) (fun y hy a μ2 g2 => h y (List.mem_cons_of_mem _ hy) a μ2 (g1.trans g2)) fun μ2 g2 => ?_
    have z := q μ2 (g1.trans g2)
    rw [List.flatMap_cons] at z
    rw [List.append_assoc]
    exact z
end
theorem inner_ok {t : Tr} (h : 1 ≤ k) (q : Q (.tup (inner t)) μ) : W (runT T k 10 [enc t] μ) Q := by
  obtain ⟨k, rfl⟩ := Nat.exists_eq_add_of_le' h
  rw [u10]
  refine W_runF rfl ?_
  cases t with
  | at_ a => cases a <;> simp [enc, encA, sz] <;> exact q
  | nt s =>
    simp [enc]
    exact q
  | bo e a b => cases e <;> simp [enc, wb] <;> exact q
  | qu e n s => cases e <;> simp [enc, wq] <;> exact q
def isA : Tr → Bool
  | .at_ _ => true
  | _ => false
theorem is_atom_ok {t : Tr} (h : 2 ≤ k) (q : Q (.bl (isA t)) μ) : W (runT T k 11 [enc t] μ) Q := by
  obtain ⟨k, rfl⟩ := Nat.exists_eq_add_of_le' h
  rw [u11]
  refine W_runF rfl ?_
  simp
  refine inner_ok (by omega) ?_
  cases t <;> simp [inner] <;> exact q
def ss (xs : List Int) : List Int := isort (dedup xs)
def kd (ks : List Int) : List (Key × PV) := ks.map fun i => (Sum.inl i, PV.bl true)
def addK (ks : List Int) (i : Int) : List Int := if i ∈ ks then ks else ks ++ [i]
theorem kd_put (ks : List Int) (i : Int) : putP (kd ks) (.inl i) (.bl true) = kd (addK ks i) := by
  have ha : ((kd ks).any fun p => decide (p.1 = Sum.inl i)) = decide (i ∈ ks) := by
    induction ks with
    | nil => rfl
    | cons j ks ih =>
      have e : (decide ((Sum.inl j : Key) = Sum.inl i)) = decide (j = i) := by simp
      simp only [kd, List.map_cons, List.any_cons] at ih ⊢
      rw [ih, e]
      by_cases h : j = i
      · simp [h]
      · by_cases h2 : i ∈ ks <;> simp [h, h2, Ne.symm h]
  unfold putP addK
  rw [ha]
  by_cases h : i ∈ ks
  · rw [if_pos (decide_eq_true h), if_pos h]
    unfold kd
    rw [List.map_map]
    refine List.map_congr_left fun j _ => ?_
    show (if (Sum.inl j : Key) = Sum.inl i then (Sum.inl j, PV.bl true) else (Sum.inl j, PV.bl true)) = _
    split <;> rfl
  · rw [if_neg (by simpa using h), if_neg h]
    simp [kd]
theorem addK_len (ks : List Int) (i : Int) : (addK ks i).length ≤ ks.length + 1 := by
  unfold addK
  split
  · omega
  · simp
theorem dc_ints {c : Chk} {turn : PV → Sto → Option (Option (Key × PV) × Sto)} (hc : chkOk c μ = true) (ht : ∀ i : Int, turn (.int i) μ = some (some (.inl i, .bl true), μ)) : ∀ (xs ks : List Int), ks.length + xs.length ≤ 1000 → dcE c turn (xs.map .int) (kd ks) μ = some (kd (xs.foldl addK ks), μ)
  | [], ks, _ => by simp only [List.map_nil, dcE, hc, if_true, List.foldl_nil]
  | x :: xs, ks, hl => by
    rw [List.length_cons] at hl
    have hk : (kd ks).length < sizeLine := by
      rw [sz]
      simp only [kd, List.length_map]
      omega
    simp only [List.map_cons, dcE, hc, if_true, ht, seqO_some, hk, List.foldl_cons]
    rw [kd_put]
    exact dc_ints hc ht xs (addK ks x) (by have := addK_len ks x; omega)
theorem fold_add : ∀ (xs ks : List Int), ks.Nodup → (xs.foldl addK ks).Nodup ∧ ∀ i, i ∈ xs.foldl addK ks ↔ i ∈ ks ∨ i ∈ xs
  | [], ks, h => ⟨h, fun i => by simp⟩
  | x :: xs, ks, h => by
    have hn : (addK ks x).Nodup := by
      unfold addK
      split
      · exact h
      · rename_i hx
        rw [List.nodup_append]
        refine ⟨h, by simp, fun a ha b hb => ?_⟩
        rw [List.mem_singleton.mp hb]
        rintro rfl
        exact hx ha
    have hm : ∀ i, i ∈ addK ks x ↔ i ∈ ks ∨ i = x := fun i => by
      unfold addK
      split
      · rename_i hx
        constructor
        · exact .inl
        · rintro (h | rfl)
          · exact h
          · exact hx
      · simp
    obtain ⟨h1, h2⟩ := fold_add xs (addK ks x) hn
    refine ⟨h1, fun i => ?_⟩
    rw [List.foldl_cons, h2, hm, List.mem_cons, or_assoc]
theorem isort_lt {l : List Int} (h : l.Nodup) : (isort l).Pairwise (· < ·) := by
  have h1 := isort_sorted l
  have h2 : (isort l).Nodup := (isort_perm l).nodup_iff.mpr h
  exact (h1.and h2).imp fun ⟨a, b⟩ => by omega
theorem keys_some (ks : List Int) : allSome keyI ((kd ks).map (·.1)) = some ks := by
  induction ks with
  | nil => rfl
  | cons i ks ih =>
    have e : (kd (i :: ks)).map (·.1) = Sum.inl i :: (kd ks).map (·.1) := rfl
    rw [e]
    simp only [allSome, keyI, ih, Option.map_some]
/-- rising -/
theorem rising_ok {n : Nat} {xs : List Int} (h : 1 ≤ k) (hl : xs.length ≤ 60) (hn : μ[n]? = some (.lst (xs.map .int))) (q : ∀ μ1, Gw μ μ1 → Q (.tup ((ss xs).map .int)) μ1) : W (runT T k 4 [.loc n] μ) Q := by
  obtain ⟨k, rfl⟩ := Nat.exists_eq_add_of_le' h
  rw [u4]
  refine W_runF rfl ?_
  simp [and_assoc, sq_L hn]
  rw [show ([] : List (Key × PV)) = kd [] from rfl, dc_ints (ks := []) (by simp [chkOk, hn]) (fun i => ?_) xs (by simpa using (by omega : xs.length ≤ 1000)), W_some]
  · obtain ⟨h1, h2⟩ := fold_add xs [] .nil
    have hlen : (xs.foldl addK []).length ≤ xs.length := by
      have g : ∀ (xs ks : List Int), (xs.foldl addK ks).length ≤ ks.length + xs.length := by
        intro xs
        induction xs with
        | nil => intro ks; simp
        | cons x xs ih =>
          intro ks
          have := ih (addK ks x)
          have := addK_len ks x
          rw [List.foldl_cons, List.length_cons]
          omega
      simpa using g xs []
    have e : biP Bi.sorted [PV.loc μ.length] (μ ++ [MO.dic (kd (xs.foldl addK []))]) = some (.loc (μ ++ [MO.dic (kd (xs.foldl addK []))]).length, μ ++ [MO.dic (kd (xs.foldl addK []))] ++ [MO.lst ((ss xs).map .int)]) := by
      simp only [biP, at_new, keys_some]
      rw [if_pos (by omega), newC]
      rw [show isort (xs.foldl addK []) = ss xs from sset_uniq (isort_lt h1) fun i => by rw [(isort_perm _).mem_iff, h2]; simp]
    rw [e, W_some, tup_new, W_some]
    exact q _ (Gw.new.trans .new)
  · simp only [turnD, bindT, evB, seqO_some, testB, evE, Pv.keyOf]
    simp [Pv.keyOf]
end Lw
end

section
set_option Elab.async false
set_option linter.all false
set_option maxRecDepth 100000
namespace Lw
open PySem PySem.Spec L2 Pv
variable {k : Nat} {μ : Sto} {Q : PV → Sto → Prop}
def decM : PV → Mt
  | .tup xs => (asPairs xs).getD []
  | _ => []
@[simp] theorem dec_enc (m : Mt) : decM (encM m) = m := by simp only [decM, encM, asPairs_map, Option.getD_some]
/-- a saying that is one -/
def WF : Tr → Prop
  | .at_ a => a.lv ∧ ∃ m, a.m = encM m ∧ okM m = true
  | .nt s => WF s
  | .bo _ s t => WF s ∧ WF t
  | .qu _ n s => (0 ≤ n ∧ n ≤ 2) ∧ WF s
theorem asc_lt : ∀ {xs : List Int}, asc xs = true → xs.Pairwise (· < ·)
  | [], _ => .nil
  | [x], _ => by simp
  | x :: y :: r, h => by
    have h' : (decide (x < y) && asc (y :: r)) = true := by
      simpa [asc] using h
    rw [Bool.and_eq_true, decide_eq_true_eq] at h'
    have ih := asc_lt h'.2
    rw [List.pairwise_cons]
    refine ⟨fun z hz => ?_, ih⟩
    rcases List.mem_cons.mp hz with e | hz
    · rw [e]; exact h'.1
    · exact Int.lt_trans h'.1 ((List.pairwise_cons.mp ih).1 z hz)
theorem few : ∀ {xs : List Int}, xs.Pairwise (· < ·) → (∀ x ∈ xs, 0 ≤ x ∧ x ≤ 2) → xs.length ≤ 3
  | [], _, _ => by simp
  | [_], _, _ => by simp
  | [_, _], _, _ => by simp
  | [_, _, _], _, _ => by simp
  | a :: b :: c :: d :: r, h, hb => by
    exfalso
    simp only [List.pairwise_cons, List.mem_cons] at h
    have h1 := h.1 b (.inl rfl)
    have h2 := h.2.1 c (.inl rfl)
    have h3 := h.2.2.1 d (.inl rfl)
    have h4 := (hb a (by simp)).1
    have h5 := (hb d (by simp)).2
    omega
theorem okM_names {m : Mt} (h : okM m = true) : (m.map (·.1)).Pairwise (· < ·) ∧ ∀ x ∈ m.map (·.1), 0 ≤ x ∧ x ≤ 2 := by
  unfold okM at h
  rw [Bool.and_eq_true, List.all_eq_true] at h
  refine ⟨asc_lt h.2, fun x hx => ?_⟩
  obtain ⟨p, hp, rfl⟩ := List.mem_map.mp hx
  have := h.1 p hp
  unfold inR at this
  simp only [Bool.and_eq_true, decide_eq_true_eq] at this
  exact this.1
theorem okM_len {m : Mt} (h : okM m = true) : m.length ≤ 3 := by
  obtain ⟨h1, h2⟩ := okM_names h
  have := few h1 h2
  simpa using this
theorem meet_ok {m : Mt} {b : Bool} (h : okM m = b) (hl : m.length ≤ 1000) : MeetB (encM m) b := fun hk q => is_meet_ok hk hl (by rw [h]; exact q)
theorem al_of : ∀ {t : Tr}, WF t → Al t true
  | .at_ a, ⟨h1, m, e, h2⟩ => .at_ h1 (by rw [e]; exact meet_ok h2 (by have := okM_len h2; omega))
  | .nt s, h => .nt (al_of h)
  | .bo e s t, h => .bo (b := true) (c := true) (al_of h.1) (al_of h.2)
  | .qu e n s, h => .qu h.1 (al_of h.2)
theorem ss_mem (xs : List Int) (i : Int) : i ∈ ss xs ↔ i ∈ xs := by
  unfold ss
  rw [(isort_perm _).mem_iff, mem_dedup]
theorem ss_lt (xs : List Int) : (ss xs).Pairwise (· < ·) := isort_lt (nodup_dedup xs)
/-- its free parts -/
def fr : Tr → List Int
  | .at_ a => (decM a.m).map (·.1)
  | .nt s => ss (fr s)
  | .bo _ s t => ss (fr s ++ fr t)
  | .qu _ n s => ss ((fr s).filter fun x => decide (x ≠ n))
theorem fr_ok : ∀ {t : Tr}, WF t → (fr t).Pairwise (· < ·) ∧ ∀ x ∈ fr t, 0 ≤ x ∧ x ≤ 2
  | .at_ a, ⟨_, m, e, h⟩ => by
    simp only [fr, e, dec_enc]
    exact okM_names h
  | .nt s, h => ⟨ss_lt _, fun x hx => (fr_ok (t := s) h).2 x ((ss_mem _ _).mp hx)⟩
  | .bo _ s t, h => ⟨ss_lt _, fun x hx => by
    rcases List.mem_append.mp ((ss_mem _ _).mp hx) with z | z
    · exact (fr_ok (t := s) h.1).2 x z
    · exact (fr_ok (t := t) h.2).2 x z⟩
  | .qu _ n s, h => ⟨ss_lt _, fun x hx => (fr_ok (t := s) h.2).2 x (List.mem_filter.mp ((ss_mem _ _).mp hx)).1⟩
theorem fr_len {t : Tr} (h : WF t) : (fr t).length ≤ 3 := few (fr_ok h).1 (fr_ok h).2
theorem W_lcT {β : Type} (f : β → PV) (g : β → Option PV) {c : Chk} {turn : PV → Sto → Option (Option PV × Sto)} {QL : List PV → Sto → Prop} : ∀ {xs : List β} {acc : List PV} {μ : Sto}, chkOk c μ = true →
    (∀ x ∈ xs, ∀ μ1, Gw μ μ1 → W (turn (f x) μ1) fun r μ2 => r = g x ∧ Gw μ1 μ2) → acc.length + xs.length ≤ 100000 → (∀ μ1, Gw μ μ1 → QL (acc ++ xs.filterMap g) μ1) → W (lcE c turn (xs.map f) acc μ) QL
  | [], acc, μ, hc, _, _, q => by
    have z := q μ .refl
    rw [List.filterMap_nil, List.append_nil] at z
    simp only [List.map_nil, lcE, hc, if_true]
    exact ⟨_, _, rfl, z⟩
  | x :: xs, acc, μ, hc, h, hl, q => by
    obtain ⟨r, μ1, e, rfl, g1⟩ := h x List.mem_cons_self μ .refl
    rw [List.length_cons] at hl
    simp only [List.map_cons, lcE, hc, if_true]
    rw [e, seqO_some]
    cases hg : g x with
    | none =>
      refine W_lcT f g (g1.chk hc) (fun y hy μ2 g2 => h y (List.mem_cons_of_mem _ hy) μ2 (g1.trans g2)) (by omega) fun μ2 g2 => ?_
      have z := q μ2 (g1.trans g2)
      rw [List.filterMap_cons, hg] at z
      exact z
    | some y =>
      dsimp only
      rw [if_pos (by rw [sz]; omega)]
      refine W_lcT f g (g1.chk hc) (fun y hy μ2 g2 => h y (List.mem_cons_of_mem _ hy) μ2 (g1.trans g2)) (by rw [List.length_append, List.length_singleton]; omega) fun μ2 g2 => ?_
      have z := q μ2 (g1.trans g2)
      rw [List.filterMap_cons, hg] at z
      rw [List.append_assoc]
      exact z
theorem W_lc2T {β : Type} (f : β → PV) (g : β → List PV) {c : Chk} {turn : PV → List PV → Sto → Option (List PV × Sto)} {QL : List PV → Sto → Prop} : ∀ {xs : List β} {acc : List PV} {μ : Sto}, chkOk c μ = true → acc.length + (xs.flatMap g).length ≤ 10000 →
    (∀ x ∈ xs, ∀ acc' μ1, Gw μ μ1 → acc'.length + (g x).length ≤ 10000 → W (turn (f x) acc' μ1) fun r μ2 => r = acc' ++ g x ∧ Gw μ1 μ2) → (∀ μ1, Gw μ μ1 → QL (acc ++ xs.flatMap g) μ1) → W (lc2E c turn (xs.map f) acc μ) QL
  | [], acc, μ, hc, _, _, q => by
    have z := q μ .refl
    rw [List.flatMap_nil, List.append_nil] at z
    simp only [List.map_nil, lc2E, hc, if_true]
    exact ⟨_, _, rfl, z⟩
  | x :: xs, acc, μ, hc, hl, h, q => by
    rw [List.flatMap_cons, List.length_append] at hl
    obtain ⟨r, μ1, e, rfl, g1⟩ := h x List.mem_cons_self acc μ .refl (by omega)
    simp only [List.map_cons, lc2E, hc, if_true]
    rw [e, seqO_some]
    refine W_lc2T f g (g1.chk hc) (by rw [List.length_append]; omega) (fun y hy a μ2 g2 => h y (List.mem_cons_of_mem _ hy) a μ2 (g1.trans g2)) fun μ2 g2 => ?_
    have z := q μ2 (g1.trans g2)
    rw [List.flatMap_cons] at z
    rw [List.append_assoc]
    exact z
@[simp] theorem fm_some {β : Type} (f : β → PV) (xs : List β) : xs.filterMap (fun x => some (f x)) = xs.map f := by
  rw [← List.filterMap_eq_map]
  rfl
def parts : Tr → List Tr
  | .at_ _ => []
  | .nt s => [s]
  | .bo _ s t => [s, t]
  | .qu _ _ s => [s]
theorem inner_parts (t : Tr) : inner t = (parts t).map enc := by cases t <;> rfl
theorem names_lc2 {ts : List Tr} {kk : Nat} {ρ : Env'} {QL : List PV → Sto → Prop} {μ : Sto} (hr : ∃ a b c d e, ρ = [a, b, c, d, e]) (hw : ∀ t ∈ ts, WF t) (hl : ts.length ≤ 2) (hf : ∀ t ∈ ts, ∀ {μ : Sto} {Q : PV → Sto → Prop}, (∀ μ1, Gw μ μ1 → Q (.tup ((fr t).map .int)) μ1) → W (runT T kk 12 [enc t] μ) Q) (q : ∀ μ1, Gw μ μ1 → QL ((ts.flatMap fr).map .int) μ1) :
    W (lc2E [] (turnL2 (.nm 2) [2, 3] (evI (runT T kk) (.val (.call 12 (.cons (.var 2) .nil)))) (.nm 3) [3] (evE (runT T kk) (.var 3)) ρ) (ts.map enc) [] μ) QL := by
  obtain ⟨a, b, c, d, e, rfl⟩ := hr
  have e1 : (ts.flatMap fun t => (fr t).map PV.int) = (ts.flatMap fr).map PV.int := by rw [List.map_flatMap]
  refine W_lc2T enc (fun t => (fr t).map .int) rfl ?_ (fun t ht acc μ1 g1 hl => ?_) fun μ1 g1 => by rw [List.nil_append, e1]; exact q μ1 g1
  · rw [e1, List.length_map, List.length_flatMap]
    have : (ts.map fun t => (fr t).length).sum ≤ 3 * ts.length := by
      clear e1 q hf hl
      induction ts with
      | nil => simp
      | cons t ts ih =>
        have h1 := fr_len (hw t List.mem_cons_self)
        have h2 := ih (fun t ht => hw t (List.mem_cons_of_mem _ ht))
        simp only [List.map_cons, List.sum_cons, List.length_cons]
        omega
    simp only [List.length_nil]
    omega
  · simp
    refine hf t ht fun μ2 g2 => ?_
    simp [and_assoc]
    refine W_lcT PV.int (fun i => some (.int i)) rfl (fun i _ μ3 g3 => ?_) ?_ fun μ3 g3 => ?_
    · simp [Gw.refl]
    · have := fr_len (hw t ht)
      rw [List.length_map] at hl
      omega
    · exact ⟨by simp, g2.trans g3⟩
theorem isA_parts {t : Tr} (h : isA t = false) : ∀ s ∈ parts t, nodes s + 1 ≤ nodes t ∧ (WF t → WF s) := by
  cases t with
  | at_ a => cases h
  | nt s => intro x hx; simp [parts] at hx; subst hx; exact ⟨Nat.le_refl _, fun h => h⟩
  | bo e s t =>
    intro x hx
    simp [parts] at hx
    rcases hx with rfl | rfl
    · exact ⟨by simp only [nodes]; omega, fun h => h.1⟩
    · exact ⟨by simp only [nodes]; omega, fun h => h.2⟩
  | qu e n s => intro x hx; simp [parts] at hx; subst hx; exact ⟨Nat.le_refl _, fun h => h.2⟩
theorem parts_len (t : Tr) : (parts t).length ≤ 2 := by cases t <;> simp [parts]
theorem free_ok (t : Tr) {k : Nat} {μ : Sto} {Q : PV → Sto → Prop} (hk : nodes t + 4 ≤ k) (hw : WF t) (q : ∀ μ1, Gw μ μ1 → Q (.tup ((fr t).map .int)) μ1) : W (runT T k 12 [enc t] μ) Q := by
  obtain ⟨k, rfl⟩ : ∃ k', k = k' + 1 := ⟨k - 1, by omega⟩
  rw [u12]
  refine W_runF rfl ?_
  simp
  refine is_atom_ok (by omega) ?_
  have rest : isA t = false → ∀ {Q' : PV → Sto → Prop}, True := fun _ _ => trivial
  cases ha : isA t with
  | true =>
    cases t with
    | at_ a =>
      obtain ⟨_, m, em, hm⟩ := hw
      have hl := okM_len hm
      have hlast : ∃ xs, encA a = .tup xs ∧ atI xs (-1) = some (encM m) := by
        cases a with
        | emp l m' => exact ⟨_, rfl, by rw [at_m1_3]; exact congrArg some em⟩
        | atm l c m' => exact ⟨_, rfl, by rw [at_m1_4]; exact congrArg some em⟩
        | smo l m' => exact ⟨_, rfl, by rw [at_m1_3]; exact congrArg some em⟩
      obtain ⟨xs, e1, e2⟩ := hlast
      simp [enc, e1, e2, encM, and_assoc]
      refine names_lc rfl (by omega) (fun a b μ1 => ?_) fun μ1 g1 => ?_
      · simp [pairP, Gw.refl]
      · simp
        have z := q (μ1 ++ [.lst ((m.map (·.1)).map PV.int)]) (g1.trans .new)
        simp only [fr, em, dec_enc] at z
        simpa using z
    | _ => cases ha
  | false =>
    have ip := isA_parts ha
    have rec_ : ∀ s ∈ parts t, ∀ {μ : Sto} {Q : PV → Sto → Prop}, (∀ μ1, Gw μ μ1 → Q (.tup ((fr s).map .int)) μ1) → W (runT T k 12 [enc s] μ) Q := fun s hs {μ Q} q => by
      have := ip s hs
      exact free_ok s (by omega) ((this.2) hw) q
    simp
    refine inner_ok (by omega) ?_
    simp [and_assoc, inner_parts]
    refine names_lc2 ⟨_, _, _, _, _, rfl⟩ (fun s hs => (ip s hs).2 hw) (parts_len t) rec_ fun μ1 g1 => ?_
    have fl : ((parts t).flatMap fr).length ≤ 6 := by
      have := parts_len t
      rw [List.length_flatMap]
      have h1 : ∀ (ts : List Tr), (∀ s ∈ ts, WF s) → (ts.map fun s => (fr s).length).sum ≤ 3 * ts.length := by
        intro ts
        induction ts with
        | nil => intro _; simp
        | cons t ts ih =>
          intro hw
          have h1 := fr_len (hw t List.mem_cons_self)
          have h2 := ih fun s hs => hw s (List.mem_cons_of_mem _ hs)
          simp only [List.map_cons, List.sum_cons, List.length_cons]
          omega
      have := h1 (parts t) fun s hs => (ip s hs).2 hw
      omega
    have g2 : Gw μ (μ1 ++ [MO.lst (((parts t).flatMap fr).map PV.int)]) := g1.trans .new
    cases t with
    | at_ a => cases ha
    | nt s =>
      simp [enc]
      refine rising_ok (xs := (parts (.nt s)).flatMap fr) (by omega) (by omega) at_new fun μ2 g3 => ?_
      have z := q μ2 (g2.trans g3)
      simpa [fr, parts] using z
    | bo e s t =>
      cases e <;> simp [enc, wb]
      all_goals
        refine rising_ok (xs := (parts (.bo _ s t)).flatMap fr) (by omega) (by omega) at_new fun μ2 g3 => ?_
        have z := q μ2 (g2.trans g3)
        simpa [fr, parts] using z
    | qu e n s =>
      have fin_ : ∀ (u : PV) (ρ' : List (Option PV)), W (lcE [(μ1.length, MO.lst (((parts (.qu e n s)).flatMap fr).map PV.int))]
          (turnL (Tg.nm 3) [3] (evB (runT T k) true (Es.cons (E.cmp CmpOp.NotEq (E.var 3) ((E.var 0).ix (E.cst (PV.int 1)))) Es.nil)) (evE (runT T k) (E.var 3)) [some (enc (.qu e n s)), some (PV.loc μ1.length), none, none, none])
          (((parts (.qu e n s)).flatMap fr).map PV.int) [] (μ1 ++ [MO.lst (((parts (.qu e n s)).flatMap fr).map PV.int)]))
          fun acc μ4 => W (runT T k 4 [PV.loc μ4.length] (μ4 ++ [MO.lst acc])) fun x μ1 => Q x μ1 := fun u ρ' => by
        refine W_lcT PV.int (fun i => if i ≠ n then some (.int i) else none) (by simp [chkOk]) (fun i _ μ3 g3 => ?_) (by simp only [List.length_nil]; omega) fun μ3 g3 => ?_
        · by_cases hi : i = n <;> simp [enc, hi, Gw.refl]
        · have e1 : ((parts (.qu e n s)).flatMap fr).filterMap (fun i => if i ≠ n then some (PV.int i) else none) = (((fr s).filter fun x => decide (x ≠ n))).map .int := by
            simp only [parts, List.flatMap_cons, List.flatMap_nil, List.append_nil]
            induction fr s with
            | nil => rfl
            | cons x xs ih =>
              rw [List.filterMap_cons, List.filter_cons]
              by_cases hx : x = n <;> simp [hx] at ih ⊢ <;> exact ih
          rw [List.nil_append, e1]
          have hl : ((fr s).filter fun x => decide (x ≠ n)).length ≤ 60 := by
            have h1 := List.length_filter_le (fun x => decide (x ≠ n)) (fr s)
            have h2 := fr_len (t := s) hw.2
            omega
          refine rising_ok (by omega) hl at_new fun μ4 g4 => ?_
          exact q μ4 (((g2.trans g3).trans .new).trans g4)
      cases e <;> simp [enc, wq, and_assoc] <;> exact fin_ .non []
termination_by nodes t
decreasing_by have := ip s hs; omega
end Lw
end

section
set_option Elab.async false
set_option linter.all false
set_option maxRecDepth 100000
namespace Lw
open PySem PySem.Spec L2 Pv
variable {k : Nat} {μ : Sto} {Q : PV → Sto → Prop}
theorem check_ok {t : Tr} (h : 7 ≤ k) (ha : Al t true) (hz : nodes t ≤ 1000) (q : ∀ μ1, Gw μ μ1 → Q .non μ1) : W (runT T k 9 [enc t] μ) Q := by
  obtain ⟨k, rfl⟩ := Nat.exists_eq_add_of_le' h
  rw [u9]
  refine W_runF rfl ?_
  simp
  refine is_saying_ok (by omega) ha hz fun μ1 g1 => ?_
  simp
  exact q μ1 g1
theorem is_saying_w {t : Tr} {b : Bool} (h : 7 ≤ k) (ha : Al t b) (hz : nodes t ≤ 1000) (q : ∀ μ1, Gw μ μ1 → Q (.bl b) μ1) : W (runT T k 16 [enc t] μ) Q := by
  obtain ⟨k, rfl⟩ := Nat.exists_eq_add_of_le' h
  rw [u16]
  refine W_runF rfl ?_
  simp
  exact is_saying_ok (by omega) ha hz q
theorem free_w {t : Tr} (h : nodes t + 8 ≤ k) (hw : WF t) (hz : nodes t ≤ 1000) (q : ∀ μ1, Gw μ μ1 → Q (.tup ((fr t).map .int)) μ1) : W (runT T k 17 [enc t] μ) Q := by
  obtain ⟨k, rfl⟩ : ∃ k', k = k' + 1 := ⟨k - 1, by omega⟩
  rw [u17]
  refine W_runF rfl ?_
  simp
  refine check_ok (by omega) (al_of hw) hz fun μ1 g1 => ?_
  exact free_ok t (by omega) hw fun μ2 g2 => q μ2 (g1.trans g2)
/-- its parts, itself last -/
def pt : Tr → List Tr
  | .at_ a => [.at_ a]
  | .nt s => pt s ++ [.nt s]
  | .bo e s t => (pt s ++ pt t) ++ [.bo e s t]
  | .qu e n s => pt s ++ [.qu e n s]
theorem pt_len : ∀ t, (pt t).length = nodes t
  | .at_ _ => rfl
  | .nt s => by simp [pt, nodes, pt_len s]
  | .bo _ s t => by simp [pt, nodes, pt_len s, pt_len t]; omega
  | .qu _ _ s => by simp [pt, nodes, pt_len s]
theorem pt_parts (t : Tr) : pt t = (parts t).flatMap pt ++ [t] := by cases t <;> simp [pt, parts]
theorem parts_nodes (t : Tr) : ∀ s ∈ parts t, nodes s + 1 ≤ nodes t := by
  cases t with
  | at_ a => intro s hs; cases hs
  | nt s => exact fun x hx => ((isA_parts (t := .nt s) rfl) x hx).1
  | bo e s t => exact fun x hx => ((isA_parts (t := .bo e s t) rfl) x hx).1
  | qu e n s => exact fun x hx => ((isA_parts (t := .qu e n s) rfl) x hx).1
theorem parts_ok (t : Tr) {k : Nat} {μ : Sto} {Q : PV → Sto → Prop} (hk : nodes t + 3 ≤ k) (hz : nodes t ≤ 1000) (q : ∀ n μ1, Gw μ μ1 → μ1[n]? = some (.lst ((pt t).map enc)) → Q (.loc n) μ1) : W (runT T k 13 [enc t] μ) Q := by
  obtain ⟨k, rfl⟩ : ∃ k', k = k' + 1 := ⟨k - 1, by omega⟩
  rw [u13]
  refine W_runF rfl ?_
  simp
  refine inner_ok (by omega) ?_
  have pl : ((parts t).flatMap pt).length + 1 = nodes t := by
    have := pt_len t
    rw [pt_parts] at this
    simpa using this
  have e1 : ((parts t).flatMap fun s => (pt s).map enc) = ((parts t).flatMap pt).map enc := by rw [List.map_flatMap]
  simp [and_assoc, inner_parts]
  refine W_lc2T enc (fun s => (pt s).map enc) rfl (by rw [e1, List.length_map]; simp only [List.length_nil]; omega) (fun s hs acc μ1 g1 hl => ?_) fun μ1 g1 => ?_
  · have hn := parts_nodes t s hs
    simp
    refine parts_ok s (by omega) (by omega) fun n μ2 g2 hc => ?_
    simp [and_assoc, sq_L hc]
    refine W_lcT enc (fun s => some (enc s)) (by simp [chkOk, hc]) (fun u _ μ3 g3 => ?_) (by rw [List.length_map] at hl; omega) fun μ3 g3 => ?_
    · simp [Gw.refl]
    · exact ⟨by simp, g2.trans g3⟩
  · rw [List.nil_append, e1]
    simp [sz]
    have c1 : (μ1 ++ [MO.lst (((parts t).flatMap pt).map enc)] ++ [MO.lst [enc t]])[μ1.length]? = some (.lst (((parts t).flatMap pt).map enc)) := Gw.new.at_ at_new
    have c2 : (μ1 ++ [MO.lst (((parts t).flatMap pt).map enc)] ++ [MO.lst [enc t]])[(μ1 ++ [MO.lst (((parts t).flatMap pt).map enc)]).length]? = some (.lst [enc t]) := at_new
    have e2 : μ1 ++ [MO.lst (((parts t).flatMap pt).map enc), MO.lst [enc t]] = μ1 ++ [MO.lst (((parts t).flatMap pt).map enc)] ++ [MO.lst [enc t]] := by simp
    have e3 : μ1.length + 1 = (μ1 ++ [MO.lst (((parts t).flatMap pt).map enc)]).length := by simp
    rw [e3, e2, o_addL c1 c2]
    refine ⟨by rw [sz, List.length_map, List.length_singleton]; omega, q _ _ (((g1.trans .new).trans .new).trans .new) ?_⟩
    rw [at_new, pt_parts t, List.map_append]
    rfl
termination_by nodes t
decreasing_by have := parts_nodes t s hs; omega
theorem parts_w {t : Tr} (h : nodes t + 8 ≤ k) (hw : WF t) (hz : nodes t ≤ 1000) (q : ∀ μ1, Gw μ μ1 → Q (.tup ((pt t).map enc)) μ1) : W (runT T k 18 [enc t] μ) Q := by
  obtain ⟨k, rfl⟩ : ∃ k', k = k' + 1 := ⟨k - 1, by omega⟩
  rw [u18]
  refine W_runF rfl ?_
  simp
  refine check_ok (by omega) (al_of hw) hz fun μ1 g1 => ?_
  refine parts_ok t (by omega) hz fun n μ2 g2 hc => ?_
  rw [bi_tupL hc, W_some]
  exact q μ2 (g1.trans g2)
def ht : Tr → Int
  | .at_ _ => 0
  | .nt s => ht s
  | .bo _ s t => if ht t > ht s then ht t else ht s
  | .qu _ _ s => 1 + ht s
def isQ : Tr → Bool
  | .qu _ _ _ => true
  | _ => false
theorem head_q {Φ : Nat → List PV → Sto → Option (PV × Sto)} {t : Tr} {ρ : Env'} (hr : ∃ r, ρ = some (enc t) :: r) (q : Q (.bl (isQ t)) μ) : W (evE Φ (.cmp .In (.ix (.var 0) (.cst (.int 0))) (.glo "OF_A_PART" c_OF_A_PART)) ρ μ) Q := by
  obtain ⟨r, rfl⟩ := hr
  cases t with
  | at_ a => cases a <;> simp [enc, encA] <;> exact q
  | nt s => simp [enc]; exact q
  | bo e s t => cases e <;> simp [enc, wb] <;> exact q
  | qu e n s => cases e <;> simp [enc, wq] <;> exact q
theorem height_ok (t : Tr) {k : Nat} {μ : Sto} {Q : PV → Sto → Prop} (hk : nodes t + 3 ≤ k) (hz : nodes t ≤ 1000) (q : ∀ μ1, Gw μ μ1 → Q (.int (ht t)) μ1) : W (runT T k 14 [enc t] μ) Q := by
  obtain ⟨k, rfl⟩ : ∃ k', k = k' + 1 := ⟨k - 1, by omega⟩
  rw [u14]
  refine W_runF rfl ?_
  have rec_ : ∀ s ∈ parts t, ∀ {μ : Sto} {Q : PV → Sto → Prop}, (∀ μ1, Gw μ μ1 → Q (.int (ht s)) μ1) → W (runT T k 14 [enc s] μ) Q := fun s hs {μ Q} q => by
    have := parts_nodes t s hs
    exact height_ok s (by omega) (by omega) q
  have go : ∀ {ρ : Env'} {QL : List PV → Sto → Prop} {μ : Sto}, (∃ a b c, ρ = [a, b, c]) → (∀ μ1, Gw μ μ1 → QL (((parts t).map ht).map .int) μ1) →
      W (lcE [] (turnL (.nm 2) [2] (evB (runT T k) true .nil) (evE (runT T k) (.call 14 (.cons (.var 2) .nil))) ρ) ((parts t).map enc) [] μ) QL := by
    rintro ρ QL μ ⟨a, b, c, rfl⟩ q
    refine W_lcT enc (fun s => some (.int (ht s))) rfl (fun s hs μ1 g1 => ?_) (by have := parts_len t; simp only [List.length_nil]; omega) fun μ1 g1 => ?_
    · simp
      exact rec_ s hs fun μ2 g2 => ⟨rfl, g2⟩
    · have z := q μ1 g1
      rw [List.map_map] at z
      simpa [Function.comp_def] using z
  have mx : ∀ {n : Nat} {xs : List Int} {μ : Sto}, μ[n]? = some (.lst (xs.map .int)) → mxdP (.loc n) (.int 0) μ = some (.int (match xs with | x :: r => maxL x r | [] => 0), μ) := fun {n xs μ} h => by
    simp only [mxdP, cellL, h, asInts_map]
    cases xs <;> rfl
  have inn : ∀ {μ : Sto} {Q : PV → Sto → Prop}, Q (.tup ((parts t).map enc)) μ → W (runT T k 10 [enc t] μ) Q := fun {μ Q} q => inner_ok (by omega) (by rw [inner_parts]; exact q)
  show WO (evSs (runT T k) b_height_in [some (enc t), none, none] μ) (fin Q)
  simp only [b_height_in, s_cons, s_asgW, e_ite]
  refine head_q ⟨_, rfl⟩ ?_
  have hh : (if isQ t = true then (1 : Int) else 0) + (match (parts t).map ht with | x :: r => maxL x r | [] => 0) = ht t := by
    cases t <;> simp [parts, maxL, ht, isQ]
  have fin_ : W (evE (runT T k) (.bin .Add (.var 1) (.mxd (.lc [("part", 2)] (.call 14 (.cons (.var 2) .nil)) (.nm 2) (.val (.call 10 (.cons (.var 0) .nil))) .nil) (.cst (.int 0)))) [some (enc t), some (.int (if isQ t = true then (1 : Int) else 0)), none] μ) Q := by
    simp [and_assoc]
    refine inn ?_
    simp [and_assoc]
    refine go ⟨_, _, _, rfl⟩ fun μ1 g1 => ?_
    simp [mx at_new, -List.map_map]
    rw [hh]
    exact q _ (g1.trans .new)
  cases hq : isQ t <;> rw [hq] at fin_ <;> simpa using fin_
termination_by nodes t
decreasing_by have := parts_nodes t s hs; omega
end Lw
end

section
set_option Elab.async false
set_option linter.all false
set_option maxRecDepth 100000
namespace Lw
open PySem PySem.Spec L2 Pv
variable {k : Nat} {μ : Sto} {Q : PV → Sto → Prop}
theorem height_w {t : Tr} (h : nodes t + 8 ≤ k) (hw : WF t) (hz : nodes t ≤ 1000) (q : ∀ μ1, Gw μ μ1 → Q (.int (ht t)) μ1) : W (runT T k 19 [enc t] μ) Q := by
  obtain ⟨k, rfl⟩ : ∃ k', k = k' + 1 := ⟨k - 1, by omega⟩
  rw [u19]
  refine W_runF rfl ?_
  simp
  refine check_ok (by omega) (al_of hw) hz fun μ1 g1 => ?_
  exact height_ok t (by omega) hz fun μ2 g2 => q μ2 (g1.trans g2)
def plA : Tr → Bool
  | .at_ (.emp l _) => decide (l = 0)
  | .at_ _ => false
  | _ => true
def pl (t : Tr) : Bool := (pt t).all plA
theorem bools_all {β : Type} (f : β → Bool) (p : β → Bool) (xs : List β) : ((xs.filterMap fun x => if p x = true then some (PV.bl (f x)) else none)) = ((xs.filter p).map f).map .bl := by
  induction xs with
  | nil => rfl
  | cons x xs ih =>
    rw [List.filterMap_cons, List.filter_cons]
    cases h : p x <;> simp [ih]
theorem is_plain_in_ok {t : Tr} (h : nodes t + 4 ≤ k) (hz : nodes t ≤ 1000) (q : ∀ μ1, Gw μ μ1 → Q (.bl (pl t)) μ1) : W (runT T k 15 [enc t] μ) Q := by
  obtain ⟨k, rfl⟩ : ∃ k', k = k' + 1 := ⟨k - 1, by omega⟩
  rw [u15]
  refine W_runF rfl ?_
  simp
  refine parts_ok t (by omega) hz fun n μ1 g1 hc => ?_
  simp [and_assoc, sq_L hc]
  have lp := pt_len t
  refine W_lcT enc (fun s => if isA s = true then some (.bl (plA s)) else none) (by simp [chkOk, hc]) (fun s _ μ2 g2 => ?_) (by simp only [List.length_nil]; omega) fun μ2 g2 => ?_
  · simp
    refine is_atom_ok (by omega) ?_
    cases s with
    | at_ a =>
      cases a with
      | emp l m =>
        by_cases hl : l = 0 <;> simp [isA, enc, encA, plA, hl, Gw.refl]
      | atm l c m => simp [isA, enc, encA, plA, Gw.refl]
      | smo l m => simp [isA, enc, encA, plA, Gw.refl]
    | _ => simp [isA, Gw.refl]
  · rw [List.nil_append, bools_all, all_new, W_some]
    have e : (((pt t).filter isA).map plA).all id = pl t := by
      unfold pl
      generalize pt t = l
      induction l with
      | nil => rfl
      | cons s l ih =>
        rw [List.filter_cons, List.all_cons]
        cases s with
        | at_ a => simp [isA] at ih ⊢; rw [ih]
        | _ => simp [isA, plA] at ih ⊢; exact ih
    rw [e]
    exact q _ ((g1.trans g2).trans .new)
theorem is_plain_w {t : Tr} (h : nodes t + 8 ≤ k) (hw : WF t) (hz : nodes t ≤ 1000) (q : ∀ μ1, Gw μ μ1 → Q (.bl (pl t)) μ1) : W (runT T k 20 [enc t] μ) Q := by
  obtain ⟨k, rfl⟩ : ∃ k', k = k' + 1 := ⟨k - 1, by omega⟩
  rw [u20]
  refine W_runF rfl ?_
  simp
  refine check_ok (by omega) (al_of hw) hz fun μ1 g1 => ?_
  exact is_plain_in_ok (by omega) hz fun μ2 g2 => q μ2 (g1.trans g2)

/-! ### the law's own words -/
def lf : Tr → List Int
  | .at_ a => (decM a.m).map (·.1)
  | .nt s => ss (lf s)
  | .bo _ s t => ss (lf s ++ lf t)
  | .qu _ n s => (ss (lf s)).filter fun x => decide (x ≠ n)
structure LI (t : Tr) (μ0 : Sto) (r : List PV) (ρ : Env') (μ : Sto) : Prop where
  ex : ∃ (n : Nat) (y : Option PV) (pre rest : List Tr), ρ = [some (enc t), some (.loc n), y, none, none] ∧ μ[n]? = some (.lst ((pre.flatMap lf).map .int)) ∧ parts t = pre ++ rest ∧ r = rest.map enc
  gw : Gw μ0 μ
theorem lf_ok : ∀ {t : Tr}, WF t → (∀ x ∈ lf t, 0 ≤ x ∧ x ≤ 2) ∧ (lf t).Pairwise (· < ·)
  | .at_ a, ⟨_, m, e, h⟩ => by
    simp only [lf, e, dec_enc]
    exact ⟨(okM_names h).2, (okM_names h).1⟩
  | .nt s, h => ⟨fun x hx => (lf_ok (t := s) h).1 x ((ss_mem _ _).mp hx), ss_lt _⟩
  | .bo _ s t, h => ⟨fun x hx => by
    rcases List.mem_append.mp ((ss_mem _ _).mp hx) with z | z
    · exact (lf_ok (t := s) h.1).1 x z
    · exact (lf_ok (t := t) h.2).1 x z, ss_lt _⟩
  | .qu _ n s, h => ⟨fun x hx => (lf_ok (t := s) h.2).1 x ((ss_mem _ _).mp (List.mem_filter.mp hx).1), (ss_lt _).filter _⟩
theorem lf_len {t : Tr} (h : WF t) : (lf t).length ≤ 3 := few (lf_ok h).2 (lf_ok h).1
theorem wf_parts {t : Tr} (hw : WF t) : ∀ s ∈ parts t, WF s := fun s hs => by
  cases t with
  | at_ a => cases hs
  | nt s' => exact ((isA_parts (t := .nt s') rfl) s hs).2 hw
  | bo e a b => exact ((isA_parts (t := .bo e a b) rfl) s hs).2 hw
  | qu e n s' => exact ((isA_parts (t := .qu e n s') rfl) s hs).2 hw
theorem flat3 {f : Tr → List Int} : ∀ {ts : List Tr}, (∀ s ∈ ts, (f s).length ≤ 3) → (ts.flatMap f).length ≤ 3 * ts.length
  | [], _ => Nat.zero_le _
  | t :: ts, h => by
    have h1 := h t List.mem_cons_self
    have h2 := flat3 (ts := ts) fun s hs => h s (List.mem_cons_of_mem _ hs)
    rw [List.flatMap_cons, List.length_append, List.length_cons]
    omega
theorem lfree_ok (t : Tr) {k : Nat} {μ : Sto} {Q : PV → Sto → Prop} (hk : nodes t + 1 ≤ k) (hw : WF t) (q : ∀ n μ1, Gw μ μ1 → μ1[n]? = some (.lst ((lf t).map .int)) → Q (.loc n) μ1) : W (runT T k 34 [enc t] μ) Q := by
  obtain ⟨k, rfl⟩ : ∃ k', k = k' + 1 := ⟨k - 1, by omega⟩
  rw [u34]
  refine W_runF rfl ?_
  have rec_ : ∀ s ∈ parts t, ∀ {μ : Sto} {Q : PV → Sto → Prop}, (∀ n μ1, Gw μ μ1 → μ1[n]? = some (.lst ((lf s).map .int)) → Q (.loc n) μ1) → W (runT T k 34 [enc s] μ) Q := fun s hs {μ Q} q => by
    have h1 := parts_nodes t s hs
    have h2 : WF s := wf_parts hw s hs
    exact lfree_ok s (by omega) h2 q
  have loop : ∀ {QO : Out → Prop} {μ1 : Sto} {n : Nat}, Gw μ μ1 → μ1[n]? = some (.lst []) → (∀ n y μ2, Gw μ μ2 → μ2[n]? = some (.lst (((parts t).flatMap lf).map .int)) → QO (.nx [some (enc t), some (.loc n), y, none, none] μ2)) →
      WO (forE [] (.nm 2) (fun ρ μ => evSs (runT T k) (.cons (.asg (.nm 1) (.bin .Add (.var 1) (.call 34 (.cons (.var 2) .nil)))) .nil) ρ μ) ((parts t).map enc) [some (enc t), some (.loc n), none, none, none] μ1) QO := by
    intro QO μ1 n g1 hc q
    refine WO_for (LI t μ) ⟨⟨n, none, [], parts t, rfl, hc, rfl, rfl⟩, g1⟩ (fun _ _ _ _ => rfl) ?_ ?_
    · rintro x r ρ μ2 ⟨⟨n, y, pre, rest, rfl, hc, e1, e2⟩, g2⟩
      cases rest with
      | nil => cases e2
      | cons s rest =>
        obtain ⟨rfl, rfl⟩ := List.cons.inj e2
        refine ⟨_, bt_nm, ?_⟩
        simp
        refine rec_ s (by rw [e1]; simp) fun m μ3 g3 hm => ?_
        rw [o_addL (g3.at_ hc) hm]
        refine ⟨?_, ⟨_, _, pre ++ [s], rest, rfl, ?_, by rw [e1]; simp, rfl⟩, (g2.trans g3).trans .new⟩
        · rw [sz, List.length_map, List.length_map]
          have h1 := flat3 (ts := pre) (f := lf) fun u hu => lf_len (wf_parts hw u (by rw [e1]; exact List.mem_append_left _ hu))
          have h2 := lf_len (wf_parts hw s (by rw [e1]; simp))
          have h3 := parts_len t
          rw [e1, List.length_append] at h3
          omega
        · rw [at_new]
          simp
    · rintro ρ μ2 ⟨⟨n, y, pre, rest, rfl, hc, e1, e2⟩, g2⟩
      cases rest with
      | cons _ _ => cases e2
      | nil =>
        rw [List.append_nil] at e1
        rw [← e1] at hc
        exact q n y μ2 g2 hc
  have f6 : ((parts t).flatMap lf).length ≤ 6 := by
    have h1 := flat3 (ts := parts t) (f := lf) fun u hu => lf_len (wf_parts hw u hu)
    have h3 := parts_len t
    omega
  cases t with
  | at_ a =>
    obtain ⟨_, m, em, hm⟩ := hw
    have hl := okM_len hm
    have hlast : ∃ xs w, encA a = .tup (.str w :: xs) ∧ atI (.str w :: xs) (-1) = some (encM m) ∧ (w = "empty" ∨ w = "atoms" ∨ w = "smooth") := by
      cases a with
      | emp l m' => exact ⟨_, _, rfl, by rw [at_m1_3]; exact congrArg some em, .inl rfl⟩
      | atm l c m' => exact ⟨_, _, rfl, by rw [at_m1_4]; exact congrArg some em, .inr (.inl rfl)⟩
      | smo l m' => exact ⟨_, _, rfl, by rw [at_m1_3]; exact congrArg some em, .inr (.inr rfl)⟩
    obtain ⟨xs, w, e1, e2, hw'⟩ := hlast
    have fin_ : W (evE (runT T k) (.lc [("name", 3), ("bit", 4)] (.var 3) (.tp [(.nm 3), (.nm 4)]) (.val (.ix (.var 0) (.neg (.cst (.int 1))))) .nil) [some (encA a), none, none, none, none] μ) Q := by
      simp [e1, e2, encM, and_assoc]
      refine names_lc rfl (by omega) (fun a b μ1 => ?_) fun μ1 g1 => ?_
      · simp [pairP, Gw.refl]
      · refine q _ _ (g1.trans .new) ?_
        simp only [lf, em, dec_enc, at_new]
    rcases hw' with rfl | rfl | rfl <;> (simp [enc, e1, sz]; rw [e1] at fin_; simpa using fin_)
  | nt s =>
    simp [enc, sz, and_assoc]
    refine loop .new at_new fun n y μ2 g2 hc => ?_
    simp [enc, and_assoc, bi_ssetL hc (by omega)]
    refine W_lcT PV.int (fun i => some (.int i)) (by simp [chkOk]) (fun i _ μ3 g3 => ?_) (by have := (isort_perm (dedup ((parts (.nt s)).flatMap lf))).length_eq; have := dedup_len ((parts (.nt s)).flatMap lf); simp only [List.length_nil]; omega) fun μ3 g3 => ?_
    · simp [Gw.refl, sz]
    · refine q _ _ (((g2.trans .new).trans g3).trans .new) ?_
      rw [at_new]
      simp [lf, ss, parts]
  | bo e s t =>
    cases e <;> (
      simp [enc, wb, sz, and_assoc]
      refine loop .new at_new fun n y μ2 g2 hc => ?_
      simp [enc, wb, and_assoc, bi_ssetL hc (by omega)]
      refine W_lcT PV.int (fun i => some (.int i)) (by simp [chkOk]) (fun i _ μ3 g3 => ?_) (by have := (isort_perm (dedup ((parts (.bo true s t)).flatMap lf))).length_eq; have := dedup_len ((parts (.bo true s t)).flatMap lf); simp only [List.length_nil]; simp only [parts] at *; omega) fun μ3 g3 => ?_
      · simp [Gw.refl, sz]
      · refine q _ _ (((g2.trans .new).trans g3).trans .new) ?_
        rw [at_new]
        simp [lf, ss, parts])
  | qu e n s =>
    cases e <;> (
      simp [enc, wq, sz, and_assoc]
      refine loop .new at_new fun n' y μ2 g2 hc => ?_
      simp [enc, wq, and_assoc, bi_ssetL hc (by omega)]
      refine W_lcT PV.int (fun i => if i ≠ n then some (.int i) else none) (by simp [chkOk]) (fun i _ μ3 g3 => ?_) (by have := (isort_perm (dedup ((parts (.qu true n s)).flatMap lf))).length_eq; have := dedup_len ((parts (.qu true n s)).flatMap lf); simp only [List.length_nil]; simp only [parts] at *; omega) fun μ3 g3 => ?_
      · by_cases hi : i = n <;> simp [Gw.refl, sz, hi]
      · refine q _ _ (((g2.trans .new).trans g3).trans .new) ?_
        rw [at_new]
        have e1 : ∀ l : List Int, l.filterMap (fun i => if i ≠ n then some (PV.int i) else none) = (l.filter fun x => decide (x ≠ n)).map .int := fun l => by
          induction l with
          | nil => rfl
          | cons x xs ih =>
            rw [List.filterMap_cons, List.filter_cons]
            by_cases hx : x = n <;> simp [hx] at ih ⊢ <;> exact ih
        rw [List.nil_append, e1]
        simp [lf, ss, parts])
termination_by nodes t
decreasing_by have := parts_nodes t s hs; omega
end Lw
end

section
set_option Elab.async false
set_option linter.all false
set_option maxRecDepth 100000
namespace Lw
open PySem PySem.Spec L2 Pv
variable {k : Nat} {μ : Sto} {Q : PV → Sto → Prop}
theorem max1_new {x : Int} {xs : List Int} : biP .max1 [.loc μ.length] (μ ++ [.lst ((x :: xs).map .int)]) = some (.int (maxL x xs), μ ++ [.lst ((x :: xs).map .int)]) := by
  simp only [biP, cellL, at_new, asInts_map]
theorem lhigh_ok (t : Tr) {k : Nat} {μ : Sto} {Q : PV → Sto → Prop} (hk : nodes t + 1 ≤ k) (q : ∀ μ1, Gw μ μ1 → Q (.int (ht t)) μ1) : W (runT T k 35 [enc t] μ) Q := by
  obtain ⟨k, rfl⟩ : ∃ k', k = k' + 1 := ⟨k - 1, by omega⟩
  rw [u35]
  refine W_runF rfl ?_
  have rec_ : ∀ s ∈ parts t, ∀ {μ : Sto} {Q : PV → Sto → Prop}, (∀ μ1, Gw μ μ1 → Q (.int (ht s)) μ1) → W (runT T k 35 [enc s] μ) Q := fun s hs {μ Q} q => by
    have h1 := parts_nodes t s hs
    exact lhigh_ok s (by omega) q
  have go : ∀ {ρ : Env'} {QL : List PV → Sto → Prop} {μ : Sto}, (∃ a b, ρ = [a, b]) → (∀ μ1, Gw μ μ1 → QL (((parts t).map ht).map .int) μ1) →
      W (lcE [] (turnL (.nm 1) [1] (evB (runT T k) true .nil) (evE (runT T k) (.call 35 (.cons (.var 1) .nil))) ρ) ((parts t).map enc) [] μ) QL := by
    rintro ρ QL μ ⟨a, b, rfl⟩ q
    refine W_lcT enc (fun s => some (.int (ht s))) rfl (fun s hs μ1 g1 => ?_) (by have := parts_len t; simp only [List.length_nil]; omega) fun μ1 g1 => ?_
    · simp
      exact rec_ s hs fun μ2 g2 => ⟨rfl, g2⟩
    · have z := q μ1 g1
      rw [List.map_map] at z
      simpa [Function.comp_def] using z
  cases t with
  | at_ a =>
    cases a <;> simp [enc, encA, sz] <;> exact q _ .refl
  | nt s =>
    simp [enc, sz, and_assoc]
    refine go ⟨_, _, rfl⟩ fun μ1 g1 => ?_
    have e : ((parts (.nt s)).map ht).map PV.int = (ht s :: []).map PV.int := rfl
    rw [e, max1_new, W_some]
    exact q _ (g1.trans .new)
  | bo e s t =>
    cases e <;> (
      simp [enc, wb, sz, and_assoc]
      refine go ⟨_, _, rfl⟩ fun μ1 g1 => ?_
      have e : ((parts (.bo true s t)).map ht).map PV.int = (ht s :: [ht t]).map PV.int := rfl
      have e2 : (parts (.bo false s t)) = parts (.bo true s t) := rfl
      try rw [e2]
      rw [e, max1_new, W_some]
      exact q _ (g1.trans .new))
  | qu e n s =>
    cases e <;> (
      simp [enc, wq, sz, and_assoc]
      refine rec_ s (by simp [parts]) fun μ1 g1 => ?_
      simp
      exact q _ g1)
termination_by nodes t
decreasing_by have := parts_nodes t s hs; omega
structure PI' (t : Tr) (μ0 : Sto) (r : List PV) (ρ : Env') (μ : Sto) : Prop where
  ex : ∃ (y : Option PV) (pre rest : List Tr), ρ = [some (enc t), some (.tup ((pre.flatMap pt).map enc)), y] ∧ parts t = pre ++ rest ∧ r = rest.map enc
  gw : Gw μ0 μ
theorem flatpt {ts : List Tr} : ((ts.flatMap pt).length) = (ts.map nodes).sum := by
  induction ts with
  | nil => rfl
  | cons t ts ih => simp [ih, pt_len]
theorem lparts_ok (t : Tr) {k : Nat} {μ : Sto} {Q : PV → Sto → Prop} (hk : nodes t + 1 ≤ k) (hz : nodes t ≤ 1000) (q : ∀ μ1, Gw μ μ1 → Q (.tup ((pt t).map enc)) μ1) : W (runT T k 39 [enc t] μ) Q := by
  obtain ⟨k, rfl⟩ : ∃ k', k = k' + 1 := ⟨k - 1, by omega⟩
  rw [u39]
  refine W_runF rfl ?_
  have rec_ : ∀ s ∈ parts t, ∀ {μ : Sto} {Q : PV → Sto → Prop}, (∀ μ1, Gw μ μ1 → Q (.tup ((pt s).map enc)) μ1) → W (runT T k 39 [enc s] μ) Q := fun s hs {μ Q} q => by
    have h1 := parts_nodes t s hs
    exact lparts_ok s (by omega) (by omega) q
  have pl : ((parts t).flatMap pt).length + 1 = nodes t := by
    have := pt_len t
    rw [pt_parts] at this
    simpa using this
  have loop : ∀ {QO : Out → Prop}, (∀ y μ2, Gw μ μ2 → QO (.nx [some (enc t), some (.tup (((parts t).flatMap pt).map enc)), y] μ2)) →
      WO (forE [] (.nm 2) (fun ρ μ => evSs (runT T k) (.cons (.asg (.nm 1) (.bin .Add (.var 1) (.call 39 (.cons (.var 2) .nil)))) .nil) ρ μ) ((parts t).map enc) [some (enc t), some (.tup []), none] μ) QO := by
    intro QO q
    refine WO_for (PI' t μ) ⟨⟨none, [], parts t, rfl, rfl, rfl⟩, .refl⟩ (fun _ _ _ _ => rfl) ?_ ?_
    · rintro x r ρ μ2 ⟨⟨y, pre, rest, rfl, e1, e2⟩, g2⟩
      cases rest with
      | nil => cases e2
      | cons s rest =>
        obtain ⟨rfl, rfl⟩ := List.cons.inj e2
        refine ⟨_, bt_nm, ?_⟩
        simp
        refine rec_ s (by rw [e1]; simp) fun μ3 g3 => ?_
        rw [o_addT]
        refine ⟨?_, ⟨some (enc s), pre ++ [s], rest, ?_, by rw [e1]; simp, rfl⟩, g2.trans g3⟩
        · rw [sz, List.length_map, List.length_map]
          rw [e1, List.flatMap_append, List.length_append, List.flatMap_cons, List.length_append] at pl
          omega
        · simp
    · rintro ρ μ2 ⟨⟨y, pre, rest, rfl, e1, e2⟩, g2⟩
      cases rest with
      | cons _ _ => cases e2
      | nil =>
        rw [List.append_nil] at e1
        rw [e1] at q
        exact q y μ2 g2
  have fin_ : ∀ {y : Option PV} {μ2 : Sto}, Gw μ μ2 → WO (evSs (runT T k) (.cons (.ret (.bin .Add (.var 1) (.tup (.cons (.var 0) .nil)))) .nil) [some (enc t), some (.tup (((parts t).flatMap pt).map enc)), y] μ2) (fin Q) := fun {y μ2} g2 => by
    simp [sz, -List.length_flatMap]
    refine ⟨by omega, ?_⟩
    have z := q μ2 g2
    rw [pt_parts t, List.map_append] at z
    simpa using z
  cases t with
  | at_ a => cases a <;> (simp [enc, encA, sz]; exact q _ .refl)
  | nt s =>
    simp [enc, sz, and_assoc]
    exact loop fun y μ2 g2 => fin_ g2
  | bo e s t => cases e <;> (simp [enc, wb, sz, and_assoc]; exact loop fun y μ2 g2 => fin_ g2)
  | qu e n s => cases e <;> (simp [enc, wq, sz, and_assoc]; exact loop fun y μ2 g2 => fin_ g2)
termination_by nodes t
decreasing_by have := parts_nodes t s hs; omega
theorem lplain_ok {t : Tr} (hk : nodes t + 2 ≤ k) (hz : nodes t ≤ 1000) (q : ∀ μ1, Gw μ μ1 → Q (.bl (pl t)) μ1) : W (runT T k 40 [enc t] μ) Q := by
  obtain ⟨k, rfl⟩ : ∃ k', k = k' + 1 := ⟨k - 1, by omega⟩
  rw [u40]
  refine W_runF rfl ?_
  simp
  refine lparts_ok t (by omega) hz fun μ1 g1 => ?_
  simp [and_assoc]
  have lp := pt_len t
  refine W_lcT enc (fun s => some (.bl (plA s))) rfl (fun s _ μ2 g2 => ?_) (by simp only [List.length_nil]; omega) fun μ2 g2 => ?_
  · simp
    cases s with
    | at_ a =>
      cases a with
      | emp l m => by_cases hl : l = 0 <;> simp [enc, encA, plA, hl, Gw.refl, sz]
      | atm l c m => simp [enc, encA, plA, Gw.refl, sz]
      | smo l m => simp [enc, encA, plA, Gw.refl, sz]
    | nt s => simp [enc, plA, Gw.refl, sz]
    | bo e s t => cases e <;> simp [enc, wb, plA, Gw.refl, sz]
    | qu e n s => cases e <;> simp [enc, wq, plA, Gw.refl, sz]
  · have e : (pt t).filterMap (fun s => some (PV.bl (plA s))) = ((pt t).map plA).map .bl := by rw [List.map_map]; exact fm_some _ _
    rw [List.nil_append, e, all_new, W_some]
    have e2 : ((pt t).map plA).all id = pl t := by
      unfold pl
      rw [List.all_map]
      rfl
    rw [e2]
    exact q _ ((g1.trans g2).trans .new)
end Lw
end

section
set_option Elab.async false
set_option linter.all false
set_option maxRecDepth 100000
set_option maxHeartbeats 0
namespace Lw
open PySem PySem.Spec L2 Pv
variable {k : Nat} {μ : Sto} {Q : PV → Sto → Prop}
@[simp] theorem dec_enc2 (m : Mt) : decM (.tup (m.map pairP)) = m := dec_enc m
def At.sm : At → PV → At
  | .emp l _, m => .emp l m
  | .atm l c _, m => .atm l c m
  | .smo l _, m => .smo l m
def ins (m : Mt) (x b : Int) : Mt := psort (m ++ [(x, b)])
def bel (x b : Int) : Tr → Tr
  | .at_ a => .at_ (a.sm (encM (ins (decM a.m) x b)))
  | .nt s => .nt (bel x b s)
  | .bo e s t => .bo e (bel x b s) (bel x b t)
  | .qu e n s => .qu e n (bel x b s)
theorem sort_enc (m : Mt) (x b : Int) : biP .sorted [.tup (m.map pairP ++ [.tup [.int x, .int b]])] μ = some (.loc μ.length, μ ++ [.lst ((ins m x b).map pairP)]) := by
  have e : m.map pairP ++ [PV.tup [.int x, .int b]] = (m ++ [(x, b)]).map pairP := by simp [pairP]
  rw [e]
  exact bi_sortP
theorem below_ok (t : Tr) {x b : Int} {k : Nat} {μ : Sto} {Q : PV → Sto → Prop} (hk : nodes t + 1 ≤ k) (hw : WF t) (q : ∀ μ1, Gw μ μ1 → Q (enc (bel x b t)) μ1) : W (runT T k 37 [enc t, .int x, .int b] μ) Q := by
  obtain ⟨k, rfl⟩ : ∃ k', k = k' + 1 := ⟨k - 1, by omega⟩
  rw [u37]
  refine W_runF rfl ?_
  have rec_ : ∀ s ∈ parts t, ∀ {μ : Sto} {Q : PV → Sto → Prop}, (∀ μ1, Gw μ μ1 → Q (enc (bel x b s)) μ1) → W (runT T k 37 [enc s, .int x, .int b] μ) Q := fun s hs {μ Q} q => by
    have h1 := parts_nodes t s hs
    exact below_ok s (by omega) (wf_parts hw s hs) q
  have go : ∀ {ρ : Env'} {QL : List PV → Sto → Prop} {μ : Sto}, (∃ a d, ρ = [a, some (.int x), some (.int b), d]) → (∀ μ1, Gw μ μ1 → QL (((parts t).map (bel x b)).map enc) μ1) →
      W (lcE [] (turnL (.nm 3) [3] (evB (runT T k) true .nil) (evE (runT T k) (.call 37 (.cons (.var 3) (.cons (.var 1) (.cons (.var 2) .nil))))) ρ) ((parts t).map enc) [] μ) QL := by
    rintro ρ QL μ ⟨a, d, rfl⟩ q
    refine W_lcT enc (fun s => some (enc (bel x b s))) rfl (fun s hs μ1 g1 => ?_) (by have := parts_len t; simp only [List.length_nil]; omega) fun μ1 g1 => ?_
    · simp
      exact rec_ s hs fun μ2 g2 => ⟨rfl, g2⟩
    · have z := q μ1 g1
      rw [List.map_map] at z
      simpa [Function.comp_def] using z
  cases t with
  | at_ a =>
    obtain ⟨_, m, em, hm⟩ := hw
    have hl := okM_len hm
    have l1 : m.length + 1 ≤ 16777216 := by omega
    cases a with
    | emp l m' =>
      obtain rfl : m' = encM m := em
      simp [enc, encA, sz, encM, l1, sort_enc]
      have z := q _ (Gw.new (x := .lst ((ins m x b).map pairP)))
      simpa [bel, enc, encA, At.sm, At.m, encM] using z
    | atm l c m' =>
      obtain rfl : m' = encM m := em
      simp [enc, encA, sz, encM, l1, sort_enc]
      have z := q _ (Gw.new (x := .lst ((ins m x b).map pairP)))
      simpa [bel, enc, encA, At.sm, At.m, encM] using z
    | smo l m' =>
      obtain rfl : m' = encM m := em
      simp [enc, encA, sz, encM, l1, sort_enc]
      have z := q _ (Gw.new (x := .lst ((ins m x b).map pairP)))
      simpa [bel, enc, encA, At.sm, At.m, encM] using z
  | nt s =>
    simp [enc, sz, and_assoc]
    refine go ⟨_, _, rfl⟩ fun μ1 g1 => ?_
    simp [parts]
    exact q _ (g1.trans .new)
  | bo e s t =>
    cases e <;> (
      simp [enc, wb, sz, and_assoc]
      refine go ⟨_, _, rfl⟩ fun μ1 g1 => ?_
      simp [parts]
      exact q _ (g1.trans .new))
  | qu e n s =>
    cases e <;> (
      simp [enc, wq, sz, and_assoc]
      refine rec_ s (by simp [parts]) fun μ1 g1 => ?_
      exact q _ g1)
termination_by nodes t
decreasing_by have := parts_nodes t s hs; omega
def cutM (m : Mt) (x : Int) : Mt := m.filter fun p => decide (p.1 ≠ x)
def bentM (m : Mt) (x : Int) : Nat → PV
  | 0 => encM [(x, 1), (x, 1)]
  | 1 => encM [(x, 0), (x, 1)]
  | 2 => encM (cutM m x ++ [(x, 1), (x - 1, 0)])
  | _ => .tup (.tup [.int x, .bl true] :: (cutM m x).map pairP)
def spl (x : Int) (w : Nat) : Tr → Tr
  | .at_ a => .at_ (a.sm (bentM (decM a.m) x w))
  | .nt s => .nt (spl x w s)
  | .bo e s t => .bo e (spl x w s) t
  | .qu e n s => .qu e n (spl x w s)
theorem cut_lc {m : Mt} {kk : Nat} {x w : Int} {p0 p3 p4 p5 : Option PV} {QL : List PV → Sto → Prop} (hl : m.length ≤ 1000) (q : ∀ μ1, Gw μ μ1 → QL ((cutM m x).map pairP) μ1) :
    W (lcE [] (turnL (.nm 5) [5] (evB (runT T kk) true (.cons (.cmp .NotEq (.ix (.var 5) (.cst (.int 0))) (.var 1)) .nil)) (evE (runT T kk) (.var 5)) [p0, some (.int x), some (.int w), p3, p4, p5]) (m.map pairP) [] μ) QL := by
  refine W_lcT pairP (fun p => if p.1 ≠ x then some (pairP p) else none) rfl (fun p _ μ1 g1 => ?_) (by simp only [List.length_nil]; omega) fun μ1 g1 => ?_
  · by_cases h : p.1 = x <;> simp [pairP, h, Gw.refl]
  · have e : m.filterMap (fun p => if p.1 ≠ x then some (pairP p) else none) = (cutM m x).map pairP := by
      unfold cutM
      clear q hl g1
      induction m with
      | nil => rfl
      | cons p m ih =>
        rw [List.filterMap_cons, List.filter_cons]
        by_cases h : p.1 = x <;> simp [h] at ih ⊢ <;> exact ih
    rw [List.nil_append, e]
    exact q μ1 g1
def bentL (m : Mt) (x : Int) : List PV := [.tup [.tup [.int x, .int 1], .tup [.int x, .int 1]], .tup [.tup [.int x, .int 0], .tup [.int x, .int 1]], .tup ((cutM m x).map pairP ++ [.tup [.int x, .int 1], .tup [.int (x - 1), .int 0]]), .tup (.tup [.int x, .bl true] :: (cutM m x).map pairP)]
theorem gw_two {μ : Sto} {a b : MO} : Gw μ (μ ++ [a, b]) := ⟨_, rfl⟩
theorem bent_ix {m : Mt} {x : Int} {w : Nat} {μ1 : Sto} {a : MO} {Q : PV → Sto → Prop} (h4 : w < 4) (q : Q (bentM m x w) (μ1 ++ [a, .lst (bentL m x)])) : W (ixP (.loc (μ1.length + 1)) (.int w) (μ1 ++ [a, .lst (bentL m x)])) Q := by
  rw [ix_L (xs := bentL m x) (by simp)]
  refine ⟨bentM m x w, ?_, q⟩
  have hw : w = 0 ∨ w = 1 ∨ w = 2 ∨ w = 3 := by omega
  rcases hw with rfl | rfl | rfl | rfl <;> refine at_nat ?_ <;> simp [bentL, bentM, encM, pairP]
theorem spoil_ok (t : Tr) {x : Int} {w : Nat} {k : Nat} {μ : Sto} {Q : PV → Sto → Prop} (hk : nodes t + 1 ≤ k) (hw : WF t) (h4 : w < 4) (q : ∀ μ1, Gw μ μ1 → Q (enc (spl x w t)) μ1) : W (runT T k 41 [enc t, .int x, .int w] μ) Q := by
  obtain ⟨k, rfl⟩ : ∃ k', k = k' + 1 := ⟨k - 1, by omega⟩
  rw [u41]
  refine W_runF rfl ?_
  have rec_ : ∀ s ∈ parts t, ∀ {μ : Sto} {Q : PV → Sto → Prop}, (∀ μ1, Gw μ μ1 → Q (enc (spl x w s)) μ1) → W (runT T k 41 [enc s, .int x, .int w] μ) Q := fun s hs {μ Q} q => by
    have h1 := parts_nodes t s hs
    exact spoil_ok s (by omega) (wf_parts hw s hs) h4 q
  cases t with
  | at_ a =>
    obtain ⟨_, m, em, hm⟩ := hw
    have hl := okM_len hm
    have lc : (cutM m x).length ≤ 3 := Nat.le_trans (List.length_filter_le _ _) hl
    cases a with
    | emp l m' =>
      obtain rfl : m' = encM m := em
      simp [enc, encA, sz, encM, and_assoc]
      refine cut_lc (by omega) fun μ1 g1 => ?_
      refine ⟨by rw [List.length_map]; omega, by rw [List.length_map]; omega, bent_ix h4 ?_⟩
      have z := q _ (g1.trans (gw_two (a := .lst ((cutM m x).map pairP)) (b := .lst (bentL m x))))
      simpa [spl, enc, encA, At.sm, At.m, bentL] using z
    | atm l c m' =>
      obtain rfl : m' = encM m := em
      simp [enc, encA, sz, encM, and_assoc]
      refine cut_lc (by omega) fun μ1 g1 => ?_
      refine ⟨by rw [List.length_map]; omega, by rw [List.length_map]; omega, bent_ix h4 ?_⟩
      have z := q _ (g1.trans (gw_two (a := .lst ((cutM m x).map pairP)) (b := .lst (bentL m x))))
      simpa [spl, enc, encA, At.sm, At.m, bentL] using z
    | smo l m' =>
      obtain rfl : m' = encM m := em
      simp [enc, encA, sz, encM, and_assoc]
      refine cut_lc (by omega) fun μ1 g1 => ?_
      refine ⟨by rw [List.length_map]; omega, by rw [List.length_map]; omega, bent_ix h4 ?_⟩
      have z := q _ (g1.trans (gw_two (a := .lst ((cutM m x).map pairP)) (b := .lst (bentL m x))))
      simpa [spl, enc, encA, At.sm, At.m, bentL] using z
  | nt s =>
    simp [enc, sz, and_assoc]
    refine rec_ s (by simp [parts]) fun μ1 g1 => ?_
    exact q _ g1
  | bo e s t =>
    cases e <;> (
      simp [enc, wb, sz, and_assoc]
      refine rec_ s (by simp [parts]) fun μ1 g1 => ?_
      exact q _ g1)
  | qu e n s =>
    cases e <;> (
      simp [enc, wq, sz, and_assoc]
      refine rec_ s (by simp [parts]) fun μ1 g1 => ?_
      exact q _ g1)
termination_by nodes t
decreasing_by have := parts_nodes t s hs; omega
end Lw
end

section
set_option Elab.async false
set_option linter.all false
set_option maxRecDepth 100000
set_option maxHeartbeats 0
namespace Lw
open PySem PySem.Spec L2 Pv
variable {k : Nat} {μ : Sto} {Q : PV → Sto → Prop}
/-- the spring: two numbers in a cell -/
def Spr (n : Nat) (μ : Sto) : Prop := ∃ a b : Int, μ[n]? = some (.lst [.int a, .int b]) ∧ 0 ≤ b ∧ b < 2 ^ 110
/-- all cells but the spring's stay -/
structure Gs (n : Nat) (μ μ' : Sto) : Prop where
  keep : ∀ (i : Nat) x, i ≠ n → μ[i]? = some x → μ'[i]? = some x
  spr : Spr n μ'
theorem Gs.trans {n : Nat} {μ μ1 μ2 : Sto} (a : Gs n μ μ1) (b : Gs n μ1 μ2) : Gs n μ μ2 := ⟨fun i x h e => b.keep i x h (a.keep i x h e), b.spr⟩
theorem Spr.gw {n : Nat} {μ μ' : Sto} (s : Spr n μ) (g : Gw μ μ') : Gs n μ μ' := by
  obtain ⟨a, b, h, h1, h2⟩ := s
  exact ⟨fun i x _ e => g.at_ e, a, b, g.at_ h, h1, h2⟩
theorem log_lt {n k : Nat} (h : n < 2 ^ k) (h0 : k ≠ 0) : n.log2 < k := by
  by_cases hn : n = 0
  · subst hn
    simp
    omega
  · exact (Nat.log2_lt hn).mpr h
theorem o_mulL {i j : Int} (h : -(2 ^ 64) < j ∧ j < 2 ^ 64) : binP .Mult (.int i) (.int j) μ = some (.int (i * j), μ) := by
  simp only [binP]
  rw [if_pos (.inl (.inr h))]
theorem o_mulR {i j : Int} (h : -(2 ^ 64) < i ∧ i < 2 ^ 64) : binP .Mult (.int i) (.int j) μ = some (.int (i * j), μ) := by
  simp only [binP]
  rw [if_pos (.inl (.inl h))]
theorem o_sq {i : Int} (h : 0 ≤ i ∧ i < 2 ^ 110) : binP .Mult (.int i) (.int i) μ = some (.int (i * i), μ) := by
  simp only [binP]
  have h1 : i.natAbs.log2 < 110 := log_lt (by omega) (by omega)
  rw [if_pos (.inr (by omega))]
theorem o_mod {i j : Int} (h : 0 < j) : binP .Mod (.int i) (.int j) μ = some (.int (i % j), μ) := by
  simp only [binP]
  rw [if_pos h]
theorem o_div {i j : Int} (h : 0 < j) (h2 : j < 2 ^ 100) : binP .FloorDiv (.int i) (.int j) μ = some (.int (i / j), μ) := by
  simp only [binP]
  have h1 : j.natAbs.log2 < 100 := log_lt (by omega) (by omega)
  rw [if_pos ⟨h, by omega⟩]
theorem set_L {n : Nat} {xs : List PV} {i : Int} {v : PV} {j : Nat} (h : μ[n]? = some (.lst xs)) (hj : ixN xs.length i = some j) : setP (.loc n) (.int i) v μ = some (μ.set n (.lst (xs.set j v))) := by
  simp only [setP, h, hj, Option.map_some]
theorem put_ne {μ : Sto} {n i : Nat} {x y : MO} (h : i ≠ n) (e : μ[i]? = some x) : (μ.set n y)[i]? = some x := by
  rw [List.getElem?_set_ne (Ne.symm h)]
  exact e
theorem spr_put {n : Nat} {μ : Sto} {a b c d : Int} (h : μ[n]? = some (.lst [.int a, .int b])) (h1 : 0 ≤ d ∧ d < 2 ^ 110) : Gs n μ (μ.set n (.lst [.int c, .int d])) :=
  ⟨fun i x hi e => put_ne hi e, c, d, put_at h, h1.1, h1.2⟩
theorem pick_ok {n : Nat} {many : Int} (h : 1 ≤ k) (hs : Spr n μ) (hm : 0 < many ∧ many < 1000) (q : ∀ r μ1, 0 ≤ r → r < many → Gs n μ μ1 → Q (.int r) μ1) : W (runT T k 32 [.loc n, .int many] μ) Q := by
  obtain ⟨k, rfl⟩ := Nat.exists_eq_add_of_le' h
  rw [u32]
  refine W_runF rfl ?_
  obtain ⟨a, b, hc, h1, h2⟩ := hs
  by_cases ha : 0 < a
  · simp [ix_L hc, ha, o_mod hm.1, o_div hm.1 (by omega : many < 2 ^ 100)]
    rw [set_L (j := 0) hc (by simp [ixN])]
    refine ⟨_, rfl, ?_⟩
    exact q _ _ (Int.emod_nonneg _ (by omega)) (Int.emod_lt_of_pos _ hm.1) (spr_put hc ⟨h1, h2⟩)
  · have hn : decide (0 < a) = false := by simpa using ha
    simp [ix_L hc, hn]
    rw [o_mulL (by decide), W_some]
    simp
    rw [o_mod (by decide), W_some]
    refine ⟨_, set_L (j := 1) hc (by simp [ixN]), ?_⟩
    have hc2 := put_at (y := .lst ([PV.int a, PV.int b].set 1 (.int ((b * 6364136223846793005 + 1442695040888963407) % 162259276829213363391578010288127)))) hc
    have e2 : ([PV.int a, PV.int b].set 1 (.int ((b * 6364136223846793005 + 1442695040888963407) % 162259276829213363391578010288127))) = [PV.int a, .int ((b * 6364136223846793005 + 1442695040888963407) % 162259276829213363391578010288127)] := rfl
    rw [e2] at hc2 ⊢
    have r1 : 0 ≤ (b * 6364136223846793005 + 1442695040888963407) % 162259276829213363391578010288127 := Int.emod_nonneg _ (by decide)
    have r2 : (b * 6364136223846793005 + 1442695040888963407) % 162259276829213363391578010288127 < 2 ^ 110 := Int.lt_trans (Int.emod_lt_of_pos _ (by decide)) (by decide)
    have gs := spr_put (c := a) hc ⟨r1, r2⟩
    generalize (b * 6364136223846793005 + 1442695040888963407) % 162259276829213363391578010288127 = d at hc2 gs r1 r2 ⊢
    simp [ix_L hc2]
    rw [o_sq ⟨r1, r2⟩, W_some]
    simp [ix_L hc2]
    rw [o_mulR (by decide), W_some]
    try simp
    rw [o_mod (by decide), W_some]
    try simp
    rw [o_div (by decide) (by decide), W_some]
    try simp
    rw [o_mod hm.1, W_some]
    exact q _ _ (Int.emod_nonneg _ (by omega)) (Int.emod_lt_of_pos _ hm.1) gs
end Lw
end

section
set_option Elab.async false
set_option linter.all false
set_option maxRecDepth 100000
set_option maxHeartbeats 0
namespace Lw
open PySem PySem.Spec L2 Pv
variable {k : Nat} {μ : Sto} {Q : PV → Sto → Prop}
theorem lt_asc : ∀ {xs : List Int}, xs.Pairwise (· < ·) → asc xs = true
  | [], _ => rfl
  | [x], _ => rfl
  | x :: y :: r, h => by
    rw [List.pairwise_cons] at h
    have ih := lt_asc h.2
    have h1 := h.1 y List.mem_cons_self
    simpa [asc, h1] using ih
/-- names of the parts but x -/
def Nm (x : Int) (ns : List Int) : Prop := ns.Pairwise (· < ·) ∧ ∀ i ∈ ns, (0 ≤ i ∧ i ≤ 2) ∧ i ≠ x
structure MOI (x : Int) (ns : List Int) (n nm f : Nat) (μ0 : Sto) (r : List PV) (ρ : Env') (μ : Sto) : Prop where
  ex : ∃ (y z : Option PV) (m : Mt) (pre rest : List Int), ρ = [some (.loc n), some (.loc nm), some (.loc f), y, z] ∧ μ[f]? = some (.lst (m.map pairP)) ∧ ns = pre ++ rest ∧ r = rest.map .int ∧ (m.map (·.1)).Sublist pre ∧ ∀ p ∈ m, 0 ≤ p.2 ∧ p.2 ≤ 1
  nmc : μ[nm]? = some (.lst (ns.map .int))
  gs : Gs n μ0 μ
theorem meet_of_ok {x : Int} {ns : List Int} {n nm : Nat} (h : 2 ≤ k) (hs : Spr n μ) (hn : Nm x ns) (hc : μ[nm]? = some (.lst (ns.map .int))) (hne : nm ≠ n)
    (q : ∀ m μ1, okM m = true → (∀ p ∈ m, p.1 ≠ x) → Gs n μ μ1 → Q (encM m) μ1) : W (runT T k 36 [.loc n, .loc nm] μ) Q := by
  obtain ⟨k, rfl⟩ := Nat.exists_eq_add_of_le' h
  rw [u36]
  refine W_runF rfl ?_
  have ln : n < μ.length := by
    obtain ⟨a, b, e, _⟩ := hs
    exact (List.getElem?_eq_some_iff.mp e).1
  have lnm : nm < μ.length := (List.getElem?_eq_some_iff.mp hc).1
  have len3 : ns.length ≤ 3 := few hn.1 fun i hi => (hn.2 i hi).1
  simp [sz, and_assoc, sq_L (Gw.new.at_ hc)]
  refine WO_for (MOI x ns n nm μ.length μ) ⟨⟨none, none, [], [], ns, rfl, by simp, rfl, rfl, by simp, by simp⟩, Gw.new.at_ hc, hs.gw .new⟩ (fun r ρ μ1 h => by simp [chkOk, h.nmc]) ?_ ?_
  · rintro v r ρ μ1 ⟨⟨y, z, m, pre, rest, rfl, hf, e1, e2, e3, e4⟩, hnm, gs⟩
    cases rest with
    | nil => cases e2
    | cons i rest =>
      obtain ⟨rfl, rfl⟩ := List.cons.inj e2
      refine ⟨_, bt_nm, ?_⟩
      try simp
      refine pick_ok (by omega) gs.spr (by omega) fun b μ2 hb1 hb2 g2 => ?_
      try simp
      refine pick_ok (by omega) g2.spr (by omega) fun c μ3 hc1 hc2 g3 => ?_
      have g23 := g2.trans g3
      have hf3 := g23.keep _ _ (by omega) hf
      have hnm3 := g23.keep _ _ hne hnm
      try simp
      have lm : m.length ≤ 3 := by
        have := e3.length_le
        have : pre.length ≤ ns.length := by rw [e1, List.length_append]; omega
        simp at *
        omega
      by_cases h0 : 0 < c
      · right
        refine ⟨h0, rc_app hf3, by rw [sz]; omega, ?_⟩
        rw [me_app hf3 (by rw [List.length_map]; omega), W_some]
        refine ⟨⟨_, _, m ++ [(i, b)], pre ++ [i], rest, rfl, by rw [put_at hf3]; simp [pairP], by rw [e1]; simp, rfl, ?_, ?_⟩, put_ne (by omega) hnm3, ?_⟩
        · rw [List.map_append]
          exact e3.append (List.Sublist.refl _)
        · intro p hp
          rcases List.mem_append.mp hp with w | w
          · exact e4 p w
          · rw [List.mem_singleton.mp w]
            exact ⟨hb1, by show b ≤ 1; omega⟩
        · refine ⟨fun j w hj ej => put_ne ?_ ((gs.trans g23).keep j w hj ej), ?_⟩
          · have := (List.getElem?_eq_some_iff.mp ej).1
            omega
          · obtain ⟨a, d, e, h⟩ := g23.spr
            exact ⟨a, d, put_ne (by omega) e, h⟩
      · left
        refine ⟨by omega, ⟨_, _, m, pre ++ [i], rest, rfl, hf3, by rw [e1]; simp, rfl, ?_, e4⟩, hnm3, gs.trans g23⟩
        exact e3.trans (List.sublist_append_left _ _)
  · rintro ρ μ1 ⟨⟨y, z, m, pre, rest, rfl, hf, e1, e2, e3, e4⟩, hnm, gs⟩
    cases rest with
    | cons _ _ => cases e2
    | nil =>
      rw [List.append_nil] at e1
      subst e1
      simp [bi_tupL hf]
      have hsub : ∀ p ∈ m, p.1 ∈ ns := fun p hp => e3.subset (List.mem_map.mpr ⟨p, hp, rfl⟩)
      refine q m μ1 ?_ (fun p hp => (hn.2 _ (hsub p hp)).2) gs
      unfold okM
      rw [Bool.and_eq_true, List.all_eq_true]
      refine ⟨fun p hp => ?_, lt_asc (hn.1.sublist e3)⟩
      have h1 := (hn.2 _ (hsub p hp)).1
      have h2 := e4 p hp
      unfold inR
      simp [h1.1, h1.2, h2.1, h2.2]
end Lw
end

section
set_option Elab.async false
set_option linter.all false
set_option maxRecDepth 100000
set_option maxHeartbeats 0
namespace Lw
open PySem PySem.Spec L2 Pv
variable {k : Nat} {μ : Sto} {Q : PV → Sto → Prop}
/-- x is in no meet of it, and bound nowhere -/
def Av (x : Int) : Tr → Prop
  | .at_ a => ∀ p ∈ decM a.m, p.1 ≠ x
  | .nt s => Av x s
  | .bo _ s t => Av x s ∧ Av x t
  | .qu _ n s => n ≠ x ∧ Av x s
/-- its numbers are digits -/
def Sm : Tr → Prop
  | .at_ (.emp l _) => l ≤ 2
  | .at_ (.atm l c _) => l ≤ 2 ∧ c ≤ 4
  | .at_ (.smo l _) => l ≤ 2
  | .nt s => Sm s
  | .bo _ s t => Sm s ∧ Sm t
  | .qu _ _ s => Sm s
theorem atI_or {xs : List PV} {r : Int} (h : 0 ≤ r ∧ r < xs.length) : ∃ p, atI xs r = some p ∧ p ∈ xs := by
  obtain ⟨n, rfl⟩ := Int.eq_ofNat_of_zero_le h.1
  have hn : n < xs.length := by omega
  exact ⟨xs[n], at_nat (by simp [hn]), List.getElem_mem hn⟩
theorem any_ok {x : Int} {os : List Int} {n ot : Nat} (ho : ∀ i ∈ os, (0 ≤ i ∧ i ≤ 2) ∧ i ≠ x) (hol : 0 < os.length ∧ os.length < 10) (hon : ot ≠ n) : ∀ (size : Nat) {high : Int} {k : Nat} {μ : Sto} {Q : PV → Sto → Prop} {ns : List Int} {nm : Nat}, size + 3 ≤ k → Spr n μ → Nm x ns → μ[nm]? = some (.lst (ns.map .int)) → nm ≠ n → μ[ot]? = some (.lst (os.map .int)) →
    (∀ t μ1, WF t → Av x t → Sm t → nodes t ≤ max 1 size → Gs n μ μ1 → Q (enc t) μ1) → W (runT T k 38 [.loc n, .loc nm, .loc ot, .int size, .int high] μ) Q := by
  intro size
  induction size using Nat.strongRecOn with
  | ind size ih =>
    intro high k μ Q ns nm hk hs hn hc hne hot q
    obtain ⟨k, rfl⟩ : ∃ k', k = k' + 1 := ⟨k - 1, by omega⟩
    rw [u38]
    refine W_runF rfl ?_
    simp [sz]
    refine pick_ok (by omega) hs (by omega) fun way μ1 hw1 hw2 g1 => ?_
    refine pick_ok (by omega) g1.spr (by omega) fun sort μ2 hs1 hs2 g2 => ?_
    have gA := g1.trans g2
    have nmA := gA.keep _ _ hne hc
    have otA := gA.keep _ _ hon hot
    -- an atom
    have bA : W (runT T k 36 [PV.loc n, PV.loc nm] μ2) fun x μ1 =>
            W (runT T k 32 [PV.loc n, PV.int 3] μ1) fun x_1 μ1 =>
              W (runT T k 32 [PV.loc n, PV.int 4] μ1) fun y μ2 =>
                W (binP Operator.Add (PV.int 1) y μ2) fun x_2 μ1 =>
                  W (ixP (PV.loc (List.length μ1)) (PV.int sort) (μ1 ++ [MO.lst [PV.tup [PV.str (Str.ofString "empty"), x_1, x], PV.tup [PV.str (Str.ofString "atoms"), x_1, x_2, x], PV.tup [PV.str (Str.ofString "smooth"), x_1, x]]])) fun x μ1 => Q x μ1 := by
      refine meet_of_ok (by omega) g2.spr hn nmA hne fun m μ3 hm1 hm2 g3 => ?_
      refine pick_ok (by omega) g3.spr (by omega) fun lv μ4 hl1 hl2 g4 => ?_
      refine pick_ok (by omega) g4.spr (by omega) fun c μ5 hc1 hc2 g5 => ?_
      have gs := ((gA.trans g3).trans (g4.trans g5)).trans (g5.spr.gw (Gw.new (x := .lst [PV.tup [PV.str (Str.ofString "empty"), .int lv, encM m], PV.tup [PV.str (Str.ofString "atoms"), .int lv, .int (1 + c), encM m], PV.tup [PV.str (Str.ofString "smooth"), .int lv, encM m]])))
      simp
      rw [ix_L at_new]
      have hsrt : sort = 0 ∨ sort = 1 ∨ sort = 2 := by omega
      rcases hsrt with rfl | rfl | rfl
      · exact ⟨_, at_0, q (.at_ (.emp lv (encM m))) _ ⟨hl1, m, rfl, hm1⟩ (by simp only [Av, At.m, dec_enc]; exact hm2) (by simp only [Sm]; omega) (by simp only [nodes]; omega) gs⟩
      · exact ⟨_, at_1, q (.at_ (.atm lv (1 + c) (encM m))) _ ⟨⟨hl1, by omega⟩, m, rfl, hm1⟩ (by simp only [Av, At.m, dec_enc]; exact hm2) (by simp only [Sm]; omega) (by simp only [nodes]; omega) gs⟩
      · exact ⟨_, at_2, q (.at_ (.smo lv (encM m))) _ ⟨hl1, m, rfl, hm1⟩ (by simp only [Av, At.m, dec_enc]; exact hm2) (by simp only [Sm]; omega) (by simp only [nodes]; omega) gs⟩
    by_cases h2 : (size : Int) < 2
    · exact .inr ⟨h2, bA⟩
    have sz1 : ((size : Int) - 1) = ((size - 1 : Nat) : Int) := by omega
    -- not
    have bN : W (runT T k 38 [PV.loc n, PV.loc nm, PV.loc ot, PV.int (↑size - 1), PV.int high] μ2) fun x μ1 => Q (PV.tup [PV.str (Str.ofString "not"), x]) μ1 := by
      rw [sz1]
      refine ih (size - 1) (by omega) (by omega) g2.spr hn nmA hne otA fun t μ3 h1 h2 hs' h3 g3 => ?_
      exact q (.nt t) μ3 h1 h2 hs' (by simp only [nodes]; omega) (gA.trans g3)
    -- two
    have bT : 3 ≤ (size : Int) → W (binP Operator.FloorDiv (PV.int (↑size - 1)) (PV.int 2) μ2) fun x μ1 =>
                          W (runT T k 38 [PV.loc n, PV.loc nm, PV.loc ot, x, PV.int high] μ1) fun x_1 μ1 =>
                            W (runT T k 32 [PV.loc n, PV.int 2] (μ1 ++ [MO.lst [PV.str (Str.ofString "both"), PV.str (Str.ofString "either")]])) fun y μ2 =>
                              W (ixP (PV.loc (List.length μ1)) y μ2) fun x_2 μ1 =>
                                W (runT T k 38 [PV.loc n, PV.loc nm, PV.loc ot, x, PV.int high] μ1) fun x μ1 => Q (PV.tup [x_2, x_1, x]) μ1 := by
      intro h3
      rw [o_div (by decide) (by decide), W_some]
      have sh : ((size : Int) - 1) / 2 = (((size - 1) / 2 : Nat) : Int) := by omega
      rw [sh]
      refine ih ((size - 1) / 2) (by omega) (by omega) g2.spr hn nmA hne otA fun t μ3 t1 t2 ts t3 g3 => ?_
      have gB := gA.trans g3
      have gC := g3.spr.gw (Gw.new (x := .lst [PV.str (Str.ofString "both"), PV.str (Str.ofString "either")]))
      have ln : μ3.length ≠ n := by
        obtain ⟨a, b, e, _⟩ := g3.spr
        have := (List.getElem?_eq_some_iff.mp e).1
        omega
      refine pick_ok (by omega) gC.spr (by omega) fun r μ4 r1 r2 g4 => ?_
      rw [ix_L (g4.keep _ _ ln at_new)]
      have gD := (gB.trans gC).trans g4
      have rr : r = 0 ∨ r = 1 := by omega
      have fin_ : ∀ e : Bool, W (runT T k 38 [PV.loc n, PV.loc nm, PV.loc ot, .int (((size - 1) / 2 : Nat) : Int), PV.int high] μ4) fun x μ1 => Q (PV.tup [.str (wb e), enc t, x]) μ1 := fun e => by
        refine ih ((size - 1) / 2) (by omega) (by omega) g4.spr hn (gD.keep _ _ hne hc) hne (gD.keep _ _ hon hot) fun u μ5 u1 u2 us u3 g5 => ?_
        exact q (.bo e t u) μ5 ⟨t1, u1⟩ ⟨t2, u2⟩ ⟨ts, us⟩ (by simp only [nodes]; omega) (gD.trans g5)
      rcases rr with rfl | rfl
      · exact ⟨_, at_0, fin_ true⟩
      · exact ⟨_, at_1, fin_ false⟩
    -- some, every
    have bQ : W (biP Bi.len [PV.loc ot] μ2) fun x μ1 =>
                    W (runT T k 32 [PV.loc n, x] μ1) fun y μ2 =>
                      W (ixP (PV.loc ot) y μ2) fun x μ1 =>
                        W (binP Operator.Add (PV.loc nm) (PV.loc (List.length μ1)) (μ1 ++ [MO.lst [x]])) fun x_1 μ1 =>
                          W (biP Bi.sset [x_1] μ1) fun x_2 μ1 =>
                            W (runT T k 38 [PV.loc n, x_2, PV.loc ot, PV.int (↑size - 1), PV.int (high - 1)] μ1) fun x_3 μ1 =>
                              W (runT T k 32 [PV.loc n, PV.int 2] (μ1 ++ [MO.lst [PV.str (Str.ofString "some"), PV.str (Str.ofString "every")]])) fun y μ2 =>
                                W (ixP (PV.loc (List.length μ1)) y μ2) fun x_4 μ1 => Q (PV.tup [x_4, x, x_3]) μ1 := by
      rw [bi_lenL otA, W_some]
      refine pick_ok (by omega) g2.spr (by rw [List.length_map]; omega) fun r μ3 r1 r2 g3 => ?_
      rw [ix_L (g3.keep _ _ hon otA)]
      obtain ⟨p, hp1, hp2⟩ := atI_or (xs := os.map PV.int) ⟨r1, r2⟩
      obtain ⟨v, hv, rfl⟩ := List.mem_map.mp hp2
      refine ⟨_, hp1, ?_⟩
      have gB := gA.trans g3
      have nmB := gB.keep _ _ hne hc
      rw [o_addL (Gw.new.at_ nmB) at_new]
      have l3 : ns.length ≤ 3 := few hn.1 fun i hi => (hn.2 i hi).1
      refine ⟨by rw [sz, List.length_map, List.length_singleton]; omega, ?_⟩
      have eL : ns.map PV.int ++ [PV.int v] = (ns ++ [v]).map PV.int := by simp
      rw [eL, bi_ssetL at_new (by rw [List.length_append, List.length_singleton]; omega), W_some]
      have gw3 : Gw μ3 (μ3 ++ [MO.lst [PV.int v]] ++ [MO.lst ((ns ++ [v]).map PV.int)] ++ [MO.lst ((ss (ns ++ [v])).map PV.int)]) := (Gw.new.trans .new).trans .new
      have gC := gB.trans (g3.spr.gw gw3)
      have ln : n < μ3.length := by
        obtain ⟨a, b, e, _⟩ := g3.spr
        exact (List.getElem?_eq_some_iff.mp e).1
      rw [sz1]
      refine ih (size - 1) (by omega) (by omega) gC.spr (ns := ss (ns ++ [v])) ⟨ss_lt _, fun i hi => ?_⟩ at_new (by simp only [List.length_append, List.length_singleton]; omega) (gC.keep _ _ hon hot) fun t μ4 t1 t2 ts t3 g4 => ?_
      · rcases List.mem_append.mp ((ss_mem _ _).mp hi) with z | z
        · exact hn.2 i z
        · rw [List.mem_singleton.mp z]
          exact ho v hv
      · have gD := g4.spr.gw (Gw.new (x := .lst [PV.str (Str.ofString "some"), PV.str (Str.ofString "every")]))
        have ln4 : μ4.length ≠ n := by
          obtain ⟨a, b, e, _⟩ := g4.spr
          have := (List.getElem?_eq_some_iff.mp e).1
          omega
        refine pick_ok (by omega) gD.spr (by omega) fun r' μ5 r1' r2' g5 => ?_
        rw [ix_L (g5.keep _ _ ln4 at_new)]
        have gE := (gC.trans g4).trans (gD.trans g5)
        have fin_ : ∀ e : Bool, Q (.tup [.str (wq e), .int v, enc t]) μ5 := fun e => q (.qu e v t) μ5 ⟨(ho v hv).1, t1⟩ ⟨(ho v hv).2, t2⟩ ts (by simp only [nodes]; omega) gE
        have rr : r' = 0 ∨ r' = 1 := by omega
        rcases rr with rfl | rfl
        · exact ⟨_, at_0, fin_ true⟩
        · exact ⟨_, at_1, fin_ false⟩
    refine .inl ⟨by omega, ?_⟩
    by_cases w0 : way = 0
    · exact .inr ⟨by simp [w0], bA⟩
    refine .inl ⟨by simp [w0], ?_⟩
    by_cases w4 : way < 4
    · refine .inr ⟨by simp [w4], ?_⟩
      by_cases hh : 0 < high
      · exact .inr ⟨hh, bQ⟩
      · refine .inl ⟨by omega, .inl ⟨by simp; omega, ?_⟩⟩
        by_cases s3 : 3 ≤ (size : Int)
        · exact .inl ⟨s3, bT s3⟩
        · exact .inr ⟨by omega, bN⟩
    · refine .inl ⟨by simp; omega, ?_⟩
      by_cases e4 : way = 4
      · exact .inr ⟨by simp [e4], bN⟩
      · refine .inl ⟨by simp [e4], ?_⟩
        by_cases s3 : 3 ≤ (size : Int)
        · exact .inl ⟨s3, bT s3⟩
        · exact .inr ⟨by omega, bN⟩
end Lw
end

section
set_option Elab.async false
set_option linter.all false
set_option maxRecDepth 100000
set_option maxHeartbeats 0
namespace Lw
open PySem PySem.Spec L2 Pv
theorem ins_perm (m : Mt) (x b : Int) : (ins m x b).Perm (m ++ [(x, b)]) := List.mergeSort_perm _ _
theorem ins_sorted (m : Mt) (x b : Int) : (ins m x b).Pairwise fun p q => leP p q = true := by
  refine List.pairwise_mergeSort (fun a b c h1 h2 => ?_) (fun a b => ?_) _
  · simp only [leP, decide_eq_true_eq] at h1 h2 ⊢
    omega
  · simp only [leP, Bool.or_eq_true, decide_eq_true_eq]
    omega
theorem ins_ok {m : Mt} {x b : Int} (h : okM m = true) (hx : ∀ p ∈ m, p.1 ≠ x) (h1 : 0 ≤ x ∧ x ≤ 2) (h2 : 0 ≤ b ∧ b ≤ 1) : okM (ins m x b) = true := by
  obtain ⟨n1, n2⟩ := okM_names h
  have nd : ((ins m x b).map (·.1)).Nodup := by
    rw [((ins_perm m x b).map _).nodup_iff, List.map_append, List.nodup_append]
    refine ⟨n1.imp fun h => Int.ne_of_lt h, by simp, fun a ha c hc => ?_⟩
    obtain ⟨p, hp, rfl⟩ := List.mem_map.mp ha
    simp at hc
    rw [hc]
    exact hx p hp
  have lt : ((ins m x b).map (·.1)).Pairwise (· < ·) := by
    rw [List.pairwise_map]
    have nd' := List.pairwise_map.mp nd
    refine ((ins_sorted m x b).and nd').imp fun {p q} ⟨h, h'⟩ => ?_
    simp only [leP, decide_eq_true_eq] at h
    have h' : p.1 ≠ q.1 := h'
    omega
  unfold okM at h ⊢
  rw [Bool.and_eq_true, List.all_eq_true] at h ⊢
  refine ⟨fun p hp => ?_, lt_asc lt⟩
  rcases List.mem_append.mp ((ins_perm m x b).mem_iff.mp hp) with z | z
  · exact h.1 p z
  · rw [List.mem_singleton.mp z]
    simp [inR, h1.1, h1.2, h2.1, h2.2]
@[simp] theorem sm_m (a : At) (m : PV) : (a.sm m).m = m := by cases a <;> rfl
theorem sm_lv {a : At} {m : PV} (h : a.lv) : (a.sm m).lv := by cases a <;> exact h
theorem bel_wf {x b : Int} (h1 : 0 ≤ x ∧ x ≤ 2) (h2 : 0 ≤ b ∧ b ≤ 1) : ∀ {t : Tr}, WF t → Av x t → WF (bel x b t)
  | .at_ a, ⟨hl, m, em, hm⟩, hv => by
    simp only [Av, em, dec_enc] at hv
    refine ⟨sm_lv hl, ins m x b, by rw [em, dec_enc, sm_m], ins_ok hm hv h1 h2⟩
  | .nt s, h, hv => bel_wf (t := s) h1 h2 h hv
  | .bo e s t, h, hv => ⟨bel_wf (t := s) h1 h2 h.1 hv.1, bel_wf (t := t) h1 h2 h.2 hv.2⟩
  | .qu e n s, h, hv => ⟨h.1, bel_wf (t := s) h1 h2 h.2 hv.2⟩
theorem bel_nodes {x b : Int} : ∀ t : Tr, nodes (bel x b t) = nodes t
  | .at_ a => rfl
  | .nt s => by simp [bel, nodes, bel_nodes s]
  | .bo e s t => by simp [bel, nodes, bel_nodes s, bel_nodes t]
  | .qu e n s => by simp [bel, nodes, bel_nodes s]
theorem bel_ht {x b : Int} : ∀ t : Tr, ht (bel x b t) = ht t
  | .at_ a => rfl
  | .nt s => by simp [bel, ht, bel_ht s]
  | .bo e s t => by simp [bel, ht, bel_ht s, bel_ht t]
  | .qu e n s => by simp [bel, ht, bel_ht s]
theorem bel_pt {x b : Int} : ∀ t : Tr, pt (bel x b t) = (pt t).map (bel x b)
  | .at_ a => rfl
  | .nt s => by simp [bel, pt, bel_pt s]
  | .bo e s t => by simp [bel, pt, bel_pt s, bel_pt t]
  | .qu e n s => by simp [bel, pt, bel_pt s]
theorem bel_pl {x b : Int} (t : Tr) : pl (bel x b t) = pl t := by
  unfold pl
  rw [bel_pt, List.all_map]
  congr 1
  funext s
  cases s with
  | at_ a => cases a <;> rfl
  | _ => rfl
theorem av_lf {x : Int} : ∀ {t : Tr}, Av x t → x ∉ lf t
  | .at_ a, h => fun z => by
    obtain ⟨p, hp, e⟩ := List.mem_map.mp z
    exact h p hp e
  | .nt s, h => fun z => av_lf (t := s) h ((ss_mem _ _).mp z)
  | .bo e s t, h => fun z => by
    rcases List.mem_append.mp ((ss_mem _ _).mp z) with z | z
    · exact av_lf (t := s) h.1 z
    · exact av_lf (t := t) h.2 z
  | .qu e n s, h => fun z => av_lf (t := s) h.2 ((ss_mem _ _).mp (List.mem_filter.mp z).1)
theorem fr_mem {x b : Int} : ∀ {t : Tr}, Av x t → ∀ i, i ∈ fr (bel x b t) ↔ i ∈ lf t ∨ i = x
  | .at_ a, h, i => by
    simp only [bel, fr, sm_m, dec_enc, lf]
    rw [((ins_perm (decM a.m) x b).map _).mem_iff]
    simp
  | .nt s, h, i => by
    simp only [bel, fr, lf, ss_mem]
    exact fr_mem (t := s) h i
  | .bo e s t, h, i => by
    simp only [bel, fr, lf, ss_mem, List.mem_append, fr_mem (t := s) h.1 i, fr_mem (t := t) h.2 i]
    constructor
    · rintro ((h | h) | (h | h))
      · exact .inl (.inl h)
      · exact .inr h
      · exact .inl (.inr h)
      · exact .inr h
    · rintro ((h | h) | h)
      · exact .inl (.inl h)
      · exact .inr (.inl h)
      · exact .inl (.inr h)
  | .qu e n s, h, i => by
    have hn : n ≠ x := h.1
    simp only [bel, fr, lf, ss_mem, List.mem_filter, fr_mem (t := s) h.2 i, decide_eq_true_eq]
    constructor
    · rintro ⟨h1 | h1, h2⟩
      · exact .inl ⟨h1, h2⟩
      · exact .inr h1
    · rintro (⟨h1, h2⟩ | h1)
      · exact ⟨.inl h1, h2⟩
      · exact ⟨.inr h1, by rw [h1]; exact Ne.symm hn⟩
theorem fr_bel {x b : Int} {t : Tr} (h1 : 0 ≤ x ∧ x ≤ 2) (h2 : 0 ≤ b ∧ b ≤ 1) (hw : WF t) (hv : Av x t) : fr (bel x b t) = isort (lf t ++ [x]) := by
  have e1 : fr (bel x b t) = isort (dedup (lf t ++ [x])) := sset_uniq (fr_ok (bel_wf h1 h2 hw hv)).1 fun i => by rw [fr_mem hv]; simp
  have nd : (lf t ++ [x]).Nodup := by
    rw [List.nodup_append]
    refine ⟨(lf_ok hw).2.imp fun h => Int.ne_of_lt h, by simp, fun a ha c hc => ?_⟩
    rw [List.mem_singleton.mp hc]
    rintro rfl
    exact av_lf hv ha
  have e2 : isort (lf t ++ [x]) = isort (dedup (lf t ++ [x])) := sset_uniq (isort_lt nd) fun i => (isort_perm _).mem_iff
  rw [e1, e2]
theorem bent_bad {m : Mt} {x : Int} (hm : okM m = true) (hx : 0 ≤ x ∧ x ≤ 2) : ∀ w : Nat, w < 4 → MeetB (bentM m x w) false
  | 0, _ => meet_ok (by simp [okM, asc]) (by simp)
  | 1, _ => meet_ok (by simp [okM, asc]) (by simp)
  | 2, _ => by
    have lc : (cutM m x).length ≤ 3 := Nat.le_trans (List.length_filter_le _ _) (okM_len hm)
    refine meet_ok ?_ (by simp; omega)
    cases h : okM (cutM m x ++ [(x, 1), (x - 1, 0)]) with
    | false => rfl
    | true =>
      have := (okM_names h).1
      rw [List.map_append, List.pairwise_append] at this
      have := this.2.1
      simp at this
      omega
  | 3, _ => fun hk q => is_meet_bl hk hx q
  | w + 4, h => by omega
theorem spl_al {x b : Int} {w : Nat} (h1 : 0 ≤ x ∧ x ≤ 2) (hw4 : w < 4) : ∀ {t : Tr}, WF t → Al (spl x w t) false
  | .at_ a, ⟨hl, m, em, hm⟩ => .at_ (sm_lv hl) (by rw [sm_m, em, dec_enc]; exact bent_bad hm h1 w hw4)
  | .nt s, h => .nt (spl_al (b := b) h1 hw4 (t := s) h)
  | .bo e s t, h => .bo (b := false) (c := true) (spl_al (b := b) h1 hw4 (t := s) h.1) (al_of h.2)
  | .qu e n s, h => .qu h.1 (spl_al (b := b) h1 hw4 (t := s) h.2)
theorem spl_nodes {x : Int} {w : Nat} : ∀ t : Tr, nodes (spl x w t) = nodes t
  | .at_ a => rfl
  | .nt s => by simp [spl, nodes, spl_nodes s]
  | .bo e s t => by simp [spl, nodes, spl_nodes s]
  | .qu e n s => by simp [spl, nodes, spl_nodes s]
end Lw
end

section
set_option Elab.async false
set_option linter.all false
set_option maxRecDepth 100000
set_option maxHeartbeats 0
namespace Lw
open PySem PySem.Spec L2 Pv
variable {k : Nat} {μ : Sto} {Q : PV → Sto → Prop}
inductive Pl : Nat → PV → Prop where
  | bl {d : Nat} (b : Bool) : Pl d (.bl b)
  | int {d : Nat} (i : Int) : Pl d (.int i)
  | str {d : Nat} (x : Str) : Pl d (.str x)
  | tup {d : Nat} {ps : List PV} (hl : ps.length ≤ 1000) (h : ∀ p ∈ ps, Pl d p) : Pl (d + 1) (.tup ps)
theorem zip_self (xs : List PV) : xs.zipWith (fun u v => PV.tup [u, v]) xs = xs.map fun p => .tup [p, p] := by
  induction xs with
  | nil => rfl
  | cons x xs ih => simp [ih]
theorem all_true {β : Type} (xs : List β) : ((xs.map fun _ => true)).all id = true := by simp
theorem like_pl {d : Nat} {p : PV} (hp : Pl d p) : ∀ {k : Nat} {μ : Sto} {Q : PV → Sto → Prop}, d + 1 ≤ k → (∀ μ1, Gw μ μ1 → Q (.bl true) μ1) → W (runT T k 33 [p, p] μ) Q := by
  induction hp with
  | bl b =>
    intro k μ Q hk q
    obtain ⟨k, rfl⟩ : ∃ k', k = k' + 1 := ⟨k - 1, by omega⟩
    rw [u33]
    refine W_runF rfl ?_
    simp
    exact q _ .refl
  | int i =>
    intro k μ Q hk q
    obtain ⟨k, rfl⟩ : ∃ k', k = k' + 1 := ⟨k - 1, by omega⟩
    rw [u33]
    refine W_runF rfl ?_
    simp
    exact q _ .refl
  | str x =>
    intro k μ Q hk q
    obtain ⟨k, rfl⟩ : ∃ k', k = k' + 1 := ⟨k - 1, by omega⟩
    rw [u33]
    refine W_runF rfl ?_
    simp
    exact q _ .refl
  | @tup d ps hl h ih =>
    intro k μ Q hk q
    obtain ⟨k, rfl⟩ : ∃ k', k = k' + 1 := ⟨k - 1, by omega⟩
    rw [u33]
    refine W_runF rfl ?_
    simp [and_assoc]
    refine W_lcT (fun p => PV.tup [p, p]) (fun _ => some (.bl true)) rfl (fun p hp μ1 g1 => ?_) (by simp only [List.length_nil]; omega) fun μ1 g1 => ?_
    · simp
      exact ih p hp (by omega) fun μ2 g2 => ⟨rfl, g2⟩
    · have e : ps.filterMap (fun _ => some (PV.bl true)) = (ps.map fun _ => true).map .bl := by rw [List.map_map]; exact fm_some _ _
      rw [List.nil_append, e, all_new, W_some, all_true]
      try simp
      exact q _ (g1.trans .new)
/-- two lists of the same data -/
theorem like_list {d a b : Nat} {xs : List PV} (hp : ∀ p ∈ xs, Pl d p) (hl : xs.length ≤ 1000) (ha : μ[a]? = some (.lst xs)) (hb : μ[b]? = some (.lst xs)) (hk : d + 2 ≤ k) (q : ∀ μ1, Gw μ μ1 → Q (.bl true) μ1) : W (runT T k 33 [.loc a, .loc b] μ) Q := by
  obtain ⟨k, rfl⟩ : ∃ k', k = k' + 1 := ⟨k - 1, by omega⟩
  rw [u33]
  refine W_runF rfl ?_
  simp [and_assoc, ty_loc_bool hb, ty_loc_int hb, ty_loc_str hb, ty_loc_tuple hb, ty_loc_tuple ha, ty_loc_list hb, ty_loc_list ha, bi_lenL ha, bi_lenL hb, sq_L ha, sq_L hb]
  refine W_lcT (fun p => PV.tup [p, p]) (fun _ => some (.bl true)) (by simp [chkOk, ha, hb]) (fun p hp' μ1 g1 => ?_) (by simp only [List.length_nil]; omega) fun μ1 g1 => ?_
  · simp
    exact like_pl (hp p hp') (by omega) fun μ2 g2 => ⟨rfl, g2⟩
  · have e : xs.filterMap (fun _ => some (PV.bl true)) = (xs.map fun _ => true).map .bl := by rw [List.map_map]; exact fm_some _ _
    rw [List.nil_append, e, all_new, W_some, all_true]
    try simp
    exact q _ (g1.trans .new)
theorem Pl.up {d e : Nat} {p : PV} (h : Pl d p) : d ≤ e → Pl e p := by
  induction h generalizing e with
  | bl b => exact fun _ => .bl b
  | int i => exact fun _ => .int i
  | str x => exact fun _ => .str x
  | @tup d ps hl h ih =>
    intro he
    obtain ⟨e, rfl⟩ : ∃ e', e = e' + 1 := ⟨e - 1, by omega⟩
    exact .tup hl fun p hp => ih p hp (by omega)
theorem pl_encM {m : Mt} (h : m.length ≤ 1000) : Pl 2 (encM m) := .tup (by rw [List.length_map]; exact h) fun p hp => by
  obtain ⟨⟨a, b⟩, _, rfl⟩ := List.mem_map.mp hp
  refine .tup (by simp) fun p hp => ?_
  simp at hp
  rcases hp with rfl | rfl
  · exact .int _
  · exact .int _
theorem pl_enc : ∀ {t : Tr}, WF t → Pl (nodes t + 3) (enc t)
  | .at_ a, ⟨_, m, em, hm⟩ => by
    have lm := okM_len hm
    have pm : Pl 3 (encM m) := (pl_encM (by omega)).up (by omega)
    cases a with
    | emp l m' =>
      obtain rfl : m' = encM m := em
      refine .tup (by simp) fun p hp => ?_
      simp at hp
      rcases hp with rfl | rfl | rfl
      · exact .str _
      · exact .int _
      · exact pm
    | atm l c m' =>
      obtain rfl : m' = encM m := em
      refine .tup (by simp) fun p hp => ?_
      simp at hp
      rcases hp with rfl | rfl | rfl | rfl
      · exact .str _
      · exact .int _
      · exact .int _
      · exact pm
    | smo l m' =>
      obtain rfl : m' = encM m := em
      refine .tup (by simp) fun p hp => ?_
      simp at hp
      rcases hp with rfl | rfl | rfl
      · exact .str _
      · exact .int _
      · exact pm
  | .nt s, h => by
    have ih := pl_enc (t := s) h
    refine .tup (d := nodes s + 3) (by simp) fun p hp => ?_
    simp at hp
    rcases hp with rfl | rfl
    · exact .str _
    · exact ih
  | .bo e s t, h => by
    have ih := pl_enc (t := s) h.1
    have ih2 := pl_enc (t := t) h.2
    have : nodes (.bo e s t) + 3 = (nodes s + nodes t + 3) + 1 := by show nodes s + nodes t + 1 + 3 = _; omega
    rw [this]
    refine .tup (by simp) fun p hp => ?_
    simp at hp
    rcases hp with rfl | rfl | rfl
    · exact .str _
    · exact ih.up (by omega)
    · exact ih2.up (by omega)
  | .qu e n s, h => by
    have ih := pl_enc (t := s) h.2
    refine .tup (d := nodes s + 3) (by simp) fun p hp => ?_
    simp at hp
    rcases hp with rfl | rfl | rfl
    · exact .str _
    · exact .int _
    · exact ih
end Lw
end

section
set_option Elab.async false
set_option linter.all false
set_option maxRecDepth 100000
set_option maxHeartbeats 0
namespace Lw
open PySem PySem.Spec L2 Pv
variable {k : Nat} {μ : Sto} {Q : PV → Sto → Prop}
theorem ix_R {xs : List PV} {i : Int} : W (ixP (.rol xs) (.int i) μ) Q = ∃ p, atI xs i = some p ∧ Q p μ := by
  simp only [ixP]
  cases atI xs i <;> simp
theorem o_pow : binP .Pow (.int 10) (.int 18) μ = some (.int 1000000000000000000, μ) := by
  simp only [binP]
  rw [if_pos (by decide)]
  rfl
structure SPI (sc pl : PV) (c : Chk) (μ0 : Sto) (r : List PV) (ρ : Env') (μ : Sto) : Prop where
  ex : ∃ (m : Int) (y : Option PV) (is : List Int), ρ = [some sc, some pl, some (.int m), y, none] ∧ (0 ≤ m ∧ m < 2 ^ 110) ∧ r = is.map .int
  st : μ = μ0
  chk : chkOk c μ = true
theorem at_two {a b : MO} : (μ ++ [a, b])[μ.length + 1]? = some b := by simp
theorem spring_ok {is : List Int} {place : Int} (h : 1 ≤ k) (hp : 0 ≤ place ∧ place ≤ 1) (q : ∀ n μ1, Gw μ μ1 → Spr n μ1 → Q (.loc n) μ1) : W (runT T k 31 [.rol (is.map .int), .int place] μ) Q := by
  obtain ⟨k, rfl⟩ := Nat.exists_eq_add_of_le' h
  rw [u31]
  refine W_runF rfl ?_
  simp [and_assoc]
  rw [o_mulR (by decide), W_some]
  simp [and_assoc]
  have cut : cutP (is.map PV.int) none (some 63) = (is.map PV.int).take 63 := by
    have z := cut_to (is.map PV.int) 63
    rw [show ((63 : Nat) : Int) = 63 from rfl] at z
    rw [z]
  rw [cut]
  refine WO_for (SPI (.rol (is.map .int)) (.int place) [(μ.length, .lst ((is.map PV.int).take 63))] (μ ++ [.lst ((is.map PV.int).take 63)])) ⟨⟨_, none, is.take 63, rfl, by omega, by rw [List.map_take]⟩, rfl, by simp [chkOk]⟩ (fun _ _ _ h => h.chk) ?_ ?_
  · rintro v r ρ μ1 ⟨⟨m, y, js, rfl, hm, e⟩, rfl, hc⟩
    cases js with
    | nil => cases e
    | cons j js =>
      obtain ⟨rfl, rfl⟩ := List.cons.inj e
      refine ⟨_, bt_nm, ?_⟩
      simp
      rw [o_mulL (by decide), W_some]
      try simp
      rw [o_mulL (by decide), W_some]
      try simp
      rw [o_mod (by decide), W_some]
      refine ⟨⟨_, _, js, rfl, ⟨Int.emod_nonneg _ (by decide), Int.lt_trans (Int.emod_lt_of_pos _ (by decide)) (by decide)⟩, rfl⟩, rfl, hc⟩
  · rintro ρ μ1 ⟨⟨m, y, js, rfl, hm, e⟩, rfl, hc⟩
    simp
    by_cases hl : place < (is.length : Int)
    · refine .inr ⟨hl, ?_⟩
      obtain ⟨p, hp1, hp2⟩ := atI_or (xs := is.map PV.int) (r := place) ⟨hp.1, by rw [List.length_map]; exact hl⟩
      obtain ⟨own, _, rfl⟩ := List.mem_map.mp hp2
      rw [ix_R]
      refine ⟨_, hp1, ?_⟩
      simp
      rw [o_pow, W_some]
      simp [sz]
      exact q _ _ gw_two ⟨_, m, at_two, hm.1, hm.2⟩
    · refine .inl ⟨by omega, ?_⟩
      rw [o_pow, W_some]
      simp [sz]
      exact q _ _ gw_two ⟨_, m, at_two, hm.1, hm.2⟩
end Lw
end

section
set_option Elab.async false
set_option linter.all false
set_option maxRecDepth 100000
set_option maxHeartbeats 0
namespace Lw
open PySem PySem.Spec L2 Pv
variable {k : Nat} {μ : Sto} {Q : PV → Sto → Prop}
def S (l : List Nat) : Str := ⟨l.toArray⟩
theorem S_inj {a b : List Nat} (h : S a = S b) : a = b := by
  have := congrArg (fun x : Str => x.cps.toList) h
  simpa [S] using this
@[simp] theorem S_eq (a b : List Nat) : (S a = S b) = (a = b) := propext ⟨S_inj, fun h => by rw [h]⟩
@[simp] theorem S_len (l : List Nat) : (S l).length = l.length := by
  show l.toArray.size = _
  simp
@[simp] theorem S_app (a b : List Nat) : S a ++ S b = S (a ++ b) := by
  show (⟨a.toArray ++ b.toArray⟩ : Str) = ⟨(a ++ b).toArray⟩
  simp
theorem S_digit (d : Nat) (h : d < 10) : (Str.ofString (toString (d : Int))) = S [48 + d] := by
  have : d = 0 ∨ d = 1 ∨ d = 2 ∨ d = 3 ∨ d = 4 ∨ d = 5 ∨ d = 6 ∨ d = 7 ∨ d = 8 ∨ d = 9 := by omega
  rcases this with rfl | rfl | rfl | rfl | rfl | rfl | rfl | rfl | rfl | rfl <;> decide +kernel
theorem int_digit (d : Nat) (h : d < 10) : intText? (S [48 + d]) = some (d : Int) := by
  have : d = 0 ∨ d = 1 ∨ d = 2 ∨ d = 3 ∨ d = 4 ∨ d = 5 ∨ d = 6 ∨ d = 7 ∨ d = 8 ∨ d = 9 := by omega
  rcases this with rfl | rfl | rfl | rfl | rfl | rfl | rfl | rfl | rfl | rfl <;> decide +kernel
theorem str_digit (d : Nat) (h : d < 10) : biP .str [.int d] μ = some (.str (S [48 + d]), μ) := by
  simp only [biP]
  have h0 : (d : Int).natAbs.log2 < 4 := log_lt (by omega) (by decide)
  have h1 : (d : Int).natAbs.log2 < 1920 := by omega
  rw [if_pos h1, S_digit d h]
theorem int_S (d : Nat) (h : d < 10) : biP .int [.str (S [48 + d])] μ = some (.int d, μ) := by
  simp only [biP, S_len]
  rw [if_pos (by simp), int_digit d h]
  rfl
theorem ix_S {l : List Nat} {n c : Nat} (h : l[n]? = some c) (hl : l.length ≤ 10000000) : ixP (.str (S l)) (.int n) μ = some (.str (S [c]), μ) := by
  have hn := (List.getElem?_eq_some_iff.mp h).1
  simp only [ixP, S_len]
  rw [if_pos (by rw [sz]; omega)]
  have e : atI (S l).cps.toList (n : Int) = some c := by
    unfold atI ixN
    have e1 : (S l).cps.toList = l := by simp [S]
    rw [e1, if_pos (by omega), if_pos (by omega), Int.toNat_natCast]
    exact h
  rw [e]
  rfl
theorem cutS_S (l : List Nat) (a b : Nat) : cutS (S l) (some (a : Int)) (some (b : Int)) = S ((l.drop a).take (b - a)) := by
  unfold cutS
  rw [HT.sIx_nat, HT.sIx_nat, S_len]
  have e1 : (S l).cps.toList = l := by simp [S]
  rw [e1]
  show S _ = S _
  congr 1
  by_cases ha : a ≤ l.length
  · rw [Nat.min_eq_left ha]
    by_cases hb : b ≤ l.length
    · rw [Nat.min_eq_left hb]
    · rw [Nat.min_eq_right (by omega)]
      rw [List.take_of_length_le (by rw [List.length_drop]; omega), List.take_of_length_le (by rw [List.length_drop]; omega)]
  · rw [Nat.min_eq_right (by omega : l.length ≤ a), List.drop_length, List.drop_eq_nil_of_le (by omega)]
    simp
theorem sl_S {l : List Nat} {a b : Nat} (hl : l.length ≤ 10000000) : slP (.str (S l)) (some (a : Int)) (some (b : Int)) μ = some (.str (S ((l.drop a).take (b - a))), μ) := by
  simp only [slP, S_len]
  rw [if_pos (by rw [sz]; omega), cutS_S]
end Lw
end

section
set_option Elab.async false
set_option linter.all false
set_option maxRecDepth 100000
set_option maxHeartbeats 0
namespace Lw
open PySem PySem.Spec L2 Pv
variable {k : Nat} {μ : Sto} {Q : PV → Sto → Prop}
def inS (z : Str) (c : Nat) : Bool := !(Builtin.Str.occurrences z (S [c]) 0 z.length 1).isEmpty
theorem c_inS {z : Str} {c : Nat} : cmpB .In (.str (S [c])) (.str z) μ = some (inS z c) := rfl
theorem len_S {l : List Nat} (hl : l.length ≤ 10000000) : biP .len [.str (S l)] μ = some (.int l.length, μ) := by
  simp only [biP, S_len]
  rw [if_pos (by rw [sz]; omega)]
structure EI (l : List Nat) (z : Str) (a : Nat) (w : List Nat) (μ0 : Sto) (m : Nat) (ρ : Env') (μ : Sto) : Prop where
  ex : ∃ w1 w2, w = w1 ++ w2 ∧ ρ = [some (.str (S l)), some (.int a), some (.str z), some (.int ((a + w1.length : Nat) : Int))] ∧ m = w2.length
  st : μ = μ0
theorem end_of_ok {pre w rest : List Nat} {z : Str} (h : 1 ≤ k) (hl : (pre ++ w ++ rest).length ≤ 1000000) (hw : ∀ c ∈ w, inS z c = true) (hr : ∀ c r, rest = c :: r → inS z c = false)
    (q : Q (.int ((pre.length + w.length : Nat) : Int)) μ) : W (runT T k 24 [.str (S (pre ++ w ++ rest)), .int pre.length, .str z] μ) Q := by
  obtain ⟨k, rfl⟩ := Nat.exists_eq_add_of_le' h
  rw [u24]
  refine W_runF rfl ?_
  simp only [List.length_append] at hl
  simp
  rw [s_whW]
  refine WO_while (EI (pre ++ w ++ rest) z pre.length w μ) ?_ (m := w.length) ⟨⟨[], w, rfl, by simp, rfl⟩, rfl⟩ (by unfold fuelW; omega)
  rintro m ρ μ1 ⟨⟨w1, w2, rfl, rfl, rfl⟩, rfl⟩
  simp only [List.length_append] at hl
  rw [W_test]
  have ll : (pre ++ (w1 ++ w2) ++ rest).length ≤ 10000000 := by simp only [List.length_append]; omega
  simp only [e_bo, b_cons, b_nil, e_cmp, e_var, w_some, List.getElem?_cons_zero, List.getElem?_cons_succ, e_bi, es_cons, es_nil, len_S ll, c_lt, Option.some.injEq, exists_eq_left', PV.bl.injEq]
  cases w2 with
  | cons c w2 =>
    have lt : ((pre.length + w1.length : Nat) : Int) < ((pre ++ (w1 ++ c :: w2) ++ rest).length : Int) := by simp only [List.length_append, List.length_cons]; omega
    have ec : (pre ++ (w1 ++ c :: w2) ++ rest)[pre.length + w1.length]? = some c := by simp
    simp only [decide_eq_true lt, if_true, e_ix, e_var, w_some, List.getElem?_cons_zero, List.getElem?_cons_succ, ix_S ec ll, c_inS, hw c (by simp), Option.some.injEq, exists_eq_left', PV.bl.injEq]
    refine ⟨w2.length, by simp, ?_⟩
    simp
    exact ⟨⟨w1 ++ [c], w2, by simp, by simp; omega, rfl⟩, rfl⟩
  | nil =>
    cases rest with
    | nil =>
      have nlt : decide (((pre.length + w1.length : Nat) : Int) < ((pre ++ (w1 ++ []) ++ []).length : Int)) = false := by simp
      simp only [nlt]
      simp
      simpa using q
    | cons c r =>
      have lt : ((pre.length + w1.length : Nat) : Int) < ((pre ++ (w1 ++ []) ++ c :: r).length : Int) := by simp only [List.length_append, List.length_cons, List.length_nil]; omega
      have ec : (pre ++ (w1 ++ []) ++ c :: r)[pre.length + w1.length]? = some c := by simp
      simp only [decide_eq_true lt, if_true, e_ix, e_var, w_some, List.getElem?_cons_zero, List.getElem?_cons_succ, ix_S ec ll, c_inS, hr c r rfl, Option.some.injEq, exists_eq_left', PV.bl.injEq]
      simp
      simpa using q
end Lw
end

section
set_option Elab.async false
set_option linter.all false
set_option maxRecDepth 100000
set_option maxHeartbeats 0
namespace Lw
open PySem PySem.Spec L2 Pv
variable {k : Nat} {μ : Sto} {Q : PV → Sto → Prop}
theorem dig_in (d : Nat) (h : d < 10) : inS "0123456789" (48 + d) = true := by
  have : d = 0 ∨ d = 1 ∨ d = 2 ∨ d = 3 ∨ d = 4 ∨ d = 5 ∨ d = 6 ∨ d = 7 ∨ d = 8 ∨ d = 9 := by omega
  rcases this with rfl | rfl | rfl | rfl | rfl | rfl | rfl | rfl | rfl | rfl <;> decide +kernel
/-- a text goes on with a blank or a bracket, or ends -/
def Stp (rest : List Nat) : Prop := ∀ c r, rest = c :: r → c = 32 ∨ c = 41
theorem stp_dig {rest : List Nat} (h : Stp rest) : ∀ c r, rest = c :: r → inS "0123456789" c = false := fun c r e => by
  rcases h c r e with rfl | rfl <;> decide +kernel
theorem stp_sma {rest : List Nat} (h : Stp rest) : ∀ c r, rest = c :: r → inS "abcdefghijklmnopqrstuvwxyz" c = false := fun c r e => by
  rcases h c r e with rfl | rfl <;> decide +kernel
theorem at_S {pre w rest : List Nat} {c : Nat} (hl : (pre ++ c :: w ++ rest).length ≤ 1000000) : ixP (.str (S (pre ++ c :: w ++ rest))) (.int pre.length) μ = some (.str (S [c]), μ) :=
  ix_S (by simp) (by omega)
theorem sl_w {pre w rest : List Nat} (hl : (pre ++ w ++ rest).length ≤ 1000000) : slP (.str (S (pre ++ w ++ rest))) (some (pre.length : Int)) (some ((pre.length + w.length : Nat) : Int)) μ = some (.str (S w), μ) := by
  rw [sl_S (by omega)]
  have e : ((pre ++ w ++ rest).drop pre.length).take (pre.length + w.length - pre.length) = w := by
    rw [List.append_assoc, List.drop_left, Nat.add_sub_cancel_left, List.take_left]
  rw [e]
theorem int_from_ok {pre rest : List Nat} {d : Nat} (h : 2 ≤ k) (hl : (pre ++ [48 + d] ++ rest).length ≤ 1000000) (hd : d < 10) (hr : Stp rest)
    (q : Q (.tup [.int d, .int ((pre.length + 1 : Nat) : Int)]) μ) : W (runT T k 25 [.str (S (pre ++ [48 + d] ++ rest)), .int pre.length] μ) Q := by
  obtain ⟨k, rfl⟩ := Nat.exists_eq_add_of_le' h
  rw [u25]
  refine W_runF rfl ?_
  show WO (evSs (runT T (k + 1)) b_integer_from [some (.str (S (pre ++ [48 + d] ++ rest))), some (.int pre.length), none] μ) (fin Q)
  simp only [b_integer_from, s_cons, s_asgW, e_call, es_cons, es_nil, e_var, e_glo, w_some, List.getElem?_cons_zero, List.getElem?_cons_succ]
  refine end_of_ok (by omega) hl (fun c hc => by rw [List.mem_singleton.mp hc]; exact dig_in d hd) (stp_dig hr) ?_
  have n1 : decide (((pre.length + [48 + d].length : Nat) : Int) = (pre.length : Int)) = false := by simp; omega
  have n2 : decide ((30 : Int) < ((pre.length + [48 + d].length : Nat) : Int) - (pre.length : Int)) = false := by simp; omega
  have n3 : decide ((1 : Int) < ((pre.length + [48 + d].length : Nat) : Int) - (pre.length : Int)) = false := by simp; omega
  refine ⟨_, bt_nm, ?_⟩
  simp only [n_nx, s_cons, s_iffW, e_bo, b_cons, b_nil, e_cmp, e_bin, e_ix, e_var, e_cst, e_glo, w_some, List.set_cons_succ, List.set_cons_zero, List.getElem?_cons_zero, List.getElem?_cons_succ, c_eqI, c_gt, o_subI, n1, n2, at_S hl, c_eqS, n3, Option.some.injEq, exists_eq_left', PV.bl.injEq]
  simp only [if_true, Bool.false_eq_true, if_false]
  have fin_ : WO (evSs (runT T (k + 1)) (Ss.cons (S.ret (E.tup (Es.cons (E.bi Bi.int (Es.cons ((E.var 0).slB (E.var 1) (E.var 2)) Es.nil)) (Es.cons (E.var 2) Es.nil)))) Ss.nil) [some (.str (S (pre ++ [48 + d] ++ rest))), some (.int pre.length), some (.int ((pre.length + [48 + d].length : Nat) : Int))] μ) (fin Q) := by
    simp only [s_cons, s_retW, e_tup, es_cons, es_nil, e_bi, e_slB, e_var, w_some, List.getElem?_cons_zero, List.getElem?_cons_succ, sl_w hl, int_S d hd, PV.int.injEq, n_rt, f_rt]
    refine ⟨_, _, rfl, rfl, ?_⟩
    rw [sl_w hl]
    simp only [es_cons, es_nil, w_some, int_S d hd, n_rt, f_rt]
    exact ⟨by simp [sz], q⟩
  generalize decide (S [48 + d] = Str.ofString "0") = z
  cases z <;> simp only [if_true, Bool.false_eq_true, if_false, s_nil, n_nx] <;> exact fin_
end Lw
end

section
set_option Elab.async false
set_option linter.all false
set_option maxRecDepth 100000
set_option maxHeartbeats 0
namespace Lw
open PySem PySem.Spec L2 Pv
variable {k : Nat} {μ : Sto} {Q : PV → Sto → Prop}
theorem dr_split {l w rest : List Nat} {a : Nat} (e : l.drop a = w ++ rest) (ha : a ≤ l.length) : ∃ pre, l = pre ++ w ++ rest ∧ pre.length = a :=
  ⟨l.take a, by rw [List.append_assoc, ← e, List.take_append_drop], by rw [List.length_take]; omega⟩
theorem dr_le {l t : List Nat} {a c : Nat} (e : l.drop a = c :: t) : a + 1 ≤ l.length := by
  have := congrArg List.length e
  rw [List.length_drop, List.length_cons] at this
  omega
theorem dr_next {l w rest : List Nat} {a : Nat} (e : l.drop a = w ++ rest) : l.drop (a + w.length) = rest := by
  rw [← List.drop_drop, e, List.drop_left]
theorem dr_one {l t : List Nat} {a c : Nat} (e : l.drop a = c :: t) : l.drop (a + 1) = t := dr_next (w := [c]) e
theorem one_S {l t : List Nat} {a c : Nat} {i j : Int} (e : l.drop a = c :: t) (hl : l.length ≤ 1000000) (hi : i = a) (hj : j = ((a + 1 : Nat) : Int)) : slP (.str (S l)) (some i) (some j) μ = some (.str (S [c]), μ) := by
  rw [hi, hj, sl_S (by omega), e]
  congr 5
  rw [Nat.add_sub_cancel_left]
  rfl
theorem end_at {l w rest : List Nat} {a : Nat} {i : Int} {z : Str} (hi : i = a) (h : 1 ≤ k) (hl : l.length ≤ 1000000) (ha : a ≤ l.length) (e : l.drop a = w ++ rest) (hw : ∀ c ∈ w, inS z c = true) (hr : ∀ c r, rest = c :: r → inS z c = false)
    (q : Q (.int ((a + w.length : Nat) : Int)) μ) : W (runT T k 24 [.str (S l), .int i, .str z] μ) Q := by
  obtain ⟨pre, rfl, rfl⟩ := dr_split e ha
  rw [hi]
  exact end_of_ok h hl hw hr q
theorem int_at {l rest : List Nat} {a d : Nat} {i : Int} (hi : i = a) (h : 2 ≤ k) (hl : l.length ≤ 1000000) (e : l.drop a = (48 + d) :: rest) (hd : d < 10) (hr : Stp rest)
    (q : Q (.tup [.int d, .int ((a + 1 : Nat) : Int)]) μ) : W (runT T k 25 [.str (S l), .int i] μ) Q := by
  have := dr_le e
  obtain ⟨pre, rfl, rfl⟩ := dr_split (w := [48 + d]) e (by omega)
  rw [hi]
  exact int_from_ok h hl hd hr q
theorem pair_at {l rest : List Nat} {a d c : Nat} {b : Bool} {i : Int} (hi : i = a) (h : 3 ≤ k) (hl : l.length ≤ 1000000) (e : l.drop a = (if b then 43 else 45) :: (48 + d) :: rest) (hd : d < 10) (hr : Stp rest)
    (q : Q (.tup [.tup [.int d, .int (if b then 1 else 0)], .int ((a + 2 : Nat) : Int)]) μ) : W (runT T k 26 [.str (S l), .int i] μ) Q := by
  obtain ⟨k, rfl⟩ := Nat.exists_eq_add_of_le' h
  rw [u26]
  refine W_runF rfl ?_
  show WO (evSs (runT T (k + 2)) b_pair_from [some (.str (S l)), some (.int i), none, none] μ) (fin Q)
  simp only [b_pair_from, s_cons, s_asgW, e_call, es_cons, es_nil, e_var, e_cst, e_bin, o_addI, w_some, List.getElem?_cons_zero, List.getElem?_cons_succ]
  refine int_at (a := a + 1) (by omega) (by omega) hl (dr_one e) hd hr ?_
  have h0 : ixP (.str (S l)) (.int i) μ = some (.str (S [if b then 43 else 45]), μ) := by
    rw [hi]
    refine ix_S ?_ (by omega)
    have := congrArg (fun x => x[0]?) e
    simpa using this
  have q' : Q (.tup [.tup [.int d, .int (if b then 1 else 0)], .int ((a : Int) + 1 + 1)]) μ := q
  cases b
  · simp [h0, sz]
    exact .inl ⟨by decide +kernel, q'⟩
  · simp [h0, sz]
    exact .inr ⟨by decide +kernel, q'⟩
/-- what one thing reads as -/
structure RdI (n : Nat) (o : Int) (p : PV) (w : List Nat) : Prop where
  run : ∀ {k : Nat} {μ : Sto} {Q : PV → Sto → Prop} {l rest : List Nat} {a : Nat} {i : Int}, i = a → n ≤ k → l.length ≤ 1000000 → l.drop a = w ++ rest → Stp rest →
  (∀ μ1, Gw μ μ1 → Q (.tup [p, .int ((a + w.length : Nat) : Int)]) μ1) → W (runT T k 28 [.str (S l), .int i, .int o] μ) Q
theorem dig_sma (d : Nat) (h : d < 10) : inS "abcdefghijklmnopqrstuvwxyz" (48 + d) = false := by
  have : d = 0 ∨ d = 1 ∨ d = 2 ∨ d = 3 ∨ d = 4 ∨ d = 5 ∨ d = 6 ∨ d = 7 ∨ d = 8 ∨ d = 9 := by omega
  rcases this with rfl | rfl | rfl | rfl | rfl | rfl | rfl | rfl | rfl | rfl <;> decide +kernel
theorem dec_s {l : List Nat} {z : Str} {b : Bool} (h : decide (S l = z) = b) : decide (S l = z) = b := h
theorem rd_int {d : Nat} {o : Int} (hd : d < 10) : RdI 3 o (.int d) [48 + d] := by
  refine ⟨?_⟩
  intro k μ Q l rest a i hi h hl e hr q
  obtain ⟨k, rfl⟩ := Nat.exists_eq_add_of_le' h
  have le := dr_le (c := 48 + d) e
  rw [u28]
  refine W_runF rfl ?_
  show WO (evSs (runT T (k + 2)) b_said_from [some (.str (S l)), some (.int i), some (.int o), none, none, none, none] μ) (fin Q)
  have s1 : slP (.str (S l)) (some i) (some (i + 1)) μ = some (.str (S [48 + d]), μ) := one_S (c := 48 + d) e hl hi (by omega)
  have n1 : decide (S [48 + d] = Str.ofString "+") = false := by
    have : d = 0 ∨ d = 1 ∨ d = 2 ∨ d = 3 ∨ d = 4 ∨ d = 5 ∨ d = 6 ∨ d = 7 ∨ d = 8 ∨ d = 9 := by omega
    rcases this with rfl | rfl | rfl | rfl | rfl | rfl | rfl | rfl | rfl | rfl <;> decide +kernel
  have n2 : decide (S [48 + d] = Str.ofString "-") = false := by
    have : d = 0 ∨ d = 1 ∨ d = 2 ∨ d = 3 ∨ d = 4 ∨ d = 5 ∨ d = 6 ∨ d = 7 ∨ d = 8 ∨ d = 9 := by omega
    rcases this with rfl | rfl | rfl | rfl | rfl | rfl | rfl | rfl | rfl | rfl <;> decide +kernel
  have n3 : decide (S [48 + d] = Str.ofString "(") = false := by
    have : d = 0 ∨ d = 1 ∨ d = 2 ∨ d = 3 ∨ d = 4 ∨ d = 5 ∨ d = 6 ∨ d = 7 ∨ d = 8 ∨ d = 9 := by omega
    rcases this with rfl | rfl | rfl | rfl | rfl | rfl | rfl | rfl | rfl | rfl <;> decide +kernel
  simp only [b_said_from, s_cons, s_asgW, s_iffW, e_tup, e_slB, e_bin, e_call, es_cons, es_nil, e_var, e_cst, e_glo, w_some, o_addI, List.getElem?_cons_zero, List.getElem?_cons_succ, PV.int.injEq]
  refine ⟨_, _, rfl, rfl, ?_⟩
  rw [s1, w_some]
  refine end_at (w := []) (rest := (48 + d) :: rest) hi (by omega) hl (by omega) e (fun _ h => absurd h List.not_mem_nil) (fun c r er => by cases er; exact dig_sma d hd) ?_
  refine ⟨by simp [sz], _, rfl, ?_⟩
  have n4 : decide (i < ((a + ([] : List Nat).length : Nat) : Int)) = false := by simp; omega
  simp only [n_nx, s_cons, s_iffW, e_bo, b_cons, b_nil, e_cmp, e_var, e_cst, w_some, List.set_cons_succ, List.set_cons_zero, List.getElem?_cons_zero, List.getElem?_cons_succ, c_eqS, c_neS, c_gt, n1, n2, n3, n4, Option.some.injEq, exists_eq_left', PV.bl.injEq, Bool.false_eq_true, if_false, if_true, s_nil]
  simp only [Bool.not_false, if_true, s_cons, s_retW, e_call, es_cons, es_nil, e_var, w_some, List.getElem?_cons_zero, List.getElem?_cons_succ]
  exact int_at hi (by omega) hl e hd hr (by simpa using q μ .refl)
theorem rd_pair {d : Nat} {o : Int} {b : Bool} (hd : d < 10) : RdI 4 o (.tup [.int d, .int (if b then 1 else 0)]) [if b then 43 else 45, 48 + d] := by
  refine ⟨?_⟩
  intro k μ Q l rest a i hi h hl e hr q
  obtain ⟨k, rfl⟩ := Nat.exists_eq_add_of_le' h
  have le := dr_le (c := if b then 43 else 45) e
  rw [u28]
  refine W_runF rfl ?_
  show WO (evSs (runT T (k + 3)) b_said_from [some (.str (S l)), some (.int i), some (.int o), none, none, none, none] μ) (fin Q)
  have s1 : slP (.str (S l)) (some i) (some (i + 1)) μ = some (.str (S [if b then 43 else 45]), μ) := one_S (c := if b then 43 else 45) e hl hi (by omega)
  simp only [b_said_from, s_cons, s_asgW, s_iffW, e_tup, e_slB, e_bin, e_call, es_cons, es_nil, e_var, e_cst, e_glo, w_some, o_addI, List.getElem?_cons_zero, List.getElem?_cons_succ, PV.int.injEq]
  refine ⟨_, _, rfl, rfl, ?_⟩
  rw [s1, w_some]
  refine end_at (w := []) (rest := (if b then 43 else 45) :: (48 + d) :: rest) hi (by omega) hl (by omega) e (fun _ h => absurd h List.not_mem_nil) (fun c r er => by cases er; cases b <;> decide +kernel) ?_
  refine ⟨by simp [sz], _, rfl, ?_⟩
  have fin_ : W (runT T (k + 3) 26 [.str (S l), .int i] μ) Q := pair_at (c := 0) hi (by omega) hl e hd hr (by simpa using q μ .refl)
  cases b
  · have n1 : decide (S [45] = Str.ofString "+") = false := by decide +kernel
    have n2 : decide (S [45] = Str.ofString "-") = true := by decide +kernel
    simp only [n_nx, s_cons, s_iffW, e_bo, b_cons, b_nil, e_cmp, e_var, e_cst, w_some, List.set_cons_succ, List.set_cons_zero, List.getElem?_cons_zero, List.getElem?_cons_succ, c_eqS, c_neS, c_gt, n1, n2, Option.some.injEq, exists_eq_left', PV.bl.injEq, Bool.false_eq_true, if_false, if_true, s_nil, s_retW, e_call, es_cons, es_nil]
    simpa using fin_
  · have n1 : decide (S [43] = Str.ofString "+") = true := by decide +kernel
    simp only [n_nx, s_cons, s_iffW, e_bo, b_cons, b_nil, e_cmp, e_var, e_cst, w_some, List.set_cons_succ, List.set_cons_zero, List.getElem?_cons_zero, List.getElem?_cons_succ, c_eqS, c_neS, c_gt, n1, Option.some.injEq, exists_eq_left', PV.bl.injEq, Bool.false_eq_true, if_false, if_true, s_nil, s_retW, e_call, es_cons, es_nil]
    simpa using fin_
end Lw
end

section
set_option Elab.async false
set_option linter.all false
set_option maxRecDepth 100000
set_option maxHeartbeats 0
namespace Lw
open PySem PySem.Spec L2 Pv
variable {k : Nat} {μ : Sto} {Q : PV → Sto → Prop}
structure RdG (p : PV) (vs : List PV) : Prop where
  run : ∀ {k : Nat} {μ : Sto} {Q : PV → Sto → Prop} {n : Nat}, 1 ≤ k → μ[n]? = some (.lst vs) → (∀ μ1, Gw μ μ1 → Q p μ1) → W (runT T k 27 [.loc n] μ) Q
def tail_ (its : List (PV × List Nat)) : List Nat := its.flatMap fun i => 32 :: i.2
theorem tail_cons (i : PV × List Nat) (r : List (PV × List Nat)) : tail_ (i :: r) = 32 :: (i.2 ++ tail_ r) := by simp [tail_]
theorem stp_tail (its : List (PV × List Nat)) (rest : List Nat) : Stp (tail_ its ++ 41 :: rest) := fun c r e => by
  cases its with
  | nil => cases e; exact .inr rfl
  | cons i t => rw [tail_cons] at e; cases e; exact .inl rfl
structure WI (l w0 rest : List Nat) (its : List (PV × List Nat)) (i o : Int) (sg : PV) (μ0 : Sto) (n : Nat) (m : Nat) (ρ : Env') (μ : Sto) : Prop where
  ex : ∃ (done todo : List (PV × List Nat)) (e : Nat) (th : Option PV), its = done ++ todo ∧ ρ = [some (.str (S l)), some (.int i), some (.int o), some (.int (e : Nat)), some (.loc n), some sg, th] ∧ μ[n]? = some (.lst (.str (S w0) :: done.map (·.1))) ∧ l.drop e = tail_ todo ++ 41 :: rest ∧ m = todo.length
  gw : Gw μ0 μ
theorem rd_br {N : Nat} {o : Int} {p : PV} {w0 : List Nat} {its : List (PV × List Nat)} (hN : 1 ≤ N) (ho : o ≠ 30) (hw : ∀ c ∈ w0, inS "abcdefghijklmnopqrstuvwxyz" c = true) (hi0 : its ≠ []) (hil : its.length ≤ 1000) (hi : ∀ x ∈ its, RdI N (o + 1) x.1 x.2) (hg : RdG p (.str (S w0) :: its.map (·.1))) :
    RdI (N + 1) o p (40 :: (w0 ++ tail_ its ++ [41])) := by
  refine ⟨?_⟩
  intro k μ Q l rest a i hia h hl e hr q
  obtain ⟨k, rfl⟩ : ∃ k', k = k' + 1 := ⟨k - 1, by omega⟩
  have le := dr_le (c := 40) e
  rw [u28]
  refine W_runF rfl ?_
  show WO (evSs (runT T k) b_said_from [some (.str (S l)), some (.int i), some (.int o), none, none, none, none] μ) (fin Q)
  have s1 : slP (.str (S l)) (some i) (some (i + 1)) μ = some (.str (S [40]), μ) := one_S (c := 40) e hl hia (by omega)
  simp only [b_said_from, s_cons, s_asgW, s_iffW, e_tup, e_slB, e_bin, e_call, es_cons, es_nil, e_var, e_cst, e_glo, w_some, o_addI, List.getElem?_cons_zero, List.getElem?_cons_succ, PV.int.injEq]
  refine ⟨_, _, rfl, rfl, ?_⟩
  rw [s1, w_some]
  refine end_at (w := []) (rest := 40 :: (w0 ++ tail_ its ++ [41]) ++ rest) hia (by omega) hl (by omega) e (fun _ h => absurd h List.not_mem_nil) (fun c r er => by cases er; decide +kernel) ?_
  refine ⟨by simp [sz], _, rfl, ?_⟩
  have n1 : decide (S [40] = Str.ofString "+") = false := by decide +kernel
  have n2 : decide (S [40] = Str.ofString "-") = false := by decide +kernel
  have n3 : decide (S [40] = Str.ofString "(") = true := by decide +kernel
  have n4 : decide (i < ((a + ([] : List Nat).length : Nat) : Int)) = false := by simp; omega
  have n5 : decide (o = (30 : Int)) = false := by simp [ho]
  simp only [n_nx, s_cons, s_iffW, e_bo, b_cons, b_nil, e_cmp, e_var, e_cst, e_glo, w_some, List.set_cons_succ, List.set_cons_zero, List.getElem?_cons_zero, List.getElem?_cons_succ, c_eqS, c_neS, c_eqI, c_gt, n1, n2, n3, n4, n5, Option.some.injEq, exists_eq_left', PV.bl.injEq, Bool.not_true, Bool.false_eq_true, if_false, if_true, s_nil, s_asgW, e_call, es_cons, es_nil, e_bin, o_addI]
  have e1 : l.drop (a + 1) = w0 ++ (tail_ its ++ 41 :: rest) := by rw [dr_one (c := 40) e]; simp
  refine end_at (a := a + 1) (by omega) (by omega) hl (by omega) e1 hw (fun c r er => stp_sma (stp_tail its rest) c r er) ?_
  have e2 := dr_next e1
  refine ⟨_, bt_nm, ?_⟩
  simp only [n_nx, s_cons, s_asgW, e_lst, es_cons, es_nil, e_slB, e_bin, e_var, e_cst, w_some, o_addI, List.set_cons_succ, List.set_cons_zero, List.getElem?_cons_zero, List.getElem?_cons_succ, PV.int.injEq]
  refine ⟨_, _, rfl, rfl, ?_⟩
  have s2 : slP (.str (S l)) (some (i + 1)) (some ((a + 1 + w0.length : Nat) : Int)) μ = some (.str (S w0), μ) := by
    rw [hia]
    show slP _ (some ((a + 1 : Nat) : Int)) _ _ = _
    rw [sl_S (by omega), e1, Nat.add_sub_cancel_left, List.take_left]
  rw [s2, w_some]
  refine ⟨by simp [sz], _, bt_nm, ?_⟩
  simp only [n_nx, s_cons, List.set_cons_succ, List.set_cons_zero]
  rw [s_whW]
  refine WO_while (WI l w0 rest its i o (.str (S [40])) μ μ.length) ?_ (m := its.length) ⟨⟨[], its, a + 1 + w0.length, none, rfl, rfl, by simp, e2, rfl⟩, .new⟩ (by unfold fuelW; omega)
  rintro m ρ μ1 ⟨⟨dn, td, f, th, rfl, rfl, hc, ef, rfl⟩, gw⟩
  rw [W_test]
  simp only [e_cmp, e_slB, e_bin, e_var, e_cst, w_some, o_addI, List.getElem?_cons_zero, List.getElem?_cons_succ, PV.int.injEq]
  refine ⟨_, _, rfl, rfl, ?_⟩
  cases td with
  | nil =>
    have ef : l.drop f = 41 :: rest := by simpa [tail_] using ef
    have s3 : ∀ {μ}, slP (.str (S l)) (some (f : Int)) (some ((f : Int) + 1)) μ = some (.str (S [41]), μ) := one_S ef hl rfl (by omega)
    have n6 : decide (S [41] = Str.ofString " ") = false := by decide +kernel
    have n7 : decide (S [41] = Str.ofString ")") = true := by decide +kernel
    rw [List.append_nil] at hg hi0
    have n8 : decide (((PV.str (S w0) :: dn.map fun x => x.1).length : Int) < 2) = false := by
      cases dn with
      | nil => exact absurd rfl hi0
      | cons d dn => simp; omega
    rw [s3]
    simp only [w_some, c_eqS, n6, Option.some.injEq, exists_eq_left', PV.bl.injEq, Bool.false_eq_true, if_false, n_nx, s_cons, s_iffW, e_bo, b_cons, b_nil, e_cmp, e_slB, e_bin, e_var, e_cst, o_addI, List.getElem?_cons_zero, List.getElem?_cons_succ, PV.int.injEq]
    refine ⟨_, _, rfl, rfl, ?_⟩
    rw [s3]
    simp only [w_some, c_neS, n7, Bool.not_true, Option.some.injEq, exists_eq_left', PV.bl.injEq, Bool.false_eq_true, if_false, if_true, e_cmp, e_bi, es_cons, es_nil, e_var, e_cst, List.getElem?_cons_zero, List.getElem?_cons_succ, bi_lenL hc, c_lt, n8, s_nil, n_nx, s_cons, s_retW, e_tup, e_call, e_bin, o_addI]
    refine hg.run (by omega) hc fun μ2 g2 => ⟨by simp [sz], ?_⟩
    have z := q μ2 (gw.trans g2)
    have le2 := dr_le ef
    have l1 := congrArg List.length e
    have l2 := congrArg List.length ef
    rw [List.length_drop, List.length_append] at l1
    rw [List.length_drop, List.length_cons] at l2
    have hf : ((a + (40 :: (w0 ++ tail_ (dn ++ []) ++ [41])).length : Nat) : Int) = (f : Int) + 1 := by omega
    rw [hf] at z
    exact z
  | cons it td =>
    rw [tail_cons] at ef
    have s3 : ∀ {μ}, slP (.str (S l)) (some (f : Int)) (some ((f : Int) + 1)) μ = some (.str (S [32]), μ) := one_S ef hl rfl (by omega)
    have n6 : decide (S [32] = Str.ofString " ") = true := by decide +kernel
    rw [s3]
    simp only [w_some, c_eqS, n6, Option.some.injEq, exists_eq_left', PV.bl.injEq, if_true]
    refine ⟨td.length, rfl, ?_⟩
    simp only [s_cons, s_asgW, e_call, es_cons, es_nil, e_bin, e_var, e_cst, w_some, o_addI, List.getElem?_cons_zero, List.getElem?_cons_succ]
    have e3 : l.drop (f + 1) = it.2 ++ (tail_ td ++ 41 :: rest) := by rw [dr_one (c := 32) ef]; simp
    refine (hi it (by simp)).run (a := f + 1) (by omega) (by omega) hl e3 (stp_tail td rest) fun μ2 g2 => ?_
    have hc2 := g2.at_ hc
    have e4 := dr_next e3
    simp only [bt_tp, bts_cons, bts_nil, Option.some.injEq, exists_eq_left', n_nx, s_cons, s_exW, e_me, e_var, w_some, es_cons, es_nil, List.set_cons_succ, List.set_cons_zero, List.getElem?_cons_zero, List.getElem?_cons_succ, rc_app hc2, true_and, s_nil]
    rw [me_app hc2 (by simp at hil ⊢; omega), w_some]
    refine ⟨⟨dn ++ [it], td, f + 1 + it.2.length, _, by simp, rfl, ?_, e4, rfl⟩, gw_put (gw.trans g2) (Nat.le_refl _)⟩
    rw [put_at hc2]
    simp
end Lw
end

section
set_option Elab.async false
set_option linter.all false
set_option maxRecDepth 100000
set_option maxHeartbeats 0
namespace Lw
open PySem PySem.Spec L2 Pv
variable {k : Nat} {μ : Sto} {Q : PV → Sto → Prop}
def cd (x : Str) : List Nat := x.cps.toList
@[simp] theorem S_cd (x : Str) : S (cd x) = x := by
  show (⟨x.cps.toList.toArray⟩ : Str) = x
  rw [Array.toArray_toList]
def md (p : Int × Int) : List Nat := [if decide (p.2 = 1) then 43 else 45, 48 + p.1.toNat]
def itM (m : Mt) : List (PV × List Nat) := m.map fun p => (pairP p, md p)
def dg (i : Int) : PV × List Nat := (.int i, [48 + i.toNat])
def br (w : Str) (its : List (PV × List Nat)) : List Nat := 40 :: (cd w ++ tail_ its ++ [41])
def wA : At → Str
  | .emp _ _ => "empty"
  | .atm _ _ _ => "atoms"
  | .smo _ _ => "smooth"
def itA : At → List (PV × List Nat)
  | .emp l m => dg l :: itM (decM m)
  | .atm l c m => dg l :: dg c :: itM (decM m)
  | .smo l m => dg l :: itM (decM m)
def itT (f : Tr → List Nat) : Tr → Str × List (PV × List Nat)
  | .at_ a => (wA a, itA a)
  | .nt s => ("not", [(enc s, f s)])
  | .bo e a b => (wb e, [(enc a, f a), (enc b, f b)])
  | .qu e n s => (wq e, [dg n, (enc s, f s)])
def tx : Tr → List Nat
  | .at_ a => br (wA a) (itA a)
  | .nt s => br "not" [(enc s, tx s)]
  | .bo e a b => br (wb e) [(enc a, tx a), (enc b, tx b)]
  | .qu e n s => br (wq e) [dg n, (enc s, tx s)]
theorem rdg_in {w : Str} {r : List PV} (hw : w = "not" ∨ w = "both" ∨ w = "either" ∨ w = "some" ∨ w = "every") : RdG (.tup (.str w :: r)) (.str w :: r) := by
  refine ⟨?_⟩
  intro k μ Q n h hc q
  obtain ⟨k, rfl⟩ := Nat.exists_eq_add_of_le' h
  rw [u27]
  refine W_runF rfl ?_
  rcases hw with rfl | rfl | rfl | rfl | rfl <;> simp [ix_L hc, bi_tupL hc] <;> exact q _ .refl
theorem itM_fst (m : Mt) : (itM m).map (·.1) = m.map pairP := by
  rw [itM, List.map_map]
  rfl
theorem rdg_at (a : At) (ms : Mt) (hm : a.m = encM ms) : RdG (encA a) (.str (wA a) :: (itA a).map (·.1)) := by
  refine ⟨?_⟩
  intro k μ Q n h hc q
  obtain ⟨k, rfl⟩ := Nat.exists_eq_add_of_le' h
  rw [u27]
  refine W_runF rfl ?_
  cases a with
  | emp l m =>
    cases hm
    rw [wA, itA, List.map_cons, itM_fst, show decM (.tup (ms.map pairP)) = ms from dec_enc ms] at hc
    simp [ix_L hc, sl_L hc]
    rw [sl_L (Gw.new.at_ hc)]
    simp [sz, dg]
    rw [bi_tupL (xs := ms.map pairP) (by simp), w_some]
    exact q _ gw_two
  | atm l c m =>
    cases hm
    rw [wA, itA, List.map_cons, List.map_cons, itM_fst, show decM (.tup (ms.map pairP)) = ms from dec_enc ms] at hc
    simp [ix_L hc, sl_L hc]
    rw [sl_L (Gw.new.at_ hc)]
    have c3 : ∀ xs : List PV, cutP xs (some 3) none = xs.drop 3 := fun xs => cut_from xs 3
    simp [sz, c3, dg]
    rw [bi_tupL (xs := ms.map pairP) (by simp), w_some]
    exact q _ gw_two
  | smo l m =>
    cases hm
    rw [wA, itA, List.map_cons, itM_fst, show decM (.tup (ms.map pairP)) = ms from dec_enc ms] at hc
    simp [ix_L hc, sl_L hc]
    rw [sl_L (Gw.new.at_ hc)]
    simp [sz, dg]
    rw [bi_tupL (xs := ms.map pairP) (by simp), w_some]
    exact q _ gw_two
theorem rd_dg {i : Int} {o : Int} (h : 0 ≤ i ∧ i ≤ 9) : RdI 3 o (dg i).1 (dg i).2 := by
  obtain ⟨d, rfl⟩ := Int.eq_ofNat_of_zero_le h.1
  exact rd_int (d := d) (by omega)
theorem rd_md {p : Int × Int} {o : Int} (h : inR p = true) : RdI 4 o (pairP p) (md p) := by
  simp only [inR, Bool.and_eq_true, decide_eq_true_eq] at h
  obtain ⟨x, b⟩ := p
  obtain ⟨d, rfl⟩ := Int.eq_ofNat_of_zero_le h.1.1
  have hd : d < 10 := by have := h.1.2; simp at this; omega
  have hb : b = 0 ∨ b = 1 := by have := h.2; simp at this; omega
  rcases hb with rfl | rfl
  · exact @rd_pair d o false hd
  · exact @rd_pair d o true hd
theorem RdI.up {a b : Nat} {o : Int} {p : PV} {w : List Nat} (h : RdI a o p w) (e : a ≤ b) : RdI b o p w := ⟨fun hi hk hl he hr q => h.run hi (Nat.le_trans e hk) hl he hr q⟩
theorem rd_itM {m : Mt} {o : Int} (h : okM m = true) : ∀ x ∈ itM m, RdI 4 o x.1 x.2 := fun x hx => by
  obtain ⟨p, hp, rfl⟩ := List.mem_map.mp hx
  rw [okM, Bool.and_eq_true] at h
  exact rd_md (List.all_eq_true.mp h.1 p hp)
theorem cd_sma {w : Str} (h : (cd w).all (inS "abcdefghijklmnopqrstuvwxyz") = true) : ∀ c ∈ cd w, inS "abcdefghijklmnopqrstuvwxyz" c = true := List.all_eq_true.mp h
theorem rd_tr : ∀ (t : Tr), WF t → Sm t → ∀ (o : Int), 0 ≤ o → o + nodes t ≤ 30 → RdI (nodes t + 4) o (enc t) (tx t)
  | .at_ a, hw, hs, o, h0, h1 => by
    obtain ⟨hl, ms, hm, ok⟩ := hw
    have hlen : ms.length ≤ 3 := okM_len ok
    have hd : decM a.m = ms := by rw [hm, dec_enc]
    have hp : ∀ x ∈ itM ms, RdI 4 (o + 1) x.1 x.2 := rd_itM ok
    have g := rdg_at a ms hm
    refine @rd_br 4 o (encA a) (cd (wA a)) (itA a) (by omega) (by simp [nodes] at h1; omega) ?_ ?_ ?_ ?_ (by rw [S_cd]; exact g)
    · cases a <;> simp only [wA] <;> exact cd_sma (by decide +kernel)
    · cases a <;> simp [itA]
    · cases a <;> (simp only [At.m] at hd; simp [itA, hd, itM]; omega)
    · cases a with
      | emp l m =>
        simp only [At.m] at hd
        simp only [itA, hd, List.mem_cons]
        rintro x (rfl | hx)
        · exact (rd_dg ⟨hl, by have : l ≤ 2 := hs; omega⟩).up (by omega)
        · exact hp x hx
      | atm l c m =>
        simp only [At.m] at hd
        simp only [itA, hd, List.mem_cons]
        have hs' : l ≤ 2 ∧ c ≤ 4 := hs
        have hl' : 0 ≤ l ∧ 0 < c := hl
        rintro x (rfl | rfl | hx)
        · exact (rd_dg (by omega)).up (by omega)
        · exact (rd_dg (by omega)).up (by omega)
        · exact hp x hx
      | smo l m =>
        simp only [At.m] at hd
        simp only [itA, hd, List.mem_cons]
        rintro x (rfl | hx)
        · exact (rd_dg ⟨hl, by have : l ≤ 2 := hs; omega⟩).up (by omega)
        · exact hp x hx
  | .nt s, hw, hs, o, h0, h1 => by
    have z := rd_tr s hw hs (o + 1) (by omega) (by simp [nodes] at h1; omega)
    refine @rd_br (nodes s + 4) o (enc (.nt s)) (cd "not") [(enc s, tx s)] (by omega) (by simp [nodes] at h1; omega) (cd_sma (by decide +kernel)) (by simp) (by simp) ?_ (by rw [S_cd]; exact rdg_in (by simp))
    intro x hx
    rw [List.mem_singleton.mp hx]
    exact z
  | .bo e a b, hw, hs, o, h0, h1 => by
    have n1 : nodes (.bo e a b) = nodes a + nodes b + 1 := rfl
    rw [n1] at h1 ⊢
    have z := (rd_tr a hw.1 hs.1 (o + 1) (by omega) (by omega)).up (show nodes a + 4 ≤ nodes a + nodes b + 4 by omega)
    have z2 := (rd_tr b hw.2 hs.2 (o + 1) (by omega) (by omega)).up (show nodes b + 4 ≤ nodes a + nodes b + 4 by omega)
    refine @rd_br (nodes a + nodes b + 4) o (enc (.bo e a b)) (cd (wb e)) [(enc a, tx a), (enc b, tx b)] (by omega) (by omega) (by cases e <;> exact cd_sma (by decide +kernel)) (by simp) (by simp) ?_ (by rw [S_cd]; exact rdg_in (by cases e <;> simp [wb]))
    intro x hx
    rcases List.mem_cons.mp hx with rfl | hx
    · exact z
    · rw [List.mem_singleton.mp hx]
      exact z2
  | .qu e n s, hw, hs, o, h0, h1 => by
    have n1 : nodes (.qu e n s) = nodes s + 1 := rfl
    rw [n1] at h1 ⊢
    have z := rd_tr s hw.2 hs (o + 1) (by omega) (by omega)
    refine @rd_br (nodes s + 4) o (enc (.qu e n s)) (cd (wq e)) [dg n, (enc s, tx s)] (by omega) (by omega) (by cases e <;> exact cd_sma (by decide +kernel)) (by simp) (by simp) ?_ (by rw [S_cd]; exact rdg_in (by cases e <;> simp [wq]))
    intro x hx
    rcases List.mem_cons.mp hx with rfl | hx
    · exact (rd_dg (by have := hw.1; omega)).up (by omega)
    · rw [List.mem_singleton.mp hx]
      exact z
end Lw
end

section
set_option Elab.async false
set_option linter.all false
set_option maxRecDepth 100000
set_option maxHeartbeats 0
namespace Lw
open PySem PySem.Spec L2 Pv
variable {k : Nat} {μ : Sto} {Q : PV → Sto → Prop}
theorem check_text_ok {c : Nat} {l : List Nat} (h : 1 ≤ k) (q : Q .non μ) : W (runT T k 23 [.str (S (c :: l))] μ) Q := by
  obtain ⟨k, rfl⟩ := Nat.exists_eq_add_of_le' h
  rw [u23]
  refine W_runF rfl ?_
  have n0 : decide (S (c :: l) = Str.ofString "") = false := by
    have e : Str.ofString "" = S [] := by decide +kernel
    rw [e]
    simp
  show WO (evSs (runT T k) b_check_text [some (.str (S (c :: l)))] μ) (fin Q)
  simp only [b_check_text, s_cons, s_iffW, e_bo, b_cons, b_nil, e_nt, e_isi, e_cmp, e_var, e_cst, w_some, List.getElem?_cons_zero, ty_str_str, c_eqS, n0, Option.some.injEq, exists_eq_left', PV.bl.injEq, Bool.not_true, Bool.false_eq_true, if_false, if_true, s_nil, n_nx, f_nx]
  exact q
theorem tx_cons (t : Tr) : ∃ l, tx t = 40 :: l := by cases t <;> exact ⟨_, rfl⟩
theorem said_in_ok {t : Tr} (h : nodes t + 5 ≤ k) (hw : WF t) (hs : Sm t) (hn : nodes t ≤ 30) (hl : (tx t).length ≤ 1000000) (q : ∀ μ1, Gw μ μ1 → Q (enc t) μ1) : W (runT T k 29 [.str (S (tx t))] μ) Q := by
  obtain ⟨k, rfl⟩ : ∃ k', k = k' + 1 := ⟨k - 1, by omega⟩
  rw [u29]
  refine W_runF rfl ?_
  show WO (evSs (runT T k) b_said_in [some (.str (S (tx t))), none, none] μ) (fin Q)
  simp only [b_said_in, s_cons, s_exW, e_call, es_cons, es_nil, e_var, w_some, List.getElem?_cons_zero]
  obtain ⟨l, el⟩ := tx_cons t
  have np := nodes_pos t
  have ck : ∀ {Q : PV → Sto → Prop}, Q .non μ → W (runT T k 23 [.str (S (tx t))] μ) Q := fun q => by
    rw [el]
    exact check_text_ok (by omega) q
  refine ck ?_
  simp only [n_nx, s_cons, s_asgW, e_call, es_cons, es_nil, e_var, e_cst, w_some, List.getElem?_cons_zero]
  refine (rd_tr t hw hs 0 (by omega) (by omega)).run (a := 0) (rest := []) rfl (by omega) hl (by simp) (fun c r e => by cases e) fun μ1 g1 => ?_
  simp only [bt_tp, bts_cons, bts_nil, Option.some.injEq, exists_eq_left', n_nx, s_cons, s_iffW, e_cmp, e_bi, es_cons, es_nil, e_var, w_some, List.set_cons_succ, List.set_cons_zero, List.getElem?_cons_zero, List.getElem?_cons_succ]
  rw [len_S (by omega)]
  have e0 : decide (((0 + (tx t).length : Nat) : Int) = ((tx t).length : Int)) = true := by simp
  simp only [w_some, c_neI, e0, Bool.not_true, Option.some.injEq, exists_eq_left', PV.bl.injEq, Bool.false_eq_true, if_false, s_nil, n_nx, s_cons, s_retW, e_var, List.getElem?_cons_zero, List.getElem?_cons_succ]
  exact q _ g1
theorem read_ok {t : Tr} (h : nodes t + 8 ≤ k) (hw : WF t) (hs : Sm t) (hn : nodes t ≤ 30) (hl : (tx t).length ≤ 1000000) (q : ∀ μ1, Gw μ μ1 → Q (enc t) μ1) : W (runT T k 30 [.str (S (tx t))] μ) Q := by
  obtain ⟨k, rfl⟩ : ∃ k', k = k' + 1 := ⟨k - 1, by omega⟩
  rw [u30]
  refine W_runF rfl ?_
  show WO (evSs (runT T k) b_read_saying [some (.str (S (tx t))), none] μ) (fin Q)
  simp only [b_read_saying, s_cons, s_asgW, e_call, es_cons, es_nil, e_var, w_some, List.getElem?_cons_zero]
  refine said_in_ok (by omega) hw hs hn hl fun μ1 g1 => ?_
  simp
  refine is_saying_ok (by omega) (al_of hw) (by omega) fun μ2 g2 => ?_
  simp
  exact q _ (g1.trans g2)
end Lw
end

section
set_option Elab.async false
set_option linter.all false
set_option maxRecDepth 100000
set_option maxHeartbeats 0
namespace Lw
open PySem PySem.Spec L2 Pv
variable {k : Nat} {μ : Sto} {Q : PV → Sto → Prop}
theorem show_meet_ok {m : Mt} (h : 1 ≤ k) (hm : okM m = true) (q : ∀ n μ1, Gw μ μ1 → μ1[n]? = some (.lst (m.map fun p => .str (S (md p)))) → Q (.loc n) μ1) : W (runT T k 21 [encM m] μ) Q := by
  obtain ⟨k, rfl⟩ := Nat.exists_eq_add_of_le' h
  rw [u21]
  refine W_runF rfl ?_
  have hl := okM_len hm
  simp [encM]
  refine ⟨_, _, ⟨rfl, rfl⟩, ?_⟩
  refine W_lcT pairP (fun p => some (.str (S (md p)))) rfl (fun p hp μ1 g1 => ?_) (by simp only [List.length_nil]; omega) fun μ1 g1 => ?_
  · rw [okM, Bool.and_eq_true] at hm
    have hr := List.all_eq_true.mp hm.1 p hp
    simp only [inR, Bool.and_eq_true, decide_eq_true_eq] at hr
    obtain ⟨x, b⟩ := p
    obtain ⟨d, rfl⟩ := Int.eq_ofNat_of_zero_le hr.1.1
    have hd : d < 10 := by have := hr.1.2; simp at this; omega
    simp [pairP, str_digit d hd]
    have em : Str.ofString "-" = S [45] := by decide +kernel
    have ep : Str.ofString "+" = S [43] := by decide +kernel
    by_cases hb : b = 1
    · refine .inr ⟨hb, by rw [ep, sz, S_len]; decide, ?_, .refl⟩
      rw [ep, S_app, S_eq, md, hb]
      rfl
    · refine .inl ⟨hb, by rw [em, sz, S_len]; decide, ?_, .refl⟩
      rw [em, S_app, S_eq, md, decide_eq_false hb]
      rfl
  · rw [fm_some]
    simp
    refine q _ _ (g1.trans .new) (by simp)
end Lw
end

section
set_option Elab.async false
set_option linter.all false
set_option maxRecDepth 100000
set_option maxHeartbeats 0
namespace Lw
open PySem PySem.Spec L2 Pv
variable {k : Nat} {μ : Sto} {Q : PV → Sto → Prop}
theorem asStrs_map : ∀ ws : List Str, asStrs (ws.map PV.str) = some ws
  | [] => rfl
  | w :: ws => by simp only [List.map_cons, asStrs, asStrs_map ws, Option.map_some]
/-- the pieces behind the word, joined by blanks -/
theorem join_S : ∀ (its : List (PV × List Nat)) (w : List Nat), Str.join (S [32]) (S w :: its.map fun i => S i.2) = S (w ++ tail_ its)
  | [], w => by simp [Str.join, tail_]
  | i :: r, w => by
    rw [List.map_cons, Str.join, join_S r i.2, tail_cons]
    · simp
    · simp
theorem sp_S : Str.ofString " " = S [32] := by decide +kernel
theorem br_S (w : Str) (its : List (PV × List Nat)) : Str.ofString "(" ++ Str.join (S [32]) (w :: its.map fun i => S i.2) ++ Str.ofString ")" = S (br w its) := by
  have e1 : Str.ofString "(" = S [40] := by decide +kernel
  have e2 : Str.ofString ")" = S [41] := by decide +kernel
  have := join_S its (cd w)
  rw [S_cd] at this
  rw [this, e1, e2, S_app, S_app]
  simp [br]
theorem lenS_sum (its : List (PV × List Nat)) : ((its.map fun i => S i.2).map (·.length)).sum + its.length = (tail_ its).length := by
  induction its with
  | nil => rfl
  | cons i r ih =>
    rw [tail_cons, List.map_cons, List.map_cons, List.sum_cons, List.length_cons, List.length_cons, List.length_append, S_len]
    omega
theorem join_me {n : Nat} {w : Str} {its : List (PV × List Nat)} (hc : μ[n]? = some (.lst (.str w :: its.map fun i => .str (S i.2)))) (hl : (br w its).length ≤ 1000000) : meP .join (.str (Str.ofString " ")) [.loc n] μ = some (.str (Str.join (S [32]) (w :: its.map fun i => S i.2)), μ) := by
  have e : (PV.str w :: its.map fun i => PV.str (S i.2)) = (w :: its.map fun i => S i.2).map .str := by
    rw [List.map_cons, List.map_map]
    rfl
  have h1 := lenS_sum its
  have h2 : (br w its).length = 1 + ((cd w).length + (tail_ its).length + 1) := by simp [br]; omega
  have h3 : w.length = (cd w).length := by rw [← S_len (cd w), S_cd]
  rw [sp_S]
  simp only [meP, cellL, hc]
  rw [e, asStrs_map]
  dsimp only
  rw [if_pos]
  rw [List.map_cons, List.sum_cons, List.length_cons, S_len, List.length_map]
  simp only [List.length_cons, List.length_nil]
  omega
end Lw
end

section
set_option Elab.async false
set_option linter.all false
set_option maxRecDepth 100000
set_option maxHeartbeats 0
namespace Lw
open PySem PySem.Spec L2 Pv
variable {k : Nat} {μ : Sto} {Q : PV → Sto → Prop}
theorem tail_len (its : List (PV × List Nat)) : (tail_ its).length = (its.map fun i => i.2.length + 1).sum := by
  induction its with
  | nil => rfl
  | cons i r ih => rw [tail_cons, List.length_cons, List.length_append, ih, List.map_cons, List.sum_cons]; omega
theorem br_len (w : Str) (its : List (PV × List Nat)) : (br w its).length = 2 + (cd w).length + (its.map fun i => i.2.length + 1).sum := by
  simp [br, tail_len]; omega
theorem itM_len (m : Mt) : ((itM m).map fun i => i.2.length + 1).sum = 3 * m.length := by
  induction m with
  | nil => rfl
  | cons p m ih =>
    have e : itM (p :: m) = (pairP p, md p) :: itM m := rfl
    rw [e, List.map_cons, List.sum_cons, ih, List.length_cons]
    simp [md]
    omega
theorem wA_len (a : At) : (cd (wA a)).length ≤ 6 := by cases a <;> simp only [wA] <;> decide +kernel
theorem wb_len (e : Bool) : (cd (wb e)).length ≤ 6 := by cases e <;> simp only [wb] <;> decide +kernel
theorem wq_len (e : Bool) : (cd (wq e)).length ≤ 6 := by cases e <;> simp only [wq] <;> decide +kernel
theorem not_len : (cd "not").length ≤ 6 := by decide +kernel
theorem tx_len : ∀ {t : Tr}, WF t → (tx t).length ≤ 30 * nodes t
  | .at_ a, ⟨_, ms, hm, ok⟩ => by
    have hlen : ms.length ≤ 3 := okM_len ok
    have hd : decM a.m = ms := by rw [hm, dec_enc]
    have := wA_len a
    have hz := itM_len ms
    rw [tx, br_len]
    cases a <;> simp only [At.m] at hd <;> simp only [itA, hd, dg, List.map_cons, List.sum_cons, nodes, hz, List.length_cons, List.length_nil] <;> omega
  | .nt s, h => by
    have ih := tx_len (t := s) h
    have := not_len
    rw [tx, br_len]
    simp only [List.map_cons, List.map_nil, List.sum_cons, List.sum_nil, nodes]
    omega
  | .bo e a b, h => by
    have ih := tx_len (t := a) h.1
    have ih2 := tx_len (t := b) h.2
    have := wb_len e
    rw [tx, br_len]
    simp only [List.map_cons, List.map_nil, List.sum_cons, List.sum_nil, nodes]
    omega
  | .qu e n s, h => by
    have ih := tx_len (t := s) h.2
    have := wq_len e
    rw [tx, br_len]
    simp only [dg, List.map_cons, List.map_nil, List.sum_cons, List.sum_nil, nodes, List.length_cons, List.length_nil]
    omega
theorem nf_emp : ((Str.ofString "empty") : Str) = "empty" := rfl
/-- the end: the pieces are joined, in brackets -/
theorem show_fin {n : Nat} {w : Str} {its : List (PV × List Nat)} (hc : μ[n]? = some (.lst (.str w :: its.map fun i => .str (S i.2)))) (hl : (br w its).length ≤ 1000000) (q : Q (.str (S (br w its))) μ) :
    recvB Me.join (PV.str (Str.ofString " ")) μ = true ∧
      W (meP Me.join (PV.str (Str.ofString " ")) [.loc n] μ) fun y μ2 =>
        W (binP Operator.Add (PV.str (Str.ofString "(")) y μ2) fun x μ1 =>
          W (binP Operator.Add x (PV.str (Str.ofString ")")) μ1) fun x μ1 => Q x μ1 := by
  have e1 : Str.ofString "(" = S [40] := by decide +kernel
  have e2 : Str.ofString ")" = S [41] := by decide +kernel
  have j := join_S its (cd w)
  rw [S_cd] at j
  have hb := br_len w its
  have ht := tail_len its
  refine ⟨rfl, ?_⟩
  rw [join_me hc hl, w_some, e1, e2, j, o_addS, S_len, S_len]
  refine ⟨by rw [sz]; simp only [List.length_append, List.length_cons, List.length_nil]; omega, ?_⟩
  rw [S_app, o_addS, S_len, S_len]
  refine ⟨by rw [sz]; simp only [List.length_append, List.length_cons, List.length_nil]; omega, ?_⟩
  rw [S_app]
  have e : [40] ++ (cd w ++ tail_ its) ++ [41] = br w its := by simp [br]
  rw [e]
  exact q
theorem show_mid {ds : List Int} {ms : Mt} {w : Str} {o : PV} (hk : 1 ≤ k) (hd : ∀ d ∈ ds, 0 ≤ d ∧ d ≤ 9) (hdl : ds.length ≤ 10) (hm : okM ms = true) (hl : (br w (ds.map dg ++ itM ms)).length ≤ 1000000) (q : ∀ μ1, Gw μ μ1 → Q (.str (S (br w (ds.map dg ++ itM ms)))) μ1) :
      W (lcE []
          (turnL (Tg.nm 2) [2] (evB (runT T k) true Es.nil)
            (evE (runT T k) (E.bi Bi.str (Es.cons (E.var 2) Es.nil)))
            [some o, some (PV.loc (List.length μ)), none])
          (ds.map .int) [] (μ ++ [MO.lst [PV.str w]]))
        fun acc μ4 =>
        W (binP Operator.Add (PV.loc (List.length μ)) (PV.loc (List.length μ4)) (μ4 ++ [MO.lst acc])) fun x μ1 =>
          W (runT T k 21 [encM ms] μ1) fun y μ2 =>
            W (binP Operator.Add x y μ2) fun x μ1 =>
              recvB Me.join (PV.str (Str.ofString " ")) μ1 = true ∧
                W (meP Me.join (PV.str (Str.ofString " ")) [x] μ1) fun y μ2 =>
                  W (binP Operator.Add (PV.str (Str.ofString "(")) y μ2) fun x μ1 =>
                    W (binP Operator.Add x (PV.str (Str.ofString ")")) μ1) fun x μ1 => Q x μ1 := by
  have hlen := okM_len hm
  refine W_lcT PV.int (fun d => some (.str (S (dg d).2))) rfl (fun d hd' μ1 g1 => ?_) (by simp only [List.length_nil]; omega) fun μ1 g1 => ?_
  · have h9 := hd d hd'
    obtain ⟨c, rfl⟩ := Int.eq_ofNat_of_zero_le h9.1
    have hc : c < 10 := by omega
    simp [str_digit c hc, dg]
    exact .refl
  · rw [fm_some, List.nil_append]
    rw [o_addL ((Gw.trans g1 .new).at_ at_new) at_new]
    refine ⟨by rw [sz, List.length_map, List.length_singleton]; omega, ?_⟩
    refine show_meet_ok hk hm fun n μ2 g2 hn => ?_
    rw [o_addL (g2.at_ at_new) hn]
    refine ⟨by rw [sz]; simp; omega, ?_⟩
    refine show_fin (its := ds.map dg ++ itM ms) (w := w) ?_ hl (q _ ?_)
    · rw [at_new]
      simp [itM]
      rfl
    · exact Gw.new.trans (g1.trans (Gw.new.trans (Gw.new.trans (g2.trans .new))))
end Lw
end

section
set_option Elab.async false
set_option linter.all false
set_option maxRecDepth 100000
set_option maxHeartbeats 0
namespace Lw
open PySem PySem.Spec L2 Pv
variable {k : Nat} {μ : Sto} {Q : PV → Sto → Prop}
theorem show_at {a : At} (h : 3 ≤ k) (hw : WF (.at_ a)) (hs : Sm (.at_ a)) (q : ∀ μ1, Gw μ μ1 → Q (.str (S (tx (.at_ a)))) μ1) : W (runT T k 22 [enc (.at_ a)] μ) Q := by
  obtain ⟨k, rfl⟩ := Nat.exists_eq_add_of_le' h
  rw [u22]
  refine W_runF rfl ?_
  have hl := tx_len hw
  obtain ⟨hlv, ms, hm, ok⟩ := hw
  have hlen : ms.length ≤ 3 := okM_len ok
  have hd : decM a.m = ms := by rw [hm, dec_enc]
  cases a with
  | emp l m =>
    obtain rfl : m = encM ms := hm
    have h0 : (0 : Int) ≤ l := hlv
    have h2 : l ≤ 2 := hs
    simp [enc, encA, sz, b_show_saying]
    refine ⟨_, _, ⟨rfl, rfl⟩, ?_⟩
    have et : tx (.at_ (.emp l (encM ms))) = br "empty" ([l].map dg ++ itM ms) := by
      rw [tx, itA, dec_enc]; rfl
    rw [et] at hl q
    exact show_mid (ds := [l]) (by omega) (by simp; omega) (by simp) ok (by simp only [nodes] at hl; omega) q
  | atm l c m =>
    obtain rfl : m = encM ms := hm
    have h0 : (0 : Int) ≤ l ∧ 0 < c := hlv
    have h2 : l ≤ 2 ∧ c ≤ 4 := hs
    simp [enc, encA, sz, b_show_saying]
    refine ⟨_, _, ⟨rfl, rfl⟩, ?_⟩
    have et : tx (.at_ (.atm l c (encM ms))) = br "atoms" ([l, c].map dg ++ itM ms) := by
      rw [tx, itA, dec_enc]; rfl
    rw [et] at hl q
    exact show_mid (ds := [l, c]) (by omega) (by simp; omega) (by simp) ok (by simp only [nodes] at hl; omega) q
  | smo l m =>
    obtain rfl : m = encM ms := hm
    have h0 : (0 : Int) ≤ l := hlv
    have h2 : l ≤ 2 := hs
    simp [enc, encA, sz, b_show_saying]
    refine ⟨_, _, ⟨rfl, rfl⟩, ?_⟩
    have et : tx (.at_ (.smo l (encM ms))) = br "smooth" ([l].map dg ++ itM ms) := by
      rw [tx, itA, dec_enc]; rfl
    rw [et] at hl q
    exact show_mid (ds := [l]) (by omega) (by simp; omega) (by simp) ok (by simp only [nodes] at hl; omega) q
/-- what a thing within is shown as -/
structure Sh (N : Nat) (i : PV × List Nat) : Prop where
  run : ∀ {k : Nat} {μ : Sto} {QT' : Option PV → Sto → Prop} {ρ : Env'} {o : PV} {n : Nat} {y : Option PV}, N ≤ k → ρ = [some o, some (.loc n), y] → (∀ μ1, Gw μ μ1 → QT' (some (.str (S i.2))) μ1) →
    W (turnL (Tg.nm 2) [2] (evB (runT T k) true Es.nil) (evE (runT T k) (E.ite (E.call 0 (Es.cons (E.var 2) Es.nil)) (E.bi Bi.str (Es.cons (E.var 2) Es.nil)) (E.call 22 (Es.cons (E.var 2) Es.nil)))) ρ i.1 μ) QT'
theorem sh_dg {i : Int} (h : 0 ≤ i ∧ i ≤ 9) : Sh 1 (dg i) := by
  refine ⟨?_⟩
  rintro k μ QT' ρ o n y hk rfl q
  obtain ⟨c, rfl⟩ := Int.eq_ofNat_of_zero_le h.1
  have hc : c < 10 := by omega
  simp [dg]
  refine is_integer_int (by omega) ?_
  simp [str_digit c hc]
  exact q _ .refl
theorem enc_tup (t : Tr) : ∃ ps, enc t = .tup ps := by
  cases t with
  | at_ a => cases a <;> exact ⟨_, rfl⟩
  | nt s => exact ⟨_, rfl⟩
  | bo e a b => exact ⟨_, rfl⟩
  | qu e n s => exact ⟨_, rfl⟩
theorem sh_in {t : Tr} {N : Nat} (hN : 1 ≤ N) (h : ∀ {k : Nat} {μ : Sto} {Q : PV → Sto → Prop}, N ≤ k → (∀ μ1, Gw μ μ1 → Q (.str (S (tx t))) μ1) → W (runT T k 22 [enc t] μ) Q) : Sh N (enc t, tx t) := by
  refine ⟨?_⟩
  rintro k μ QT' ρ o n y hk rfl q
  obtain ⟨ps, e⟩ := enc_tup t
  have e' : PV.tup ps = enc t := e.symm
  simp
  rw [e]
  refine is_integer_tup (by omega) ?_
  simp
  rw [e']
  exact h hk fun μ1 g1 => q _ g1
theorem show_go {N : Nat} {its : List (PV × List Nat)} {w : Str} {o : PV} {n0 : Nat} {y : Option PV} (hk : N ≤ k) (hi : ∀ i ∈ its, Sh N i) (hil : its.length ≤ 100) (hl : (br w its).length ≤ 1000000) (q : ∀ μ1, Gw μ μ1 → Q (.str (S (br w its))) μ1) :
      W (lcE []
          (turnL (Tg.nm 2) [2] (evB (runT T k) true Es.nil)
            (evE (runT T k) (E.ite (E.call 0 (Es.cons (E.var 2) Es.nil)) (E.bi Bi.str (Es.cons (E.var 2) Es.nil)) (E.call 22 (Es.cons (E.var 2) Es.nil))))
            [some o, some (PV.loc (List.length μ)), none])
          (its.map (·.1)) [] (μ ++ [MO.lst [PV.str w]]))
        fun acc μ4 =>
        W (binP Operator.Add (PV.loc (List.length μ)) (PV.loc (List.length μ4)) (μ4 ++ [MO.lst acc])) fun x μ1 =>
              recvB Me.join (PV.str (Str.ofString " ")) μ1 = true ∧
                W (meP Me.join (PV.str (Str.ofString " ")) [x] μ1) fun y μ2 =>
                  W (binP Operator.Add (PV.str (Str.ofString "(")) y μ2) fun x μ1 =>
                    W (binP Operator.Add x (PV.str (Str.ofString ")")) μ1) fun x μ1 => Q x μ1 := by
  refine W_lcT (fun i : PV × List Nat => i.1) (fun i => some (.str (S i.2))) rfl (fun i hi' μ1 g1 => ?_) (by simp only [List.length_nil]; omega) fun μ1 g1 => ?_
  · exact (hi i hi').run hk rfl fun μ2 g2 => ⟨rfl, g2⟩
  · rw [fm_some, List.nil_append]
    rw [o_addL ((Gw.trans g1 .new).at_ at_new) at_new]
    refine ⟨by rw [sz, List.length_map, List.length_singleton]; omega, ?_⟩
    refine show_fin (its := its) (w := w) ?_ hl (q _ ?_)
    · rw [at_new]
      simp
    · exact Gw.new.trans (g1.trans (Gw.new.trans .new))
theorem show_ok : ∀ (t : Tr) {k : Nat} {μ : Sto} {Q : PV → Sto → Prop}, nodes t + 3 ≤ k → WF t → Sm t → nodes t ≤ 1000 → (∀ μ1, Gw μ μ1 → Q (.str (S (tx t))) μ1) → W (runT T k 22 [enc t] μ) Q
  | .at_ a, k, μ, Q, hk, hw, hs, hn, q => show_at (by omega) hw hs q
  | .nt s, k, μ, Q, hk, hw, hs, hn, q => by
    have hl := tx_len hw
    simp only [nodes] at hk hn
    obtain ⟨k, rfl⟩ : ∃ k', k = k' + 1 := ⟨k - 1, by omega⟩
    rw [u22]
    refine W_runF rfl ?_
    simp [enc, sz, b_show_saying]
    refine ⟨_, _, ⟨rfl, rfl⟩, ?_⟩
    exact show_go (N := nodes s + 3) (its := [(enc s, tx s)]) (w := "not") (n0 := 0) (y := none) (by omega) (fun i hi => by rw [List.mem_singleton.mp hi]; exact sh_in (by omega) fun hk q => show_ok s hk hw hs (by omega) q) (by simp) (by simp only [tx] at hl; simp only [nodes] at hl; omega) q
  | .bo e a b, k, μ, Q, hk, hw, hs, hn, q => by
    have hl := tx_len hw
    simp only [nodes] at hk hn
    obtain ⟨k, rfl⟩ : ∃ k', k = k' + 1 := ⟨k - 1, by omega⟩
    rw [u22]
    refine W_runF rfl ?_
    have fin_ := show_go (k := k) (μ := μ) (Q := Q) (N := nodes a + nodes b + 3) (its := [(enc a, tx a), (enc b, tx b)]) (w := wb e) (o := enc (.bo e a b)) (n0 := 0) (y := none) (by omega) (fun i hi => by
      rcases List.mem_cons.mp hi with rfl | hi
      · exact sh_in (by omega) fun hk q => show_ok a (by omega) hw.1 hs.1 (by omega) q
      · rw [List.mem_singleton.mp hi]
        exact sh_in (by omega) fun hk q => show_ok b (by omega) hw.2 hs.2 (by omega) q) (by simp) (by simp only [tx] at hl; simp only [nodes] at hl; omega) q
    cases e <;> (
      simp [enc, wb, sz, b_show_saying]
      refine ⟨_, _, ⟨rfl, rfl⟩, ?_⟩
      exact fin_)
  | .qu e n s, k, μ, Q, hk, hw, hs, hn, q => by
    have hl := tx_len hw
    simp only [nodes] at hk hn
    obtain ⟨k, rfl⟩ : ∃ k', k = k' + 1 := ⟨k - 1, by omega⟩
    rw [u22]
    refine W_runF rfl ?_
    have fin_ := show_go (k := k) (μ := μ) (Q := Q) (N := nodes s + 3) (its := [dg n, (enc s, tx s)]) (w := wq e) (o := enc (.qu e n s)) (n0 := 0) (y := none) (by omega) (fun i hi => by
      rcases List.mem_cons.mp hi with rfl | hi
      · refine ⟨fun hk e q => (sh_dg (by have := hw.1; omega)).run (by omega) e q⟩
      · rw [List.mem_singleton.mp hi]
        exact sh_in (by omega) fun hk q => show_ok s (by omega) hw.2 hs (by omega) q) (by simp) (by simp only [tx] at hl; simp only [nodes] at hl; omega) q
    cases e <;> (
      simp [enc, wq, sz, b_show_saying]
      refine ⟨_, _, ⟨rfl, rfl⟩, ?_⟩
      exact fin_)
end Lw
end

section
set_option Elab.async false
set_option linter.all false
set_option maxRecDepth 100000
set_option maxHeartbeats 0
namespace Lw
open PySem PySem.Spec L2 Pv
variable {k : Nat} {μ : Sto} {Q : PV → Sto → Prop}
/-- a value that stands alone, its text's length, its depth -/
structure Rp (p : PV) (d : PyData) (L D : Nat) : Prop where
  dt : ∀ f, datW f p = some d
  len : d.shown.length ≤ L
  dep : d.depth ≤ D
  sh : d.showable = true
structure Rps (ps : List PV) (ds : List PyData) (L D : Nat) : Prop where
  dt : ∀ f, datsW f ps = some ds
  len : piled (PyData.shownAll ds) ≤ L
  dep : PyData.depthAll ds ≤ D
  sh : PyData.showableAll ds = true
theorem Rps.nil : Rps [] [] 0 0 := ⟨fun _ => rfl, by simp [PyData.shownAll, piled], by simp [PyData.depthAll], by simp [PyData.showableAll]⟩
theorem Rps.cons {p : PV} {d : PyData} {L D : Nat} {ps : List PV} {ds : List PyData} {L' D' : Nat} (a : Rp p d L D) (b : Rps ps ds L' D') : Rps (p :: ps) (d :: ds) (L + 2 + L') (max D D') :=
  ⟨fun f => by simp only [datsW, a.dt f, b.dt f, Option.map_some], by rw [PyData.shownAll, piled_cons]; have := a.len; have := b.len; omega,
   by rw [PyData.depthAll]; have := a.dep; have := b.dep; omega, by rw [PyData.showableAll, a.sh, b.sh]; rfl⟩
theorem Rps.up {ps : List PV} {ds : List PyData} {L D L' D' : Nat} (a : Rps ps ds L D) (h : L ≤ L') (h' : D ≤ D') : Rps ps ds L' D' := ⟨a.dt, Nat.le_trans a.len h, Nat.le_trans a.dep h', a.sh⟩
theorem Rp.up {ps : PV} {ds : PyData} {L D L' D' : Nat} (a : Rp ps ds L D) (h : L ≤ L') (h' : D ≤ D') : Rp ps ds L' D' := ⟨a.dt, Nat.le_trans a.len h, Nat.le_trans a.dep h', a.sh⟩
theorem tupText_len (ts : List Str) : (tupleText ts).length ≤ piled ts + 3 := by
  unfold tupleText
  rw [strLen_append, strLen_append]
  have e1 : ((("(" : String) : Str)).length = 1 := rfl
  have e3 : (((if ts.length == 1 then ",)" else ")" : String) : Str)).length ≤ 2 := by split <;> decide
  rw [e1]
  by_cases h : ts = []
  · subst h; simp [Str.join]; exact Nat.le_trans (Nat.add_le_add_left e3 _) (by decide)
  · have := join_length_add ts h
    omega
theorem Rp.tup {ps : List PV} {ds : List PyData} {L D : Nat} (a : Rps ps ds L D) : Rp (.tup ps) (.tuple ds) (L + 3) (D + 1) :=
  ⟨fun f => by simp only [datW, a.dt f, Option.map_some], by rw [PyData.shown]; have := tupText_len (PyData.shownAll ds); have := a.len; omega,
   by rw [PyData.depth]; have := a.dep; omega, by rw [PyData.showable]; exact a.sh⟩
theorem Rp.int {d : Nat} (h : d < 10) : Rp (.int d) (.int d) 1 0 := by
  have : d = 0 ∨ d = 1 ∨ d = 2 ∨ d = 3 ∨ d = 4 ∨ d = 5 ∨ d = 6 ∨ d = 7 ∨ d = 8 ∨ d = 9 := by omega
  rcases this with rfl | rfl | rfl | rfl | rfl | rfl | rfl | rfl | rfl | rfl <;> exact ⟨fun _ => rfl, by decide +kernel, by decide +kernel, by decide +kernel⟩
theorem Rp.int' {i : Int} (h : 0 ≤ i ∧ i < 10) : Rp (.int i) (.int i) 1 0 := by
  obtain ⟨d, rfl⟩ := Int.eq_ofNat_of_zero_le h.1
  exact Rp.int (by omega)
theorem Rp.word {x : Str} (h : (decide ((PyData.str x).shown.length ≤ 12)) = true) : Rp (.str x) (.str x) 12 0 :=
  ⟨fun _ => rfl, of_decide_eq_true h, by rw [PyData.depth]; exact Nat.le_refl _, by rw [PyData.showable]⟩
theorem rp_pair {p : Int × Int} (h : inR p = true) : Rp (pairP p) (.tuple [.int p.1, .int p.2]) 9 1 := by
  simp only [inR, Bool.and_eq_true, decide_eq_true_eq] at h
  have a := Rp.int' (i := p.1) (by omega)
  have b := Rp.int' (i := p.2) (by omega)
  exact (Rp.tup (.cons a (.cons b .nil))).up (by omega) (by omega)
theorem rp_pairs : ∀ {m : Mt}, m.all inR = true → ∃ ds, Rps (m.map pairP) ds (11 * m.length) 1
  | [], _ => ⟨_, Rps.nil.up (by omega) (by omega)⟩
  | p :: m, h => by
    rw [List.all_cons, Bool.and_eq_true] at h
    obtain ⟨ds, hd⟩ := rp_pairs h.2
    exact ⟨_, (Rps.cons (rp_pair h.1) hd).up (by rw [List.length_cons]; omega) (by omega)⟩
theorem rp_m {m : Mt} (h : okM m = true) : ∃ d, Rp (encM m) d 36 2 := by
  have hl := okM_len h
  rw [okM, Bool.and_eq_true] at h
  obtain ⟨ds, hd⟩ := rp_pairs h.1
  exact ⟨_, (Rp.tup hd).up (by omega) (by omega)⟩
theorem rp_w : Rp (.str "empty") (.str "empty") 12 0 ∧ Rp (.str "atoms") (.str "atoms") 12 0 ∧ Rp (.str "smooth") (.str "smooth") 12 0 ∧ Rp (.str "not") (.str "not") 12 0 :=
  ⟨.word (by decide +kernel), .word (by decide +kernel), .word (by decide +kernel), .word (by decide +kernel)⟩
theorem rp_wb (e : Bool) : Rp (.str (wb e)) (.str (wb e)) 12 0 := by cases e <;> exact .word (by decide +kernel)
theorem rp_wq (e : Bool) : Rp (.str (wq e)) (.str (wq e)) 12 0 := by cases e <;> exact .word (by decide +kernel)
theorem rp_enc : ∀ {t : Tr}, WF t → Sm t → ∃ d, Rp (enc t) d (100 * nodes t) (nodes t + 2)
  | .at_ a, ⟨hl, m, em, hm⟩, hs => by
    obtain ⟨d, hd⟩ := rp_m hm
    cases a with
    | emp l m' =>
      obtain rfl : m' = encM m := em
      have h0 : (0 : Int) ≤ l := hl
      have h1 : l ≤ 2 := hs
      exact ⟨_, (Rp.tup (.cons rp_w.1 (.cons (Rp.int' ⟨h0, by omega⟩) (.cons hd .nil)))).up (by simp only [nodes]; omega) (by simp only [nodes]; omega)⟩
    | atm l c m' =>
      obtain rfl : m' = encM m := em
      have h0 : (0 : Int) ≤ l ∧ 0 < c := hl
      have h1 : l ≤ 2 ∧ c ≤ 4 := hs
      exact ⟨_, (Rp.tup (.cons rp_w.2.1 (.cons (Rp.int' (by omega)) (.cons (Rp.int' (by omega)) (.cons hd .nil))))).up (by simp only [nodes]; omega) (by simp only [nodes]; omega)⟩
    | smo l m' =>
      obtain rfl : m' = encM m := em
      have h0 : (0 : Int) ≤ l := hl
      have h1 : l ≤ 2 := hs
      exact ⟨_, (Rp.tup (.cons rp_w.2.2.1 (.cons (Rp.int' ⟨h0, by omega⟩) (.cons hd .nil)))).up (by simp only [nodes]; omega) (by simp only [nodes]; omega)⟩
  | .nt s, h, hs => by
    obtain ⟨d, hd⟩ := rp_enc (t := s) h hs
    exact ⟨_, (Rp.tup (.cons rp_w.2.2.2 (.cons hd .nil))).up (by simp only [nodes]; omega) (by simp only [nodes]; omega)⟩
  | .bo e a b, h, hs => by
    obtain ⟨d, hd⟩ := rp_enc (t := a) h.1 hs.1
    obtain ⟨d', hd'⟩ := rp_enc (t := b) h.2 hs.2
    exact ⟨_, (Rp.tup (.cons (rp_wb e) (.cons hd (.cons hd' .nil)))).up (by simp only [nodes]; omega) (by simp only [nodes]; omega)⟩
  | .qu e n s, h, hs => by
    obtain ⟨d, hd⟩ := rp_enc (t := s) h.2 hs
    exact ⟨_, (Rp.tup (.cons (rp_wq e) (.cons (Rp.int' (by have := h.1; omega)) (.cons hd .nil)))).up (by simp only [nodes]; omega) (by simp only [nodes]; omega)⟩
/-- the text of a saying is one, wherever it stands -/
theorem repr_ok {t : Tr} (hw : WF t) (hs : Sm t) (hn : nodes t ≤ 50) : ∃ r : Str, ∀ μ, biP .repr [enc t] μ = some (.str r, μ) := by
  obtain ⟨d, hd⟩ := rp_enc hw hs
  refine ⟨d.shown, fun μ => ?_⟩
  have e : dat μ (enc t) = some d := hd.dt _
  have hr : reprF (enc t) = true := by
    cases t with
    | at_ a => cases a <;> rfl
    | nt s => rfl
    | bo e a b => rfl
    | qu e n s => rfl
  simp only [biP, e]
  rw [if_pos ⟨Nat.le_trans hd.len (by rw [sz]; omega), Nat.le_trans hd.dep (by omega), hd.sh, hr⟩]
end Lw
end

section
set_option Elab.async false
set_option linter.all false
set_option maxRecDepth 100000
set_option maxHeartbeats 0
namespace Lw
open PySem PySem.Spec L2 Pv
variable {k : Nat} {μ : Sto} {Q : PV → Sto → Prop}
theorem fours {a b : Nat} (ha : μ[a]? = some (.lst [.bl false, .bl false, .bl false, .bl false])) (hb : μ[b]? = some (.lst [.bl false, .bl false, .bl false, .bl false])) : cmpB .NotEq (.loc a) (.loc b) μ = some false := by
  have ea : dat μ (.loc a) = some (.list [.bool false, .bool false, .bool false, .bool false]) := by
    simp only [dat, datW, locD, cellL, ha, datsW, Option.map_some]
  have eb : dat μ (.loc b) = some (.list [.bool false, .bool false, .bool false, .bool false]) := by
    simp only [dat, datW, locD, cellL, hb, datsW, Option.map_some]
  simp only [cmpB, eqP, ea, eb]
  rw [if_pos (by decide +kernel)]
  decide +kernel
theorem mul4 {a : Nat} {x : PV} (ha : μ[a]? = some (.lst [x])) : binP .Mult (.loc a) (.int 4) μ = some (.loc μ.length, μ ++ [.lst [x, x, x, x]]) := by
  simp only [binP, ha]
  rw [if_pos ⟨by decide, by rw [sz, List.length_singleton]; decide⟩]
  rfl
theorem pt_nodes : ∀ (t s : Tr), s ∈ pt t → nodes s ≤ nodes t
  | .at_ a, s, h => by rw [pt, List.mem_singleton] at h; rw [h]; exact Nat.le_refl _
  | .nt u, s, h => by
    simp only [pt, List.mem_append, List.mem_singleton] at h
    rcases h with h | h
    · have := pt_nodes u s h; simp only [nodes]; omega
    · rw [h]; exact Nat.le_refl _
  | .bo e u v, s, h => by
    simp only [pt, List.mem_append, List.mem_singleton] at h
    rcases h with (h | h) | h
    · have := pt_nodes u s h; simp only [nodes]; omega
    · have := pt_nodes v s h; simp only [nodes]; omega
    · rw [h]; exact Nat.le_refl _
  | .qu e n u, s, h => by
    simp only [pt, List.mem_append, List.mem_singleton] at h
    rcases h with h | h
    · have := pt_nodes u s h; simp only [nodes]; omega
    · rw [h]; exact Nat.le_refl _
theorem wf_pt : ∀ {t : Tr}, WF t → ∀ s ∈ pt t, WF s
  | .at_ a, hw, s, h => by rw [pt, List.mem_singleton] at h; rw [h]; exact hw
  | .nt u, hw, s, h => by
    simp only [pt, List.mem_append, List.mem_singleton] at h
    rcases h with h | h
    · exact wf_pt (t := u) hw s h
    · rw [h]; exact hw
  | .bo e u v, hw, s, h => by
    simp only [pt, List.mem_append, List.mem_singleton] at h
    rcases h with (h | h) | h
    · exact wf_pt (t := u) hw.1 s h
    · exact wf_pt (t := v) hw.2 s h
    · rw [h]; exact hw
  | .qu e n u, hw, s, h => by
    simp only [pt, List.mem_append, List.mem_singleton] at h
    rcases h with h | h
    · exact wf_pt (t := u) hw.2 s h
    · rw [h]; exact hw
theorem bel_sm {x b : Int} : ∀ {t : Tr}, Sm t → Sm (bel x b t)
  | .at_ (.emp _ _), h => h
  | .at_ (.atm _ _ _), h => h
  | .at_ (.smo _ _), h => h
  | .nt s, h => bel_sm (t := s) h
  | .bo _ s t, h => ⟨bel_sm (t := s) h.1, bel_sm (t := t) h.2⟩
  | .qu _ _ s, h => bel_sm (t := s) h
theorem pl_ints {is : List Int} (h : is.length ≤ 1000) : Pl 1 (.tup (is.map .int)) := .tup (by rw [List.length_map]; exact h) fun p hp => by
  obtain ⟨i, _, rfl⟩ := List.mem_map.mp hp
  exact .int _
theorem pl_encs {ts : List Tr} {d : Nat} (h : ts.length ≤ 1000) (ht : ∀ t ∈ ts, Pl d (enc t)) : Pl (d + 1) (.tup (ts.map enc)) := .tup (by rw [List.length_map]; exact h) fun p hp => by
  obtain ⟨i, hi, rfl⟩ := List.mem_map.mp hp
  exact ht i hi
structure RI (n : Nat) (μ0 : Sto) (ρ : Env') (μ : Sto) : Prop where
  ex : ∃ a1 a2 a3 a4 a5 a6 a7 a8 a9 a10 a11 a12 a13, ρ = [some (.loc n), a1, a2, a3, a4, a5, a6, a7, a8, a9, a10, a11, a12, a13]
  gs : Gs n μ0 μ
structure RJ (n ot : Nat) (x : Int) (t : Tr) (μ0 : Sto) (r : List PV) (ρ : Env') (μ : Sto) : Prop where
  ex : ∃ a1 a5 a6 a7 a8 a9 a10 a11 a12 a13, ρ = [some (.loc n), a1, some (.int x), some (.loc ot), some (enc t), a5, a6, a7, a8, a9, a10, a11, a12, a13]
  bs : ∃ bs : List Int, r = bs.map .int ∧ ∀ b ∈ bs, 0 ≤ b ∧ b ≤ 1
  gw : Gw μ0 μ
theorem right_ok {n : Nat} (hk : 61 ≤ k) (hs : Spr n μ) (q : ∀ μ1, Gs n μ μ1 → Q (.bl true) μ1) : W (runT T k 42 [.loc n] μ) Q := by
  obtain ⟨k, rfl⟩ : ∃ k', k = k' + 1 := ⟨k - 1, by omega⟩
  rw [u42]
  refine W_runF rfl ?_
  simp [and_assoc]
  refine WO_for (fun _ ρ μ' => RI n μ ρ μ') ⟨⟨_, _, _, _, _, _, _, _, _, _, _, _, _, rfl⟩, hs.gw .refl⟩ (fun _ _ _ _ => rfl) ?_ ?_
  · rintro v r ρ μ1 ⟨⟨a1, a2, a3, a4, a5, a6, a7, a8, a9, a10, a11, a12, a13, rfl⟩, gs⟩
    refine ⟨_, bt_nm, ?_⟩
    simp
    refine pick_ok (by omega) gs.spr (by omega) fun x μ2 x1 x2 g2 => ?_
    refine ⟨by rw [sz]; omega, _, _, ⟨rfl, rfl⟩, ?_⟩
    rw [show [PV.int 0, PV.int 1, PV.int 2] = ([0, 1, 2] : List Int).map PV.int from rfl]
    refine W_lcT PV.int (fun i => if i = x then none else some (.int i)) rfl (fun i _ μ3 g3 => ?_) (by simp) fun μ3 g3 => ?_
    · by_cases hi : i = x
      · simp [hi]
        exact .refl
      · simp [hi]
        exact .refl
    · have eo : ([] : List PV) ++ ([0, 1, 2] : List Int).filterMap (fun i => if i = x then none else some (PV.int i)) = (([0, 1, 2] : List Int).filter fun i => decide (i ≠ x)).map .int := by
        have : x = 0 ∨ x = 1 ∨ x = 2 := by omega
        rcases this with rfl | rfl | rfl <;> rfl
      rw [eo]
      generalize ho : (([0, 1, 2] : List Int).filter fun i => decide (i ≠ x)) = os
      have os1 : ∀ i ∈ os, (0 ≤ i ∧ i ≤ 2) ∧ i ≠ x := by
        intro i hi
        rw [← ho, List.mem_filter] at hi
        have h1 := hi.1
        simp at h1
        exact ⟨by omega, by simpa using hi.2⟩
      have os2 : os.Pairwise (· < ·) := by
        rw [← ho]
        exact List.Pairwise.filter _ (by decide)
      have os3 : 0 < os.length ∧ os.length < 10 := by
        have : x = 0 ∨ x = 1 ∨ x = 2 := by omega
        rw [← ho]
        rcases this with rfl | rfl | rfl <;> decide
      have gB := (gs.trans g2).trans (g2.spr.gw (g3.trans (Gw.new (x := .lst (os.map .int)))))
      have ln : n < μ3.length := by
        obtain ⟨a, b, e, _⟩ := (g2.spr.gw g3).spr
        exact (List.getElem?_eq_some_iff.mp e).1
      refine pick_ok (by omega) gB.spr (by omega) fun r μ4 r1 r2 g4 => ?_
      have ht4 := g4.keep _ _ (by omega : μ3.length ≠ n) at_new
      refine ⟨_, rfl, ?_⟩
      obtain ⟨rn, rfl⟩ := Int.eq_ofNat_of_zero_le r1
      rw [sl_L ht4, W_some, cut_to, ← List.map_take]
      have gC := gB.trans (g4.trans (g4.spr.gw (Gw.new (x := .lst ((os.take rn).map .int)))))
      refine pick_ok (by omega) gC.spr (by omega) fun s μ5 s1 s2 g5 => ?_
      simp
      obtain ⟨sn, rfl⟩ := Int.eq_ofNat_of_zero_le s1
      rw [show (1 : Int) + (sn : Int) = ((1 + sn : Nat) : Int) from by omega]
      have ln4 : n < μ4.length := by
        obtain ⟨a, b, e, _⟩ := g4.spr
        exact (List.getElem?_eq_some_iff.mp e).1
      have hot : μ5[μ3.length]? = some (.lst (os.map .int)) := g5.keep _ _ (by omega) (Gw.new.at_ ht4)
      refine any_ok (x := x) (os := os) (ns := os.take rn) (n := n) (ot := μ3.length) os1 os3 (by omega) (1 + sn) (by omega) g5.spr ⟨List.Pairwise.sublist (List.take_sublist _ _) os2, fun i hi => os1 i (List.mem_of_mem_take hi)⟩ (g5.keep _ _ (by omega) at_new) (by omega) hot fun t μ6 t1 t2 t3 t4 g6 => ?_
      have gD := (gC.trans g5).trans g6
      have n14 : nodes t ≤ 14 := by omega
      obtain ⟨rp, hrp⟩ := repr_ok t1 t3 (by omega)
      refine ⟨by rw [sz]; omega, _, _, ⟨rfl, rfl⟩, ?_⟩
      refine WO_for (fun r ρ μ' => RJ n μ3.length x t μ6 r ρ μ') ⟨⟨_, _, _, _, _, _, _, _, _, _, rfl⟩, ⟨[0, 1], rfl, by simp⟩, .refl⟩ (fun _ _ _ _ => rfl) ?_ ?_
      · rintro v r ρ μ7 ⟨⟨b1, b5, b6, b7, b8, b9, b10, b11, b12, b13, rfl⟩, ⟨bs, eb, hb⟩, gw⟩
        cases bs with
        | nil => cases eb
        | cons b bs =>
          obtain ⟨rfl, rfl⟩ := List.cons.inj eb
          have hb0 := hb b List.mem_cons_self
          refine ⟨_, bt_nm, ?_⟩
          simp
          refine below_ok t (by omega) t1 fun μ8 g8 => ?_
          rw [hrp, W_some]
          simp [sz]
          have wb := bel_wf (x := x) (b := b) ⟨x1, by omega⟩ hb0 t1 t2
          have nb : nodes (bel x b t) = nodes t := bel_nodes t
          refine lparts_ok t (by omega) (by omega) fun μ9 g9 => ?_
          refine ⟨_, _, rfl, ?_⟩
          refine W_lcT enc (fun s => some (enc (bel x b s))) rfl (fun s hs' μa ga => ?_) (by rw [pt_len]; simp only [List.length_nil]; omega) fun μa ga => ?_
          · simp
            exact below_ok s (by have := pt_nodes t s hs'; omega) (wf_pt t1 s hs') fun μb gb => ⟨rfl, gb⟩
          rw [fm_some, List.nil_append]
          have ea : (pt t).map (fun s => enc (bel x b s)) = (pt (bel x b t)).map enc := by rw [bel_pt, List.map_map]; rfl
          rw [ea]
          refine lfree_ok t (by omega) t1 fun nf μb gb hnf => ?_
          rw [o_addL (Gw.new.at_ hnf) at_new]
          refine ⟨by rw [sz, List.length_map, List.length_singleton]; have := lf_len t1; omega, ?_⟩
          have eL : (lf t).map PV.int ++ [PV.int x] = (lf t ++ [x]).map PV.int := by simp
          rw [eL, srt_new, W_some, tup_new, W_some, ← fr_bel ⟨x1, by omega⟩ hb0 t1 t2]
          refine is_saying_w (by omega) (al_of wb) (by omega) fun μc gc => ?_
          refine free_w (by omega) wb (by omega) fun μd gd => ?_
          refine parts_w (by omega) wb (by omega) fun μe ge => ?_
          refine height_w (by omega) wb (by omega) fun μf gf => ?_
          refine is_plain_w (by omega) wb (by omega) fun μg gg => ?_
          refine lhigh_ok t (by omega) fun μh gh => ?_
          refine lplain_ok (by omega) (by omega) fun μi gi => ?_
          have pe : ∀ u ∈ pt (bel x b t), Pl 20 (enc u) := fun u hu => (pl_enc (wf_pt wb u hu)).up (by have := pt_nodes _ u hu; omega)
          have lpt : (pt (bel x b t)).length = nodes t := by rw [pt_len, nb]
          have lfr : (fr (bel x b t)).length ≤ 3 := fr_len wb
          have pp : ∀ p ∈ [PV.bl true, PV.tup (List.map PV.int (fr (bel x b t))), PV.tup (List.map enc (pt (bel x b t))), PV.int (ht (bel x b t)), PV.bl (pl (bel x b t))], Pl 21 p := by
            intro p hp
            simp only [List.mem_cons, List.not_mem_nil, or_false] at hp
            rcases hp with rfl | rfl | rfl | rfl | rfl
            · exact .bl _
            · exact (pl_ints (by omega)).up (by omega)
            · exact pl_encs (by omega) pe
            · exact .int _
            · exact .bl _
          rw [bel_ht, bel_pl] at pp gh
          refine like_list (d := 21) pp (by simp) ((gh.trans (gi.trans .new)).at_ at_new) at_new (by omega) fun μj gj => ?_
          refine .inr ⟨rfl, .inl ⟨by rw [List.length_map]; omega, ?_⟩⟩
          refine show_ok _ (by omega) wb (bel_sm t3) (by omega) fun μk gk => ?_
          have hl := tx_len wb
          refine read_ok (by omega) wb (bel_sm t3) (by omega) (by omega) fun μl gl => ?_
          refine ⟨_, rfl, ?_⟩
          refine parts_w (by omega) wb (by omega) fun μm gm => ?_
          have pp2 : ∀ p ∈ [enc (bel x b t), PV.tup (List.map enc (pt (bel x b t)))], Pl 21 p := by
            intro p hp
            simp only [List.mem_cons, List.not_mem_nil, or_false] at hp
            rcases hp with rfl | rfl
            · exact (pl_enc wb).up (by omega)
            · exact pl_encs (by omega) pe
          refine like_list (d := 21) pp2 (by simp) (by simp) (by simp) (by omega) fun μn gn => ?_
          refine .inr ⟨rfl, ?_⟩
          rw [hrp, W_some]
          refine .inl ⟨by simp, ?_⟩
          have er : rangeI 4 = ([0, 1, 2, 3] : List Nat).map fun w => PV.int (w : Nat) := rfl
          rw [er]
          refine W_lcT (fun w : Nat => PV.int (w : Nat)) (fun _ => some (.bl false)) rfl (fun w hw' μo go => ?_) (by simp) fun μo go => ?_
          · have w4 : w < 4 := by simp at hw'; omega
            simp
            refine spoil_ok (bel x b t) (by omega) wb w4 fun μp gp => ?_
            refine is_saying_w (by omega) (spl_al (b := 0) ⟨x1, by omega⟩ w4 wb) (by rw [spl_nodes]; omega) fun μq gq => ⟨rfl, gp.trans gq⟩
          · have ef : ([] : List PV) ++ ([0, 1, 2, 3] : List Nat).filterMap (fun _ => some (PV.bl false)) = [.bl false, .bl false, .bl false, .bl false] := rfl
            rw [ef, mul4 (x := .bl false) at_two, W_some]
            refine .inl ⟨fours (by simp) (by simp), ⟨_, _, _, _, _, _, _, _, _, _, rfl⟩, ⟨bs, rfl, fun c hc => hb c (List.mem_cons_of_mem _ hc)⟩, ?_⟩
            exact gw.trans (g8.trans (g9.trans (ga.trans (Gw.new.trans (gb.trans (((Gw.new.trans .new).trans .new).trans (gc.trans (gd.trans (ge.trans (gf.trans (gg.trans (Gw.new.trans (gh.trans (gi.trans (Gw.new.trans (gj.trans (gk.trans (gl.trans (gm.trans (gw_two.trans (gn.trans (go.trans (gw_two.trans .new)))))))))))))))))))))))
      · rintro ρ μ7 ⟨⟨b1, b5, b6, b7, b8, b9, b10, b11, b12, b13, rfl⟩, _, gw⟩
        rw [n_nx, s_nil]
        exact (⟨⟨_, _, _, _, _, _, _, _, _, _, _, _, _, rfl⟩, gD.trans (gD.spr.gw gw)⟩ : RI n μ _ _)
  · rintro ρ μ1 ⟨⟨a1, a2, a3, a4, a5, a6, a7, a8, a9, a10, a11, a12, a13, rfl⟩, gs⟩
    simp
    exact q _ gs
end Lw
end

section
set_option Elab.async false
set_option linter.all false
set_option maxRecDepth 100000
set_option maxHeartbeats 0
namespace Lw
open PySem PySem.Spec L2 Pv
variable {k : Nat} {μ : Sto} {Q : PV → Sto → Prop}
structure LwI (is : List Int) (r : List PV) (ρ : Env') : Prop where
  ex : ∃ a, ρ = [some (.rol (is.map .int)), a]
  rs : ∃ ps : List Int, r = ps.map .int ∧ ∀ p ∈ ps, 0 ≤ p ∧ p ≤ 1
theorem law_ok {is : List Int} (hk : 62 ≤ k) (hl : is.length ≤ 63) (q : ∀ μ1, Q (.bl true) μ1) : W (runT T k 43 [.rol (is.map .int)] μ) Q := by
  obtain ⟨k, rfl⟩ : ∃ k', k = k' + 1 := ⟨k - 1, by omega⟩
  rw [u43]
  refine W_runF rfl ?_
  simp [and_assoc]
  have hc : ∃ ps : List Int, rangeI (if 1 < if (is.length : Int) < 2 then (is.length : Int) else 2 then if (is.length : Int) < 2 then (is.length : Int) else 2 else 1) = ps.map .int ∧ ∀ p ∈ ps, 0 ≤ p ∧ p ≤ 1 := by
    by_cases h2 : (is.length : Int) < 2
    · rw [if_pos h2, if_neg (by omega)]
      exact ⟨[0], rfl, by simp⟩
    · rw [if_neg h2, if_pos (by decide)]
      exact ⟨[0, 1], rfl, by simp⟩
  refine ⟨by split <;> split <;> omega, by split <;> split <;> omega, ?_⟩
  refine WO_for (fun r ρ _ => LwI is r ρ) ⟨⟨_, rfl⟩, hc⟩ (fun _ _ _ _ => rfl) ?_ ?_
  · rintro v r ρ μ1 ⟨⟨a, rfl⟩, ps, eb, hb⟩
    cases ps with
    | nil => cases eb
    | cons p ps =>
      obtain ⟨rfl, rfl⟩ := List.cons.inj eb
      refine ⟨_, bt_nm, ?_⟩
      simp
      refine spring_ok (by omega) (hb p List.mem_cons_self) fun n μ2 _ hs => ?_
      refine right_ok (by omega) hs fun μ3 _ => ?_
      exact .inr ⟨rfl, ⟨_, rfl⟩, ps, rfl, fun c hc => hb c (List.mem_cons_of_mem _ hc)⟩
  · rintro ρ μ1 ⟨⟨a, rfl⟩, _⟩
    simp
    exact q _
theorem done : PySem.Challenge.rw_wholeparts_k29_whole_forms_of_relative_s.Holds := by
  refine holds_of 100 (by decide) fun is hl => ?_
  obtain ⟨p, μ, e, q⟩ := law_ok (k := 101) (μ := []) (Q := fun p _ => p = .bl true) (by decide) hl fun _ => rfl
  exact ⟨μ, by rw [e, q]⟩
end Lw
end
set_option Elab.async false
theorem PySem.Challenge.cw_wholeparts_k29_whole_forms_of_relative_s_holds : PySem.Challenge.rw_wholeparts_k29_whole_forms_of_relative_s.Holds := by
  exact Lw.done
