import PyProof.Rows.All
import PySem.Challenge.RW_howoften_k75_folded_trees_and_names
import HandS.ForMost
import HandS.ForExc
import HandS.Wide
import HandS.Deep
import HandS.Flow
import HandS.Exc
import HandS.Dict
import HandS.Small
import HandS.WordsDict
import KE.DataCmp
import HandS.TupAny
import HandS.Style
import KE.DataMinMax
import KE.SortData
import HandS.RaiseMore
import HandS.Gcd
import PyProof.ReprRoads
import PyProof.ReprBulk
import HandS.ExcInit
import HandS.TryMany
import HandS.ExcField
import KE.KExcSuper
import KE.KSuper
import HandS.Walk
import HandS.Iter
import KE.GoesEnum
import HandS.NoneIn
import HandS.Conv
import HandS.Zip
import HandS.Star
import HandS.IterVal
import KE.LtSeq
import HandS.More
import HandS.DictTup
import PyProof.SumWalkG
import PyProof.ListOps
import HandS.IsInst
import HandS.SetFor
import HandS.Strs
import KE.OsSetLaws
import HandS.SetBool
import HandS.Remove
import HandS.DictComp
import HandS.WideBits
import HandS.ExcIs
import KE.KEqDeep
set_option Elab.async false
set_option linter.all false
set_option maxRecDepth 100000
/-! Values without a heap, and how the abstract heap bears them. -/
namespace Sm
open PySem L2

/-- a result: a value, an exception (its class by name, its datum), or nothing is known -/
inductive Rs (α : Type) where
  | ok (a : α) | exc (c : Str) (d : PyData) | no
def Rs.bind {α β : Type} : Rs α → (α → Rs β) → Rs β
  | .ok a, f => f a
  | .exc c d, _ => .exc c d
  | .no, _ => .no
instance : Monad Rs where
  pure := Rs.ok
  bind := Rs.bind
@[simp] theorem Rs.bind_ok {α β : Type} (a : α) (f : α → Rs β) : (Rs.ok a >>= f) = f a := by
  refine Eq.trans ?_ (Eq.refl _)
  rfl
@[simp] theorem Rs.bind_exc {α β : Type} (c d) (f : α → Rs β) : (Rs.exc c d >>= f) = Rs.exc c d := by
  refine Eq.trans ?_ (Eq.refl _)
  rfl
@[simp] theorem Rs.bind_no {α β : Type} (f : α → Rs β) : ((Rs.no : Rs α) >>= f) = Rs.no := by
  refine Eq.trans ?_ (Eq.refl _)
  rfl
@[simp] theorem Rs.pure_ok {α : Type} (a : α) : (pure a : Rs α) = Rs.ok a := by
  refine Eq.trans ?_ (Eq.refl _)
  rfl

def keyD : Key → PyData
  | .inl i => .int i
  | .inr x => .str x

mutual
/-- the value v reads as d -/
inductive Rp (H : Hp) : V → PyData → Prop
  | non : Rp H .non .none
  | bl (b : Bool) : Rp H (.bl b) (.bool b)
  | int (i : Int) : Rp H (.int i) (.int i)
  | str (x : Str) : x.length ≤ sizeLine → Rp H (.str x) (.str x)
  | lst {a : Addr} {vs : List V} {ds : List PyData} : H a = some (.lst vs) → vs.length ≤ sizeLine → RpAll H vs ds → Rp H (.ref a) (.list ds)
  | tup {a : Addr} {vs : List V} {ds : List PyData} : H a = some (.tup vs) → vs.length ≤ sizeLine → RpAll H vs ds → Rp H (.ref a) (.tuple ds)
  | dik {a : Addr} {ks : List (Key × V)} {kvs : List (PyData × PyData)} : Rd H a (.dK ks) → RpKs H ks kvs → Rp H (.ref a) (.dict kvs)
  | dit {a : Addr} {ks : List (List Key × V)} {kvs : List (PyData × PyData)} : Rd H a (.dT ks) → ks ≠ [] → RpTs H ks kvs → Rp H (.ref a) (.dict kvs)
inductive RpAll (H : Hp) : List V → List PyData → Prop
  | nil : RpAll H [] []
  | cons {v : V} {vs : List V} {d : PyData} {ds : List PyData} : Rp H v d → RpAll H vs ds → RpAll H (v :: vs) (d :: ds)
inductive RpKs (H : Hp) : List (Key × V) → List (PyData × PyData) → Prop
  | nil : RpKs H [] []
  | cons {k : Key} {v : V} {ks : List (Key × V)} {d : PyData} {ds : List (PyData × PyData)} : Rp H v d → RpKs H ks ds → RpKs H ((k, v) :: ks) ((keyD k, d) :: ds)
inductive RpTs (H : Hp) : List (List Key × V) → List (PyData × PyData) → Prop
  | nil : RpTs H [] []
  | cons {k : List Key} {v : V} {ks : List (List Key × V)} {d : PyData} {ds : List (PyData × PyData)} : Rp H v d → RpTs H ks ds → RpTs H ((k, v) :: ks) ((.tuple (k.map keyD), d) :: ds)
end

theorem rd_same {H H' : Hp} (h : Same H H') {a : Addr} {o : HO} (r : Rd H a o) : Rd H' a o := by
  rcases r with r | ⟨u, r⟩
  · exact .inl (h _ _ r)
  · exact .inr ⟨u, h _ _ r⟩
section
variable {H H' : Hp}
theorem Rp.mono (h : Same H H') {v : V} {d : PyData} (r : Rp H v d) : Rp H' v d := by
  refine Rp.rec (H := H) (motive_1 := fun v d _ => Rp H' v d) (motive_2 := fun vs ds _ => RpAll H' vs ds)
    (motive_3 := fun vs ds _ => RpKs H' vs ds) (motive_4 := fun vs ds _ => RpTs H' vs ds)
    .non .bl .int .str (fun a b _ c => .lst (h _ _ a) b c) (fun a b _ c => .tup (h _ _ a) b c)
    (fun a _ c => .dik (rd_same h a) c) (fun a b _ c => .dit (rd_same h a) b c) .nil (fun _ _ a b => .cons a b) .nil (fun _ _ a b => .cons a b) .nil (fun _ _ a b => .cons a b) r
theorem RpAll.mono (h : Same H H') : ∀ {vs : List V} {ds : List PyData}, RpAll H vs ds → RpAll H' vs ds
  | _, _, .nil => .nil
  | _, _, .cons a b => .cons (a.mono h) (RpAll.mono h b)
theorem RpKs.mono (h : Same H H') : ∀ {vs : List (Key × V)} {ds : List (PyData × PyData)}, RpKs H vs ds → RpKs H' vs ds
  | _, _, .nil => .nil
  | _, _, .cons a b => .cons (a.mono h) (RpKs.mono h b)
theorem RpTs.mono (h : Same H H') : ∀ {vs : List (List Key × V)} {ds : List (PyData × PyData)}, RpTs H vs ds → RpTs H' vs ds
  | _, _, .nil => .nil
  | _, _, .cons a b => .cons (a.mono h) (RpTs.mono h b)
theorem RpAll.len : ∀ {vs : List V} {ds : List PyData}, RpAll H vs ds → vs.length = ds.length
  | _, _, .nil => rfl
  | _, _, .cons _ b => by simp [RpAll.len b]
theorem RpAll.get : ∀ {vs : List V} {ds : List PyData} {i : Nat} {d : PyData}, RpAll H vs ds → ds[i]? = some d → ∃ v, vs[i]? = some v ∧ Rp H v d
  | _, _, _, _, .nil, h => by simp at h
  | _, _, 0, _, .cons a _, h => by simp at h; subst h; exact ⟨_, rfl, a⟩
  | _, _, i + 1, _, .cons _ b, h => by simpa using RpAll.get (i := i) b (by simpa using h)
theorem RpAll.get' : ∀ {vs : List V} {ds : List PyData} {i : Nat} {v : V}, RpAll H vs ds → vs[i]? = some v → ∃ d, ds[i]? = some d ∧ Rp H v d
  | _, _, _, _, .nil, h => by simp at h
  | _, _, 0, _, .cons a _, h => by simp at h; subst h; exact ⟨_, rfl, a⟩
  | _, _, i + 1, _, .cons _ b, h => by simpa using RpAll.get' (i := i) b (by simpa using h)
theorem RpAll.app : ∀ {vs : List V} {ds : List PyData} {ws : List V} {es : List PyData}, RpAll H vs ds → RpAll H ws es → RpAll H (vs ++ ws) (ds ++ es)
  | _, _, _, _, .nil, h => h
  | _, _, _, _, .cons a b, h => .cons a (RpAll.app b h)
theorem RpAll.one {v : V} {d : PyData} (r : Rp H v d) : RpAll H [v] [d] := .cons r .nil
theorem RpAll.take : ∀ {vs : List V} {ds : List PyData} (n : Nat), RpAll H vs ds → RpAll H (vs.take n) (ds.take n)
  | _, _, 0, _ => by simp; exact .nil
  | _, _, _ + 1, .nil => by simp; exact .nil
  | _, _, n + 1, .cons a b => .cons a (RpAll.take n b)
theorem RpAll.drop : ∀ {vs : List V} {ds : List PyData} (n : Nat), RpAll H vs ds → RpAll H (vs.drop n) (ds.drop n)
  | _, _, 0, h => h
  | _, _, _ + 1, .nil => .nil
  | _, _, n + 1, .cons _ b => RpAll.drop n b
theorem RpAll.rev {vs : List V} {ds : List PyData} (h : RpAll H vs ds) : RpAll H vs.reverse ds.reverse := by
  induction vs generalizing ds with
  | nil => cases h; exact .nil
  | cons v vs ih =>
    cases h with
    | cons a b => rw [List.reverse_cons, List.reverse_cons]; exact (ih b).app (.one a)
theorem RpAll.set : ∀ {vs : List V} {ds : List PyData} (i : Nat) {v : V} {d : PyData}, RpAll H vs ds → Rp H v d → RpAll H (vs.set i v) (ds.set i d)
  | _, _, _, _, _, .nil, _ => .nil
  | _, _, 0, _, _, .cons _ b, r => .cons r b
  | _, _, i + 1, _, _, .cons a b, r => .cons a (RpAll.set i b r)
theorem RpAll.flat {vs : List V} {ds : List PyData} (h : RpAll H vs ds) : ∀ n : Nat, RpAll H (List.replicate n vs).flatten (List.replicate n ds).flatten
  | 0 => .nil
  | n + 1 => by rw [List.replicate_succ, List.replicate_succ, List.flatten_cons, List.flatten_cons]; exact h.app (RpAll.flat h n)
theorem RpAll.ints : ∀ {vs : List V} {ns : List Int}, RpAll H vs (ns.map .int) → vs = ns.map V.int
  | _, [], .nil => rfl
  | _, n :: ns, h => by
    cases h with
    | cons a b => cases a; simp [RpAll.ints b]
theorem RpAll.bools : ∀ {vs : List V} {ns : List Bool}, RpAll H vs (ns.map .bool) → vs = ns.map V.bl
  | _, [], .nil => rfl
  | _, n :: ns, h => by
    cases h with
    | cons a b => cases a; simp [RpAll.bools b]
theorem rpAll_ints (H : Hp) : ∀ ns : List Int, RpAll H (ns.map V.int) (ns.map .int)
  | [] => .nil
  | n :: ns => .cons (.int n) (rpAll_ints H ns)
end

/-- the heap without what is owned -/
def Hide (A : List Addr) (H : Hp) : Hp := fun a => if a ∈ A then none else H a
theorem hide_in {A : List Addr} {H : Hp} {a : Addr} (h : a ∈ A) : Hide A H a = none := if_pos h
theorem hide_out {A : List Addr} {H : Hp} {a : Addr} (h : a ∉ A) : Hide A H a = H a := if_neg h
theorem hide_le {A : List Addr} {H : Hp} : Same (Hide A H) H := fun a o h => by
  by_cases k : a ∈ A
  · rw [hide_in k] at h; cases h
  · rw [hide_out k] at h; exact h
theorem hide_same {A : List Addr} {H H' : Hp} (s : Same H H') : Same (Hide A H) (Hide A H') := fun a o h => by
  by_cases k : a ∈ A
  · rw [hide_in k] at h; cases h
  · rw [hide_out k] at h ⊢; exact s a o h
theorem hide_sub {A B : List Addr} {H : Hp} (s : ∀ a ∈ B, a ∈ A) : Same (Hide A H) (Hide B H) := fun a o h => by
  by_cases k : a ∈ A
  · rw [hide_in k] at h; cases h
  · rw [hide_out k] at h
    rw [hide_out fun q => k (s a q)]; exact h
/-- a new object is not hidden -/
theorem same_new {H : Hp} {p : Addr} {o : HO} (h : H p = none) : Same H (upd H p o) := fun b x e => by
  rw [upd_ne (ne_of_none e h)]; exact e
/-- what is hidden may change -/
theorem hide_upd {A : List Addr} {H : Hp} {a : Addr} {o : HO} (h : a ∈ A) : Hide A (upd H a o) = Hide A H := by
  funext b
  by_cases k : b ∈ A
  · rw [hide_in k, hide_in k]
  · rw [hide_out k, hide_out k, upd_ne fun e => k (by rw [e]; exact h)]
theorem hide_cons {A : List Addr} {H : Hp} {a : Addr} {o : HO} (h : H a = none) : Same (Hide A H) (Hide (a :: A) (upd H a o)) := fun b x e => by
  by_cases k : b ∈ A
  · rw [hide_in k] at e; cases e
  · rw [hide_out k] at e
    have nb : b ≠ a := ne_of_none e h
    rw [hide_out (by simp [nb, k]), upd_ne nb]; exact e

/-- what an owned thing may be: no tuple -/
abbrev OwO := {o : HO // ∀ vs, o ≠ .tup vs}
/-- an object that its variable alone holds -/
def OwnAt (A : List Addr) (H : Hp) (a : Addr) : PyData → Prop
  | .list ds => ∃ vs, H a = some (.lst vs) ∧ vs.length ≤ sizeLine ∧ RpAll (Hide A H) vs ds
  | .dict kvs => (∃ ks, H a = some (.dK ks) ∧ RpKs (Hide A H) ks kvs) ∨ (∃ ks, H a = some (.dT ks) ∧ ks ≠ [] ∧ RpTs (Hide A H) ks kvs)
  | _ => False
theorem OwnAt.mono {A B : List Addr} {H H' : Hp} {a : Addr} {d : PyData} (s : Same (Hide A H) (Hide B H')) (e : H' a = H a) (h : OwnAt A H a d) : OwnAt B H' a d := by
  cases d with
  | list ds => obtain ⟨vs, h1, h2, h3⟩ := h; exact ⟨vs, e.trans h1, h2, h3.mono s⟩
  | dict kvs =>
    rcases h with ⟨ks, h1, h2⟩ | ⟨ks, h1, h0, h2⟩
    · exact .inl ⟨ks, e.trans h1, h2.mono s⟩
    · exact .inr ⟨ks, e.trans h1, h0, h2.mono s⟩
  | _ => exact h.elim
theorem OwnAt.there {A : List Addr} {H : Hp} {a : Addr} {d : PyData} (h : OwnAt A H a d) : ∃ o : OwO, H a = some o.1 := by
  cases d with
  | list ds => obtain ⟨vs, h1, _⟩ := h; exact ⟨⟨.lst vs, fun _ z => nomatch z⟩, h1⟩
  | dict kvs =>
    rcases h with ⟨ks, h1, h2⟩ | ⟨ks, h1, h2⟩
    · exact ⟨⟨.dK ks, fun _ z => nomatch z⟩, h1⟩
    · exact ⟨⟨.dT ks, fun _ z => nomatch z⟩, h1⟩
  | _ => exact h.elim
/-- .. given up -/
theorem OwnAt.share {A : List Addr} {H H' : Hp} {a : Addr} {d : PyData} (s : Same (Hide A H) H') (e : ∀ o, H a = some o → H' a = some o) (h : OwnAt A H a d) : Rp H' (.ref a) d := by
  cases d with
  | list ds => obtain ⟨vs, h1, h2, h3⟩ := h; exact .lst (e _ h1) h2 (h3.mono s)
  | dict kvs =>
    rcases h with ⟨ks, h1, h2⟩ | ⟨ks, h1, h0, h2⟩
    · exact .dik (.inl (e _ h1)) (h2.mono s)
    · exact .dit (.inl (e _ h1)) h0 (h2.mono s)
  | _ => exact h.elim

/-- what a slot holds -/
inductive Cell where
  | un | sh (d : PyData) | ow (d : PyData) | fz (a : Addr) (ns : List Int)
abbrev Rho := List Cell

/-- a list of ints that nobody writes (the script) -/
def Fz (K : W.Frag) (H : Hp) (a : Addr) (ns : List Int) : Prop := (∃ o, H a = some (.frz o (.lst (ns.map V.int)))) ∨ ∀ H' : Hp, SqL K H' a (ns.map V.int)
theorem Fz.seq {K : W.Frag} {H : Hp} {a : Addr} {ns : List Int} (h : Fz K H a ns) : SqL K H a (ns.map V.int) := by
  rcases h with ⟨o, h⟩ | h
  · exact .inl (.inr ⟨o, h⟩)
  · exact h H
theorem Fz.mono {K : W.Frag} {H H' : Hp} {a : Addr} {ns : List Int} (h : Fz K H a ns) (s : ∀ b o u, H b = some (.frz o u) → H' b = some (.frz o u)) : Fz K H' a ns := by
  rcases h with ⟨o, h⟩ | h
  · exact .inl ⟨o, s _ _ _ h⟩
  · exact .inr h
theorem OwnAt.nofz {A : List Addr} {H : Hp} {a : Addr} {d : PyData} {o : HO} (h : OwnAt A H a d) : ∀ b ob u, H b = some (.frz ob u) → upd H a o b = some (.frz ob u) := by
  intro b ob u e
  have ne : b ≠ a := by
    rintro rfl
    cases d with
    | list ds => obtain ⟨vs, h1, _⟩ := h; rw [h1] at e; cases e
    | dict kvs =>
      rcases h with ⟨ks, h1, _⟩ | ⟨ks, h1, _⟩
      · rw [h1] at e; cases e
      · rw [h1] at e; cases e
    | _ => exact h.elim
  rw [upd_ne ne]; exact e
structure StA (K : W.Frag) (A0 A : List Addr) (ρ : Rho) (σ : St) (H : Hp) : Prop where
  len : ρ.length = σ.length
  dom : ∀ a ∈ A, ∃ o : OwO, H a = some o.1
  sub : ∀ a ∈ A0, a ∈ A
  sh : ∀ (i : Nat) (d : PyData), ρ[i]? = some (.sh d) → ∃ v, σ[i]? = some (some v) ∧ Rp (Hide A H) v d
  ow : ∀ (i : Nat) (d : PyData), ρ[i]? = some (.ow d) → ∃ a, σ[i]? = some (some (.ref a)) ∧ a ∈ A ∧ a ∉ A0 ∧ OwnAt A H a d
  fz : ∀ (i : Nat) (a : Addr) (ns : List Int), ρ[i]? = some (.fz a ns) → σ[i]? = some (some (.ref a)) ∧ Fz K H a ns
  inj : ∀ (i j : Nat) (d e : PyData), ρ[i]? = some (.ow d) → ρ[j]? = some (.ow e) → σ[i]? = σ[j]? → i = j

section
variable {K : W.Frag} {A0 A : List Addr} {ρ : Rho} {σ : St} {H H' : Hp}
theorem StA.mono (s : StA K A0 A ρ σ H) (h : Same H H') : StA K A0 A ρ σ H' where
  fz := fun i a ns e => ⟨(s.fz i a ns e).1, (s.fz i a ns e).2.mono fun b o u q => h _ _ q⟩
  len := s.len
  dom := fun a m => by obtain ⟨o, e⟩ := s.dom a m; exact ⟨o, h _ _ e⟩
  sub := s.sub
  sh := fun i d e => by obtain ⟨v, h1, h2⟩ := s.sh i d e; exact ⟨v, h1, h2.mono (hide_same h)⟩
  ow := fun i d e => by
    obtain ⟨a, h1, h2, h3, h4⟩ := s.ow i d e
    obtain ⟨o, eo⟩ := s.dom a h2
    exact ⟨a, h1, h2, h3, h4.mono (hide_same h) ((h _ _ eo).trans eo.symm)⟩
  inj := s.inj
end

/-- a value as an expression gives it: keep: nothing owned is reached; else it may be an owned object itself -/
def Vw (A : List Addr) (H : Hp) (keep : Bool) (v : V) (d : PyData) : Prop :=
  Rp (Hide A H) v d ∨ (keep = false ∧ ∃ a, a ∈ A ∧ v = .ref a ∧ OwnAt A H a d)
/-- a list or dict that was made just now, H the heap ahead -/
def Fresh (A : List Addr) (H H' : Hp) (v : V) : PyData → Prop
  | .list ds => ∃ a, v = .ref a ∧ H a = none ∧ OwnAt (a :: A) H' a (.list ds)
  | .dict ds => ∃ a, v = .ref a ∧ H a = none ∧ OwnAt (a :: A) H' a (.dict ds)
  | _ => True
def Res (A : List Addr) (keep fr : Bool) (H H' : Hp) (v : V) (d : PyData) : Prop :=
  Vw A H' keep v d ∧ (fr = true → Fresh A H H' v d)

section
variable {A : List Addr} {H H' : Hp} {keep : Bool} {v : V} {d : PyData}
theorem Vw.rp (h : Vw A H keep v d) : Rp H v d := by
  rcases h with h | ⟨_, a, _, rfl, h⟩
  · exact h.mono hide_le
  · exact OwnAt.share hide_le (fun _ e => e) h
theorem Vw.kept (h : Vw A H true v d) : Rp (Hide A H) v d := by
  rcases h with h | ⟨e, _⟩
  · exact h
  · cases e
theorem Vw.ofKeep (h : Rp (Hide A H) v d) : Vw A H keep v d := .inl h
theorem Vw.mono (h : Vw A H keep v d) (s : Same H H') : Vw A H' keep v d := by
  rcases h with h | ⟨e, a, m, rfl, h⟩
  · exact .inl (h.mono (hide_same s))
  · obtain ⟨o, eo⟩ := OwnAt.there h
    exact .inr ⟨e, a, m, rfl, OwnAt.mono (hide_same s) ((s _ _ eo).trans eo.symm) h⟩
theorem Vw.int {i : Int} (h : Vw A H keep v (.int i)) : v = .int i := by
  rcases h with h | ⟨_, a, _, _, h⟩
  · cases h; rfl
  · exact h.elim
theorem Vw.bool {b : Bool} (h : Vw A H keep v (.bool b)) : v = .bl b := by
  rcases h with h | ⟨_, a, _, _, h⟩
  · cases h; rfl
  · exact h.elim
theorem Vw.str {x : Str} (h : Vw A H keep v (.str x)) : v = .str x ∧ x.length ≤ sizeLine := by
  rcases h with h | ⟨_, a, _, _, h⟩
  · cases h with
    | str _ z => exact ⟨rfl, z⟩
  · exact h.elim
theorem Vw.non (h : Vw A H keep v .none) : v = .non := by
  rcases h with h | ⟨_, a, _, _, h⟩
  · cases h; rfl
  · exact h.elim
theorem Vw.non_iff (h : Vw A H keep v d) : (v = .non) ↔ d = .none := by
  rcases h with h | ⟨_, a, _, rfl, h⟩
  · cases h <;> simp
  · constructor
    · intro e; cases e
    · intro e; subst e; exact h.elim
theorem Vw.list {ds : List PyData} (h : Vw A H keep v (.list ds)) : ∃ a vs, v = .ref a ∧ H a = some (.lst vs) ∧ vs.length ≤ sizeLine ∧ RpAll (Hide A H) vs ds := by
  rcases h with h | ⟨_, a, _, rfl, h⟩
  · cases h with
    | lst h1 h2 h3 => exact ⟨_, _, rfl, hide_le _ _ h1, h2, h3⟩
  · obtain ⟨vs, h1, h2, h3⟩ := h
    exact ⟨a, vs, rfl, h1, h2, h3⟩
theorem Vw.tuple {ds : List PyData} (h : Vw A H keep v (.tuple ds)) : ∃ a vs, v = .ref a ∧ H a = some (.tup vs) ∧ vs.length ≤ sizeLine ∧ RpAll (Hide A H) vs ds := by
  rcases h with h | ⟨_, a, _, rfl, h⟩
  · cases h with
    | tup h1 h2 h3 => exact ⟨_, _, rfl, hide_le _ _ h1, h2, h3⟩
  · exact h.elim
theorem Vw.tup_kept {ds : List PyData} (h : Vw A H keep v (.tuple ds)) : Rp (Hide A H) v (.tuple ds) := by
  rcases h with h | ⟨_, a, _, rfl, h⟩
  · exact h
  · exact h.elim
theorem Vw.dict {ds : List (PyData × PyData)} (h : Vw A H keep v (.dict ds)) : ∃ a, v = .ref a ∧ ((∃ ks, Rd H a (.dK ks) ∧ RpKs (Hide A H) ks ds) ∨ (∃ ks, Rd H a (.dT ks) ∧ ks ≠ [] ∧ RpTs (Hide A H) ks ds)) := by
  rcases h with h | ⟨_, a, _, rfl, h⟩
  · cases h with
    | dik h1 h2 => exact ⟨_, rfl, .inl ⟨_, rd_same hide_le h1, h2⟩⟩
    | dit h1 h0 h2 => exact ⟨_, rfl, .inr ⟨_, rd_same hide_le h1, h0, h2⟩⟩
  · rcases h with ⟨ks, h1, h2⟩ | ⟨ks, h1, h0, h2⟩
    · exact ⟨a, rfl, .inl ⟨ks, .inl h1, h2⟩⟩
    · exact ⟨a, rfl, .inr ⟨ks, .inl h1, h0, h2⟩⟩
theorem Res.vw {fr : Bool} (h : Res A keep fr H H' v d) : Vw A H' keep v d := h.1
/-- a scalar -/
theorem Res.flat {fr : Bool} {H0 : Hp} (h : Rp (Hide A H') v d) (n : ∀ ds, d ≠ .list ds) (n' : ∀ ds, d ≠ .dict ds) : Res A keep fr H0 H' v d :=
  ⟨.inl h, fun _ => by cases d <;> first | exact True.intro | exact absurd rfl (n _) | exact absurd rfl (n' _)⟩
theorem Res.ofKeep {H0 : Hp} (h : Rp (Hide A H') v d) : Res A keep false H0 H' v d := ⟨.inl h, fun e => nomatch e⟩
theorem freshUp {H0 : Hp} (s : Same H0 H) (h : Fresh A H H' v d) : Fresh A H0 H' v d := by
  cases d with
  | list ds => obtain ⟨a, h1, h2, h3⟩ := h; exact ⟨a, h1, s.free h2, h3⟩
  | dict ds => obtain ⟨a, h1, h2, h3⟩ := h; exact ⟨a, h1, s.free h2, h3⟩
  | _ => exact True.intro
/-- a new list -/
theorem Res.newL {fr : Bool} {p : Addr} {vs : List V} {ds : List PyData} (dom : ∀ a ∈ A, ∃ o : OwO, H a = some o.1) (h : RpAll (Hide A H) vs ds) (z : vs.length ≤ sizeLine) (np : H p = none) {H0 : Hp} (s : Same H0 H) :
    Res A keep fr H0 (upd H p (.lst vs)) (.ref p) (.list ds) := by
  have hp : p ∉ A := fun m => by obtain ⟨o, e⟩ := dom p m; rw [np] at e; cases e
  refine ⟨.inl (.lst ?_ z (h.mono (hide_same (same_new np)))), fun _ => ⟨p, rfl, s.free np, vs, upd_same, z, h.mono (hide_cons np)⟩⟩
  rw [hide_out hp, upd_same]
theorem Res.newT {fr : Bool} {p : Addr} {vs : List V} {ds : List PyData} (dom : ∀ a ∈ A, ∃ o : OwO, H a = some o.1) (h : RpAll (Hide A H) vs ds) (z : vs.length ≤ sizeLine) (np : H p = none) {H0 : Hp} :
    Res A keep fr H0 (upd H p (.tup vs)) (.ref p) (.tuple ds) := by
  have hp : p ∉ A := fun m => by obtain ⟨o, e⟩ := dom p m; rw [np] at e; cases e
  refine ⟨.inl (.tup ?_ z (h.mono (hide_same (same_new np)))), fun _ => True.intro⟩
  rw [hide_out hp, upd_same]
end

mutual
theorem Rp.dp (K : W.Frag) {H : Hp} : ∀ (d : PyData) (v : V), Rp H v d → d.hasDict = false → Dp K H v d
  | .none, _, h, _ => by cases h; exact .non
  | .bool b, _, h, _ => by cases h; exact .bl b
  | .int i, _, h, _ => by cases h; exact .int i
  | .str x, _, h, _ => by cases h; exact .str x
  | .list ds, _, h, n => by
    cases h with
    | lst h1 _ h3 => exact .lst (.inl (.inl h1)) (RpAll.dp K ds _ h3 (by simpa [PyData.hasDict] using n))
  | .tuple ds, _, h, n => by
    cases h with
    | tup h1 _ h3 => exact .tup (.inl (.inl h1)) (RpAll.dp K ds _ h3 (by simpa [PyData.hasDict] using n))
  | .dict ds, _, h, n => by simp [PyData.hasDict] at n
theorem RpAll.dp (K : W.Frag) {H : Hp} : ∀ (ds : List PyData) (vs : List V), RpAll H vs ds → PyData.hasDictAll ds = false → DpAll K H vs ds
  | [], _, h, _ => by cases h; exact .nil
  | d :: ds, _, h, n => by
    have n' : d.hasDict = false ∧ PyData.hasDictAll ds = false := by simpa [PyData.hasDictAll] using n
    cases h with
    | cons a b => exact .cons (Rp.dp K d _ a n'.1) (RpAll.dp K ds _ b n'.2)
end
theorem noDict_of_shaped {d : PyData} (h : SeqAt.shaped d = true) : d.hasDict = false := PyData.hasDict_of_canLay d (SeqAt.canLay_of_shaped h)
end Sm

/-! Dicts by values: what a key finds, what a store makes. -/
namespace Sm
open PySem PySem.Spec L2

def keyK : PyData → Option Key
  | .int i => some (.inl i)
  | .str x => some (.inr x)
  | _ => none
def keysK : List PyData → Option (List Key)
  | [] => some []
  | d :: ds => match keyK d, keysK ds with
    | some k, some ks => some (k :: ks)
    | _, _ => none
/-- a key as it is compared -/
def keyC : PyData → Option (Key ⊕ List Key)
  | .int i => some (.inl (.inl i))
  | .str x => some (.inl (.inr x))
  | .tuple ds => (keysK ds).map .inr
  | _ => none
/-- a key of the kind that the dict has (an empty one has none) -/
def kindB : List (PyData × PyData) → PyData → Bool
  | [], q => (keyC q).isSome
  | (k, _) :: _, q => match keyC k, keyC q with
    | some (.inl _), some (.inl _) => true
    | some (.inr _), some (.inr _) => true
    | _, _ => false
def lookD : List (PyData × PyData) → PyData → Option PyData
  | [], _ => none
  | (k, v) :: r, q => if keyC k = keyC q then some v else lookD r q
def replD (q v : PyData) : List (PyData × PyData) → List (PyData × PyData)
  | [] => []
  | (k, x) :: r => (if keyC k = keyC q then (k, v) else (k, x)) :: replD q v r
def putD (kvs : List (PyData × PyData)) (q v : PyData) : List (PyData × PyData) := if (lookD kvs q).isSome then replD q v kvs else kvs ++ [(q, v)]
def dropD (q : PyData) : List (PyData × PyData) → List (PyData × PyData)
  | [] => []
  | (k, x) :: r => if keyC k = keyC q then dropD q r else (k, x) :: dropD q r

theorem keyC_keyD (k : Key) : keyC (keyD k) = some (.inl k) := by cases k <;> rfl
theorem keysK_map : ∀ ks : List Key, keysK (ks.map keyD) = some ks
  | [] => rfl
  | k :: ks => by
    have h : keyK (keyD k) = some k := by cases k <;> rfl
    simp [keysK, h, keysK_map ks]
theorem keyC_tup (ks : List Key) : keyC (.tuple (ks.map keyD)) = some (.inr ks) := by simp [keyC, keysK_map]

/-- the same found or nothing -/
def RpO (H : Hp) : Option V → Option PyData → Prop
  | some v, some d => Rp H v d
  | none, none => True
  | _, _ => False
section
variable {H : Hp}
theorem RpKs.look {q : PyData} {k : Key} (hq : keyC q = some (.inl k)) : ∀ {ks : List (Key × V)} {kvs : List (PyData × PyData)}, RpKs H ks kvs → RpO H (valV ks k) (lookD kvs q)
  | _, _, .nil => True.intro
  | _, _, .cons (k := k') (v := v) a b => by
    unfold lookD
    rw [keyC_keyD, hq]
    by_cases e : k' = k
    · rw [valV_pos (p := (k', v)) e, if_pos (by rw [e])]; exact a
    · rw [valV_neg (p := (k', v)) e, if_neg (fun z => e (by cases z; rfl))]; exact RpKs.look hq b
theorem RpTs.look {q : PyData} {k : List Key} (hq : keyC q = some (.inr k)) : ∀ {ks : List (List Key × V)} {kvs : List (PyData × PyData)}, RpTs H ks kvs → RpO H (valV ks k) (lookD kvs q)
  | _, _, .nil => True.intro
  | _, _, .cons (k := k') (v := v) a b => by
    unfold lookD
    rw [keyC_tup, hq]
    by_cases e : k' = k
    · rw [valV_pos (p := (k', v)) e, if_pos (by rw [e])]; exact a
    · rw [valV_neg (p := (k', v)) e, if_neg (fun z => e (by cases z; rfl))]; exact RpTs.look hq b
theorem RpO.some_eq {o : Option V} {p : Option PyData} (h : RpO H o p) : o.isSome = p.isSome := by
  cases o <;> cases p <;> first | rfl | exact h.elim
theorem RpKs.repl {q d : PyData} {k : Key} {v : V} (hq : keyC q = some (.inl k)) (r : Rp H v d) : ∀ {ks : List (Key × V)} {kvs : List (PyData × PyData)}, RpKs H ks kvs → RpKs H (ks.map fun kv => if kv.1 = k then (kv.1, v) else kv) (replD q d kvs)
  | _, _, .nil => .nil
  | _, _, .cons (k := k') (v := v') (d := d') a b => by
    unfold replD
    rw [List.map_cons, keyC_keyD, hq]
    by_cases e : k' = k
    · rw [if_pos (show (k', v').1 = k from e), if_pos (by rw [e])]; exact .cons r (RpKs.repl hq r b)
    · rw [if_neg (show ¬ (k', v').1 = k from e), if_neg (fun z => e (by cases z; rfl))]; exact .cons a (RpKs.repl hq r b)
theorem RpTs.repl {q d : PyData} {k : List Key} {v : V} (hq : keyC q = some (.inr k)) (r : Rp H v d) : ∀ {ks : List (List Key × V)} {kvs : List (PyData × PyData)}, RpTs H ks kvs → RpTs H (ks.map fun kv => if kv.1 = k then (kv.1, v) else kv) (replD q d kvs)
  | _, _, .nil => .nil
  | _, _, .cons (k := k') (v := v') (d := d') a b => by
    unfold replD
    rw [List.map_cons, keyC_tup, hq]
    by_cases e : k' = k
    · rw [if_pos (show (k', v').1 = k from e), if_pos (by rw [e])]; exact .cons r (RpTs.repl hq r b)
    · rw [if_neg (show ¬ (k', v').1 = k from e), if_neg (fun z => e (by cases z; rfl))]; exact .cons a (RpTs.repl hq r b)
theorem RpKs.snoc {k : Key} {v : V} {d : PyData} (r : Rp H v d) : ∀ {ks : List (Key × V)} {kvs : List (PyData × PyData)}, RpKs H ks kvs → RpKs H (ks ++ [(k, v)]) (kvs ++ [(keyD k, d)])
  | _, _, .nil => .cons r .nil
  | _, _, .cons a b => .cons a (RpKs.snoc r b)
theorem RpTs.snoc {k : List Key} {v : V} {d : PyData} (r : Rp H v d) : ∀ {ks : List (List Key × V)} {kvs : List (PyData × PyData)}, RpTs H ks kvs → RpTs H (ks ++ [(k, v)]) (kvs ++ [(.tuple (k.map keyD), d)])
  | _, _, .nil => .cons r .nil
  | _, _, .cons a b => .cons a (RpTs.snoc r b)
theorem RpKs.put {k : Key} {v : V} {d : PyData} {ks : List (Key × V)} {kvs : List (PyData × PyData)} (h : RpKs H ks kvs) (r : Rp H v d) : RpKs H (putK ks k v) (putD kvs (keyD k) d) := by
  have hq := keyC_keyD k
  have e := (h.look hq).some_eq
  unfold putK putD
  rw [valV_any, e]
  split
  · exact h.repl hq r
  · exact h.snoc r
theorem RpTs.put {k : List Key} {v : V} {d : PyData} {ks : List (List Key × V)} {kvs : List (PyData × PyData)} (h : RpTs H ks kvs) (r : Rp H v d) : RpTs H (putK ks k v) (putD kvs (.tuple (k.map keyD)) d) := by
  have hq := keyC_tup k
  have e := (h.look hq).some_eq
  unfold putK putD
  rw [valV_any, e]
  split
  · exact h.repl hq r
  · exact h.snoc r
theorem RpKs.len : ∀ {ks : List (Key × V)} {kvs : List (PyData × PyData)}, RpKs H ks kvs → ks.length = kvs.length
  | _, _, .nil => rfl
  | _, _, .cons _ b => by simp [RpKs.len b]
theorem RpTs.len : ∀ {ks : List (List Key × V)} {kvs : List (PyData × PyData)}, RpTs H ks kvs → ks.length = kvs.length
  | _, _, .nil => rfl
  | _, _, .cons _ b => by simp [RpTs.len b]
theorem putK_ne {κ : Type} [DecidableEq κ] (ks : List (κ × V)) (k : κ) (v : V) : putK ks k v ≠ [] := by
  unfold putK
  split
  · rename_i h
    intro z
    rw [List.map_eq_nil_iff] at z
    rw [z] at h
    cases h
  · simp
/-- a value that is a key, as the heap has it -/
theorem key_in {q : PyData} {y : V} (r : Rp H y q) : (∀ k, keyC q = some (.inl k) → y = kV k ∧ q = keyD k) ∧ (∀ k, keyC q = some (.inr k) → q = .tuple (k.map keyD) ∧ ∃ b, y = .ref b ∧ H b = some (.tup (k.map kV))) := by
  have ks : ∀ {vs : List V} {ds : List PyData} {k : List Key}, RpAll H vs ds → keysK ds = some k → vs = k.map kV ∧ ds = k.map keyD := by
    intro vs ds
    induction ds generalizing vs with
    | nil =>
      intro k h e
      cases h
      cases e
      exact ⟨rfl, rfl⟩
    | cons d ds ih =>
      intro k h e
      cases h with
      | @cons v vs _ _ a b =>
        unfold keysK at e
        cases e1 : keyK d with
        | none => rw [e1] at e; cases e
        | some k1 =>
          cases e2 : keysK ds with
          | none => rw [e1, e2] at e; cases e
          | some k2 =>
            rw [e1, e2] at e
            cases e
            obtain ⟨h1, h2⟩ := ih b e2
            subst h1 h2
            cases a <;> simp [keyK] at e1 <;> subst e1 <;> exact ⟨rfl, rfl⟩
  refine ⟨fun k e => ?_, fun k e => ?_⟩
  · cases r with
    | int i => cases e; exact ⟨rfl, rfl⟩
    | str x _ => cases e; exact ⟨rfl, rfl⟩
    | @tup a vs ds h1 h2 h3 =>
      simp only [keyC] at e
      cases z : keysK ds <;> rw [z] at e <;> simp at e
    | _ => cases e
  · cases r with
    | int i => cases e
    | str x _ => cases e
    | @tup a vs ds h1 h2 h3 =>
      simp only [keyC] at e
      cases z : keysK ds with
      | none => rw [z] at e; cases e
      | some k2 =>
        rw [z] at e
        cases e
        obtain ⟨e1, e2⟩ := ks h3 z
        rw [e1] at h1
        exact ⟨by rw [e2], a, rfl, h1⟩
    | _ => cases e
end

/-! ### the kit's dicts, the empty one of either kind -/
theorem empty_T {P : Program} {w : World} {h : Heap} {a : Addr} {vs : List (Key × Value)} (kv : KV ([] : List (Key × V)) vs) (d : h.DictOf (mixKind P w) a vs) : h.DictOfH (tupleKind (mixKind P w)) a [] := by
  obtain ⟨o, es, ep, h1, h2, h3, h4, h5, h6⟩ := d
  cases kv
  have e : es.toList = [] := by
    cases q : es.toList with
    | nil => rfl
    | cons x y => rw [q] at h5; cases h5
  exact ⟨o, es, ep, h1, h2, h3, by rw [e]; rfl, (fun x z => by simp at z), List.nodup_nil⟩
/-- what is found: in a dict of the key's kind, or nothing in an empty one -/
def DG (H : Hp) (a : Addr) (y : V) (r : Option V) : Prop := DGet H a y r ∨ (r = none ∧ Rd H a (.dK []) ∧ ∃ (k : List Key) (b : Addr), y = .ref b ∧ H b = some (.tup (k.map kV)))
section
variable {X : Cx} {pn : List (Addr × Obj)} {sg : St} {H : Hp} {s : Shared} {a : Addr} {y d : V} {u r : Value} {o : Option V} {A : Around} {E : Value → Shared → Prop}
theorem dg_in {Q : Value → Shared → Prop} (hu : A.units + 1 < cLine) (inv : Inv X pn sg H s) (g : DG H a y o) (ry : RelV y u) (h : ∀ s', Inv X pn sg H s' → Q (.bool o.isSome) s') : wpAny (model X.prog X.w) A (compareOp .In u (.ref a)) Q E s := by
  rcases g with g | ⟨rfl, e, k, b, rfl, eb⟩
  · exact d_in hu inv g ry h
  · cases (show u = Value.ref b from ry)
    obtain ⟨_, hd, vs, kv, dd⟩ := dk_rd inv.hok e
    refine wpAny_in_heap (tupleKind_room_in1 hu) (key_of inv.hok eb) hd (empty_T kv dd) ?_
    exact h _ (inv.tok _)
theorem dg_notIn {Q : Value → Shared → Prop} (hu : A.units + 1 < cLine) (inv : Inv X pn sg H s) (g : DG H a y o) (ry : RelV y u) (h : ∀ s', Inv X pn sg H s' → Q (.bool (!o.isSome)) s') : wpAny (model X.prog X.w) A (compareOp .NotIn u (.ref a)) Q E s := by
  rcases g with g | ⟨rfl, e, k, b, rfl, eb⟩
  · exact d_notIn hu inv g ry h
  · cases (show u = Value.ref b from ry)
    obtain ⟨_, hd, vs, kv, dd⟩ := dk_rd inv.hok e
    refine PyProof.Rows.wpAny_notIn_heap (tupleKind_room_in1 hu) (key_of inv.hok eb) hd (empty_T kv dd) ?_
    exact h _ (inv.tok _)
theorem dg_get2 {Q : Value → Shared → Prop} (hu : A.units + 1 < cLine) (inv : Inv X pn sg H s) (g : DG H a y o) (ry : RelV y u) (rd : RelV d r) (h : ∀ w' s', Inv X pn sg H s' → RelV (o.getD d) w' → Q w' s') :
    wpAny (model X.prog X.w) A (call (.builtin "dict.get") [.ref a, u, r]) Q E s := by
  rcases g with g | ⟨rfl, e, k, b, rfl, eb⟩
  · exact d_get2 hu inv g ry rd h
  · cases (show u = Value.ref b from ry)
    obtain ⟨_, hd, vs, kv, dd⟩ := dk_rd inv.hok e
    have dT := empty_T kv dd
    exact call_meetsIn PySem.F.slot_dict_get dT.typeIs PySem.F.entry_dict_get (PySem.F.args_dict_get_3 _ _ _) (meetsH_dict_get_default (tupleKind (mixKind X.prog X.w)) a b hd r) ⟨tupleKind_room_in1 hu, k, [], key_of inv.hok eb, dT, h _ _ (inv.tok _) rd⟩
/-- the heap behind a store -/
def DP (H : Hp) (a : Addr) (y v : V) (H' : Hp) : Prop := DPut H a y v H' ∨ ∃ (k : List Key) (b : Addr), H a = some (.dK []) ∧ y = .ref b ∧ H b = some (.tup (k.map kV)) ∧ H' = upd H a (.dT [(k, v)])
theorem to_T (inv : Inv X pn sg H s) (e : H a = some (.dK [])) : Inv X pn sg (upd H a (.dT [])) s := by
  obtain ⟨_, hd, vs, kv, dd⟩ := dk_of inv.hok e
  obtain ⟨ob, es, ep, h1, h2, h3, h4, _, h6⟩ := empty_T (P := X.prog) (w := X.w) kv dd
  have q := d_write (t' := s.toks) (h' := s.heap) (ob := .dT []) inv (by rw [e]; exact True.intro) ⟨rfl, fun b _ => rfl⟩ ⟨ob, h1⟩ ⟨Nat.zero_le _, hd, [], .nil, ob, es, ep, h1, h2, h3, h4, h6⟩
  exact q
theorem dp_set {v : V} {H' : Hp} {Q : Unit → Shared → Prop} (hu : A.units + 1 < cLine) (inv : Inv X pn sg H s) (g : DP H a y v H') (ry : RelV y u) (rv : RelV v r) (h : ∀ s', Inv X pn sg H' s' → Q () s') :
    wpAny (model X.prog X.w) A (setItem (.ref a) u r) Q E s := by
  rcases g with g | ⟨k, b, e, rfl, eb, rfl⟩
  · exact d_setItem hu inv g ry rv h
  · have ne : b ≠ a := ne_of eb e (fun z => nomatch z)
    have g2 : DPut (upd H a (.dT [])) a (.ref b) v (upd (upd H a (.dT [])) a (.dT (putK [] k v))) := DPut.t upd_same (by rw [upd_ne ne]; exact eb) (by show 0 < sizeLine; decide)
    rw [upd_upd] at g2
    exact d_setItem hu (to_T inv e) g2 ry rv h
end
/-- a dict and a key of its kind -/
theorem vw_dg {A : List Addr} {H : Hp} {x y : V} {kvs : List (PyData × PyData)} {q : PyData} (h1 : Vw A H false x (.dict kvs)) (h2 : Vw A H false y q) (k : kindB kvs q = true) :
    ∃ a o, x = .ref a ∧ IsD H a ∧ DG H a y o ∧ RpO (Hide A H) o (lookD kvs q) := by
  obtain ⟨a, rfl, h⟩ := h1.dict
  have r2 := h2.rp
  obtain ⟨i1, i2⟩ := key_in r2
  refine ⟨a, ?_⟩
  rcases h with ⟨ks, e, r⟩ | ⟨ks, e, ne, r⟩
  · cases hq : keyC q with
    | none =>
      cases kvs with
      | nil => simp [kindB, hq] at k
      | cons p l => cases hp : keyC p.1 with
        | none => simp [kindB, hq, hp] at k
        | some z => cases z <;> simp [kindB, hq, hp] at k
    | some z =>
      cases z with
      | inl kk =>
        obtain ⟨rfl, rfl⟩ := i1 kk hq
        exact ⟨valV ks kk, rfl, .inl ⟨ks, e⟩, .inl (.inl ⟨ks, kk, e, rfl, rfl⟩), r.look hq⟩
      | inr kk =>
        obtain ⟨rfl, b, rfl, eb⟩ := i2 kk hq
        cases r with
        | nil => exact ⟨none, rfl, .inl ⟨[], e⟩, .inr ⟨rfl, e, kk, b, rfl, eb⟩, True.intro⟩
        | cons z1 z2 => simp [kindB, keyC_keyD, hq] at k
  · cases hq : keyC q with
    | none =>
      cases kvs with
      | nil => simp [kindB, hq] at k
      | cons p l => cases hp : keyC p.1 with
        | none => simp [kindB, hq, hp] at k
        | some z => cases z <;> simp [kindB, hq, hp] at k
    | some z =>
      cases z with
      | inl kk =>
        cases r with
        | nil => exact absurd rfl ne
        | cons z1 z2 => simp [kindB, keyC_tup, hq] at k
      | inr kk =>
        obtain ⟨rfl, b, rfl, eb⟩ := i2 kk hq
        exact ⟨valV ks kk, rfl, .inr ⟨ks, e⟩, .inl (.inr ⟨ks, kk, b, e, rfl, eb, rfl⟩), r.look hq⟩
/-- a store into a dict that is owned -/
theorem own_dp {A : List Addr} {H : Hp} {a : Addr} {v y : V} {kvs : List (PyData × PyData)} {q d : PyData} (ha : a ∈ A) (h1 : OwnAt A H a (.dict kvs)) (h2 : Vw A H false y q) (r : Rp (Hide A H) v d) (k : kindB kvs q = true) (hl : kvs.length < sizeLine) :
    ∃ u, DP H a y v (upd H a u) ∧ OwnAt A (upd H a u) a (.dict (putD kvs q d)) := by
  obtain ⟨i1, i2⟩ := key_in h2.rp
  rcases h1 with ⟨ks, e, rk⟩ | ⟨ks, e, ne, rk⟩
  · cases hq : keyC q with
    | none =>
      cases kvs with
      | nil => simp [kindB, hq] at k
      | cons p l => cases hp : keyC p.1 with
        | none => simp [kindB, hq, hp] at k
        | some z => cases z <;> simp [kindB, hq, hp] at k
    | some z =>
      cases z with
      | inl kk =>
        obtain ⟨rfl, rfl⟩ := i1 kk hq
        refine ⟨_, .inl (DPut.k e (by rw [rk.len]; exact hl)), .inl ⟨_, upd_same, ?_⟩⟩
        rw [hide_upd ha]
        exact rk.put r
      | inr kk =>
        obtain ⟨rfl, b, rfl, eb⟩ := i2 kk hq
        cases rk with
        | nil =>
          refine ⟨_, .inr ⟨kk, b, e, rfl, eb, rfl⟩, .inr ⟨_, upd_same, by simp, ?_⟩⟩
          rw [hide_upd ha]
          exact .cons r .nil
        | cons z1 z2 => simp [kindB, keyC_keyD, hq] at k
  · cases hq : keyC q with
    | none =>
      cases kvs with
      | nil => simp [kindB, hq] at k
      | cons p l => cases hp : keyC p.1 with
        | none => simp [kindB, hq, hp] at k
        | some z => cases z <;> simp [kindB, hq, hp] at k
    | some z =>
      cases z with
      | inl kk =>
        cases rk with
        | nil => exact absurd rfl ne
        | cons z1 z2 => simp [kindB, keyC_tup, hq] at k
      | inr kk =>
        obtain ⟨rfl, b, rfl, eb⟩ := i2 kk hq
        refine ⟨_, .inl (DPut.t e eb (by rw [rk.len]; exact hl)), .inr ⟨_, upd_same, putK_ne _ _ _, ?_⟩⟩
        rw [hide_upd ha]
        exact rk.put r
section
variable {X : Cx}
/-- a dict's item -/
theorem ix_dictV (hu : X.A.units + 1 < cLine) : IxR X (fun x y H Q => ∃ a v, x = .ref a ∧ DGet H a y (some v) ∧ Q v H) := by
  intro ve sl pn st sg hp x y vx vy Z inv r1 r2 ⟨a, v, e, g, q⟩ hs
  subst e
  cases (show vx = Value.ref a from r1)
  have hT := dict_typeIs inv g
  have it : wpAny (model X.prog X.w) X.A (subscripted sl false (Value.ref a) vy) (fun r s' => wpAny (model X.prog X.w) X.A (letTemporaryGo ve (Value.ref a) r >>= fun _ => pure r) (EP X pn sg Z) X.xe s') X.xe st := by
    rw [hs]
    refine wpAny_operating ?_
    exact d_getItem hu inv g r2 fun w' s' inv' rw' => wpAny_bind (wpAny_letTemporaryGo (wpAny_pure ⟨v, hp, inv', rw', q⟩))
  unfold PyProof.Rows.subscriptTail
  refine wpAny_bind ?_
  rw [getitemInPython_of_ne hT.not_modules]
  refine wpAny_bind (wpAny_specialOf hT PySem.F.slot_dict_getitem.lookup ?_)
  first
    | exact wpAny_bind (wpAny_pure (wpAny_bind it))
    | exact wpAny_pure (wpAny_bind it)
    | exact wpAny_bind it
theorem op_inDV (hu : X.A.units + 1 < cLine) : OpR X (compareOp .In) (fun y x H Q => ∃ a o, x = .ref a ∧ DG H a y o ∧ Q (.bl o.isSome) H) := by
  intro pn st sg hp y x vy vx Z inv r1 r2 ⟨a, o, e, g, q⟩
  subst e
  cases (show vx = Value.ref a from r2)
  exact dg_in hu inv g r1 fun s' inv' => ⟨.bl o.isSome, hp, inv', rfl, q⟩
theorem op_notInDV (hu : X.A.units + 1 < cLine) : OpR X (compareOp .NotIn) (fun y x H Q => ∃ a o, x = .ref a ∧ DG H a y o ∧ Q (.bl (!o.isSome)) H) := by
  intro pn st sg hp y x vy vx Z inv r1 r2 ⟨a, o, e, g, q⟩
  subst e
  cases (show vx = Value.ref a from r2)
  exact dg_notIn hu inv g r1 fun s' inv' => ⟨.bl (!o.isSome), hp, inv', rfl, q⟩
theorem set_dictV (hu : X.A.units + 1 < cLine) : PSet X (fun o i v H Q => ∃ a H', o = .ref a ∧ DP H a i v H' ∧ Q H') := by
  intro pn st sg hp o i v ov iv uv Z inv ro ri rv ⟨a, H', e, g, q⟩
  subst e
  cases (show ov = Value.ref a from ro)
  exact dp_set hu inv g ri rv fun s' inv' => ⟨H', inv', q⟩
end
end Sm

/-! Operators on data, and that the model's operators do them. -/
namespace Sm
open PySem L2

abbrev Dom (A : List Addr) (H : Hp) : Prop := ∀ a ∈ A, ∃ o : OwO, H a = some o.1

/-! ### the semantics -/
def okI (i : Int) : Rs PyData := .ok (.int i)
def okB (b : Bool) : Rs PyData := .ok (.bool b)
def mulOk (i j : Int) : Bool := decide (-(2 ^ 64) < i ∧ i < 2 ^ 64) || decide (-(2 ^ 64) < j ∧ j < 2 ^ 64) || decide (i.natAbs.log2 + j.natAbs.log2 < 1000000)
def dAdd : PyData → PyData → Rs PyData
  | .int i, .int j => okI (i + j)
  | .list a, .list b => if a.length + b.length ≤ sizeLine then .ok (.list (a ++ b)) else .no
  | .tuple a, .tuple b => if a.length + b.length ≤ sizeLine then .ok (.tuple (a ++ b)) else .no
  | .str a, .str b => if a.length + b.length ≤ sizeLine then .ok (.str (a ++ b)) else .no
  | _, _ => .no
def dSub : PyData → PyData → Rs PyData
  | .int i, .int j => okI (i - j)
  | _, _ => .no
def dMul : PyData → PyData → Rs PyData
  | .int i, .int j => if mulOk i j = true then okI (i * j) else .no
  | .list a, .int k => if -(2 ^ 63) ≤ k ∧ k < 2 ^ 63 ∧ a.length * k.toNat ≤ sizeLine then .ok (.list (List.replicate k.toNat a).flatten) else .no
  | _, _ => .no
def dFdiv : PyData → PyData → Rs PyData
  | .int i, .int j => if (j ≠ 0 ∧ j.natAbs < 1073741824) ∨ (0 < j ∧ j.natAbs.log2 < 9000) then okI (i.fdiv j) else .no
  | _, _ => .no
def dMod : PyData → PyData → Rs PyData
  | .int i, .int j => if j ≠ 0 then okI (i.fmod j) else .no
  | _, _ => .no
def dPow : PyData → PyData → Rs PyData
  | .int i, .int j => if 0 ≤ j ∧ j ≤ 1000000 ∧ i.natAbs < 2 ^ 64 then okI (i ^ j.toNat) else .no
  | _, _ => .no
def dShl : PyData → PyData → Rs PyData
  | .int i, .int j => if 0 ≤ j ∧ j ≤ 1000000 ∧ i.natAbs < 2 ^ 64 then okI (i * 2 ^ j.toNat) else .no
  | _, _ => .no
def dShr : PyData → PyData → Rs PyData
  | .int i, .int j => if 0 ≤ j then okI (i / 2 ^ j.toNat) else .no
  | _, _ => .no
def dBit (f : Int → Int → Int) : PyData → PyData → Rs PyData
  | .int i, .int j => okI (f i j)
  | _, _ => .no
def dBin : Operator → Option (PyData → PyData → Rs PyData)
  | .Add => some dAdd
  | .Sub => some dSub
  | .Mult => some dMul
  | .FloorDiv => some dFdiv
  | .Mod => some dMod
  | .Pow => some dPow
  | .LShift => some dShl
  | .RShift => some dShr
  | .BitAnd => some (dBit Builtin.bitAnd)
  | .BitOr => some (dBit Builtin.bitOr)
  | .BitXor => some (dBit Builtin.bitXor)
  | _ => none
def dNeg : PyData → Rs PyData
  | .int i => okI (-i)
  | _ => .no
def dInv : PyData → Rs PyData
  | .int i => okI (Builtin.bitNot i)
  | _ => .no

def dEq : PyData → PyData → Rs PyData
  | .str x, .str y => okB (decide (x = y))
  | d, e => if SeqAt.shaped d && SeqAt.shaped e then okB (PyData.eqv d e) else .no
def dNe : PyData → PyData → Rs PyData
  | .str x, .str y => okB (!decide (x = y))
  | d, e => if SeqAt.shaped d && SeqAt.shaped e then okB (!PyData.eqv d e) else .no
def ordOk (d e : PyData) : Bool := W.alike d e && !d.hasDict && !e.hasDict && (match d with | .none => false | _ => true) && decide (min d.depth e.depth ≤ 64)
def dLt : PyData → PyData → Rs PyData
  | .int i, .int j => okB (decide (i < j))
  | d, e => if ordOk d e then okB (W.dataLt d e) else .no
def dGt : PyData → PyData → Rs PyData
  | .int i, .int j => okB (decide (j < i))
  | d, e => if ordOk d e then okB (W.dataLt e d) else .no
def dLe : PyData → PyData → Rs PyData
  | .int i, .int j => okB (decide (i ≤ j))
  | d, e => if ordOk d e then okB (!W.dataLt e d) else .no
def dGe : PyData → PyData → Rs PyData
  | .int i, .int j => okB (decide (j ≤ i))
  | d, e => if ordOk d e then okB (!W.dataLt d e) else .no
def memB (d : PyData) (ds : List PyData) : Bool := ds.any fun z => PyData.eqv z d
def isIn : PyData → Bool
  | .int _ => true
  | _ => false
def dIn (neg : Bool) : PyData → PyData → Rs PyData
  | d, .list ds => if SeqAt.shaped d && SeqAt.shaped (.list ds) then okB (if neg then !memB d ds else memB d ds) else .no
  | .int i, .tuple ds => if ds.all isIn then okB (if neg then !memB (.int i) ds else memB (.int i) ds) else .no
  | d, .dict kvs => if kindB kvs d then okB (if neg then !(lookD kvs d).isSome else (lookD kvs d).isSome) else .no
  | _, _ => .no

theorem Vw.weak {A : List Addr} {H : Hp} {kp : Bool} {v : V} {d : PyData} (h : Vw A H kp v d) : Vw A H false v d := by
  rcases h with h | ⟨_, h⟩
  · exact .inl h
  · exact .inr ⟨rfl, h⟩
theorem Res.weak {A : List Addr} {H H' : Hp} {kp' fr' : Bool} {v : V} {d : PyData} (h : Res A true true H H' v d) : Res A kp' fr' H H' v d :=
  ⟨.inl h.1.kept, fun _ => h.2 rfl⟩

/-- a two-place operation by what the values read as -/
def rBin (f : PyData → PyData → Rs PyData) : R2 := fun x y H Q => ∃ (A : List Addr) (d e z : PyData), Dom A H ∧ Vw A H false x d ∧ Vw A H false y e ∧ f d e = .ok z ∧
  ∀ w H', Same H H' → Res A true true H H' w z → Q w H'
def rUn (f : PyData → Rs PyData) : V → Hp → VK → Prop := fun x H Q => ∃ (A : List Addr) (d z : PyData), Dom A H ∧ Vw A H false x d ∧ f d = .ok z ∧
  ∀ w H', Same H H' → Res A true true H H' w z → Q w H'
theorem res_int {A : List Addr} {H H' : Hp} (i : Int) : Res A true true H H' (.int i) (.int i) := Res.flat (.int i) (fun _ e => nomatch e) (fun _ e => nomatch e)
theorem res_bool {A : List Addr} {H H' : Hp} (i : Bool) : Res A true true H H' (.bl i) (.bool i) := Res.flat (.bl i) (fun _ e => nomatch e) (fun _ e => nomatch e)
theorem res_none {A : List Addr} {H H' : Hp} : Res A true true H H' .non .none := Res.flat .non (fun _ e => nomatch e) (fun _ e => nomatch e)
theorem res_str {A : List Addr} {H H' : Hp} (x : Str) (h : x.length ≤ sizeLine) : Res A true true H H' (.str x) (.str x) := Res.flat (.str x h) (fun _ e => nomatch e) (fun _ e => nomatch e)
theorem okI_inj {i : Int} {z : PyData} (h : okI i = .ok z) : z = .int i := by cases h; rfl
theorem okB_inj {i : Bool} {z : PyData} (h : okB i = .ok z) : z = .bool i := by cases h; rfl

section
variable {X : Cx}
theorem opV_add : OpR X (binaryOp .Add) (rBin dAdd) := by
  intro pn st sl hp x y vx vy Z inv r1 r2 ⟨A, d, e, z, dm, h1, h2, hf, q⟩
  unfold dAdd at hf
  split at hf
  · cases okI_inj hf
    exact op_add pn st sl hp x y vx vy Z inv r1 r2 ⟨_, _, h1.int, h2.int, q _ _ (Same.refl _) (res_int _)⟩
  · split at hf
    · rename_i hz
      cases hf
      obtain ⟨a, us, rfl, ha, _, ra⟩ := h1.list
      obtain ⟨b, ws, rfl, hb, _, rb⟩ := h2.list
      have hl : (us ++ ws).length ≤ sizeLine := by rw [List.length_append, ra.len, rb.len]; exact hz
      exact op_cat pn st sl hp _ _ vx vy Z inv r1 r2 ⟨a, b, us, ws, rfl, rfl, ha, hb, by rw [ra.len, rb.len]; exact hz, fun p np => q _ _ (same_new np) (Res.newL dm (ra.app rb) hl np (Same.refl _))⟩
    · cases hf
  · split at hf
    · rename_i hz
      cases hf
      obtain ⟨a, us, rfl, ha, za, ra⟩ := h1.tuple
      obtain ⟨b, ws, rfl, hb, zb, rb⟩ := h2.tuple
      have hl : (us ++ ws).length ≤ sizeLine := by rw [List.length_append, ra.len, rb.len]; exact hz
      refine op_catA pn st sl hp _ _ vx vy Z inv r1 r2 ⟨a, b, us, ws, rfl, rfl, .inl (.inl ha), .inl (.inl hb), by rw [ra.len, rb.len]; exact hz, fun e0 => ?_, fun _ e0 => ?_, fun _ _ p np => q _ _ (same_new np) (Res.newT dm (ra.app rb) hl np)⟩
      · subst e0
        cases ra
        exact q _ _ (Same.refl _) ⟨.inl h2.tup_kept, fun _ => True.intro⟩
      · subst e0
        cases rb
        rw [List.append_nil] at q
        exact q _ _ (Same.refl _) ⟨.inl h1.tup_kept, fun _ => True.intro⟩
    · cases hf
  · split at hf
    · rename_i hz
      cases hf
      exact op_add_str pn st sl hp _ _ vx vy Z inv r1 r2 ⟨_, _, h1.str.1, h2.str.1, hz, q _ _ (Same.refl _) (res_str _ (by rw [Str.length_append]; exact hz))⟩
    · cases hf
  · cases hf

theorem opV_ii {op : Operator} {f : PyData → PyData → Rs PyData} {C : Int → Int → Prop} {g : Int → Int → Int} (ho : OpR X (binaryOp op) (rI C fun i j => .int (g i j)))
    (h : ∀ d e z, f d e = .ok z → ∃ i j, d = .int i ∧ e = .int j ∧ C i j ∧ z = .int (g i j)) : OpR X (binaryOp op) (rBin f) := by
  intro pn st sl hp x y vx vy Z inv r1 r2 ⟨A, d, e, z, dm, h1, h2, hf, q⟩
  obtain ⟨i, j, rfl, rfl, hc, rfl⟩ := h d e z hf
  exact ho pn st sl hp x y vx vy Z inv r1 r2 ⟨i, j, h1.int, h2.int, hc, q _ _ (Same.refl _) (res_int _)⟩
theorem rI0_of {g : Int → Int → V} {f : Value → Value → Sem Value} (h : OpR X f (rI0 g)) : OpR X f (rI (fun _ _ => True) g) := by
  intro pn st sl hp x y vx vy Z inv r1 r2 ⟨i, j, e1, e2, _, q⟩
  exact h pn st sl hp x y vx vy Z inv r1 r2 ⟨i, j, e1, e2, q⟩
theorem opV_sub : OpR X (binaryOp .Sub) (rBin dSub) := opV_ii (rI0_of op_sub) fun d e z hf => by
  unfold dSub at hf
  split at hf
  · exact ⟨_, _, rfl, rfl, True.intro, okI_inj hf⟩
  · cases hf
theorem opV_bit {op : Operator} {g : Int → Int → Int} (ho : OpR X (binaryOp op) (rI0 fun i j => .int (g i j))) : OpR X (binaryOp op) (rBin (dBit g)) := opV_ii (rI0_of ho) fun d e z hf => by
  unfold dBit at hf
  split at hf
  · exact ⟨_, _, rfl, rfl, True.intro, okI_inj hf⟩
  · cases hf
theorem opV_mod : OpR X (binaryOp .Mod) (rBin dMod) := opV_ii op_modN fun d e z hf => by
  unfold dMod at hf
  split at hf
  · split at hf
    · rename_i h
      exact ⟨_, _, rfl, rfl, h, okI_inj hf⟩
    · cases hf
  · cases hf
theorem opV_pow : OpR X (binaryOp .Pow) (rBin dPow) := opV_ii op_pow fun d e z hf => by
  unfold dPow at hf
  split at hf
  · split at hf
    · rename_i h
      exact ⟨_, _, rfl, rfl, h, okI_inj hf⟩
    · cases hf
  · cases hf
theorem opV_shl : OpR X (binaryOp .LShift) (rBin dShl) := opV_ii op_shl fun d e z hf => by
  unfold dShl at hf
  split at hf
  · split at hf
    · rename_i h
      exact ⟨_, _, rfl, rfl, h, okI_inj hf⟩
    · cases hf
  · cases hf
theorem opV_shr : OpR X (binaryOp .RShift) (rBin dShr) := opV_ii op_shr fun d e z hf => by
  unfold dShr at hf
  split at hf
  · split at hf
    · rename_i h
      exact ⟨_, _, rfl, rfl, h, okI_inj hf⟩
    · cases hf
  · cases hf
theorem op_fdivA : OpR X (binaryOp .FloorDiv) (rI (fun _ j => (j ≠ 0 ∧ j.natAbs < 1073741824) ∨ (0 < j ∧ j.natAbs.log2 < 9000)) fun i j => .int (i.fdiv j)) := by
  intro pn st sl hp x y vx vy Z inv r1 r2 ⟨i, j, e1, e2, hc, q⟩
  rcases hc with hc | hc
  · exact op_fdivN pn st sl hp x y vx vy Z inv r1 r2 ⟨i, j, e1, e2, hc, q⟩
  · refine op_fdivW pn st sl hp x y vx vy Z inv r1 r2 ⟨i, j, e1, e2, hc, ?_⟩
    have e3 : i.fdiv j = i / j := Int.fdiv_eq_ediv_of_nonneg i (by have := hc.1; omega)
    show Z (V.int (i / j)) hp
    rw [← e3]
    exact q
theorem opV_fdiv : OpR X (binaryOp .FloorDiv) (rBin dFdiv) := opV_ii op_fdivA fun d e z hf => by
  unfold dFdiv at hf
  split at hf
  · split at hf
    · rename_i h
      exact ⟨_, _, rfl, rfl, h, okI_inj hf⟩
    · cases hf
  · cases hf
theorem op_mulA : OpR X (binaryOp .Mult) (rI (fun i j => mulOk i j = true) fun i j => .int (i * j)) := by
  intro pn st sl hp x y vx vy Z inv r1 r2 ⟨i, j, e1, e2, hc, q⟩
  have hc' : ((-(2 ^ 64) < i ∧ i < 2 ^ 64) ∨ (-(2 ^ 64) < j ∧ j < 2 ^ 64)) ∨ i.natAbs.log2 + j.natAbs.log2 < 1000000 := by
    unfold mulOk at hc
    simpa only [Bool.or_eq_true, decide_eq_true_eq] using hc
  rcases hc' with hc' | hc'
  · exact op_mul pn st sl hp x y vx vy Z inv r1 r2 ⟨i, j, e1, e2, hc', q⟩
  · exact op_mulW pn st sl hp x y vx vy Z inv r1 r2 ⟨i, j, e1, e2, hc', q⟩
theorem opV_mul : OpR X (binaryOp .Mult) (rBin dMul) := by
  intro pn st sl hp x y vx vy Z inv r1 r2 ⟨A, d, e, z, dm, h1, h2, hf, q⟩
  unfold dMul at hf
  split at hf
  · split at hf
    · rename_i hz
      cases okI_inj hf
      exact op_mulA pn st sl hp x y vx vy Z inv r1 r2 ⟨_, _, h1.int, h2.int, hz, q _ _ (Same.refl _) (res_int _)⟩
    · cases hf
  · split at hf
    · rename_i k hz
      cases hf
      obtain ⟨a, us, rfl, ha, _, ra⟩ := h1.list
      have e2 := h2.int
      subst e2
      have hl : (List.replicate k.toNat us).flatten.length ≤ sizeLine := by
        rw [PyProof.Rows.lm_len_rep_flat, ra.len, Nat.mul_comm]; exact hz.2.2
      exact op_rep pn st sl hp _ _ vx vy Z inv r1 r2 ⟨a, k, us, rfl, rfl, ha, hz.1, hz.2.1, by rw [ra.len]; exact hz.2.2, fun p np => q _ _ (same_new np) (Res.newL dm (ra.flat _) hl np (Same.refl _))⟩
    · cases hf
  · cases hf
theorem opV_bin {op : Operator} {f : PyData → PyData → Rs PyData} (h : dBin op = some f) : OpR X (binaryOp op) (rBin f) := by
  cases op <;> simp only [dBin, Option.some.injEq, reduceCtorEq] at h <;> subst h
  · exact opV_add
  · exact opV_sub
  · exact opV_mul
  · exact opV_mod
  · exact opV_pow
  · exact opV_shl
  · exact opV_shr
  · exact opV_bit op_or
  · exact opV_bit op_xor
  · exact opV_bit op_and
  · exact opV_fdiv
theorem unV_neg : UnR X (unaryOp .USub) (rUn dNeg) := by
  intro pn st sl hp x vx Z inv r1 ⟨A, d, z, dm, h1, hf, q⟩
  unfold dNeg at hf
  split at hf
  · cases okI_inj hf
    exact un_neg pn st sl hp x vx Z inv r1 ⟨_, h1.int, q _ _ (Same.refl _) (res_int _)⟩
  · cases hf
theorem unV_inv : UnR X (unaryOp .Invert) (rUn dInv) := by
  intro pn st sl hp x vx Z inv r1 ⟨A, d, z, dm, h1, hf, q⟩
  unfold dInv at hf
  split at hf
  · cases okI_inj hf
    exact un_inv pn st sl hp x vx Z inv r1 ⟨_, h1.int, q _ _ (Same.refl _) (res_int _)⟩
  · cases hf

/-! ### comparisons -/
theorem opV_eq (hu : X.A.units + 64 < cLine) : OpR X (compareOp .Eq) (rBin dEq) := by
  intro pn st sl hp x y vx vy Z inv r1 r2 ⟨A, d, e, z, dm, h1, h2, hf, q⟩
  unfold dEq at hf
  split at hf
  · rename_i a b
    cases okB_inj hf
    obtain ⟨rfl, _⟩ := h1.str
    obtain ⟨rfl, _⟩ := h2.str
    refine op_eq pn st sl hp _ _ vx vy Z inv r1 r2 ⟨rfl, ?_⟩
    rw [show (decide (V.str a = V.str b)) = decide (a = b) by simp]
    exact q _ _ (Same.refl _) (res_bool _)
  split at hf
  · rename_i hs
    have hs' := Bool.and_eq_true_iff.mp hs
    cases okB_inj hf
    exact op_eqD hu pn st sl hp x y vx vy Z inv r1 r2 ⟨d, e, Rp.dp _ d _ h1.rp (noDict_of_shaped hs'.1), Rp.dp _ e _ h2.rp (noDict_of_shaped hs'.2), hs'.1, hs'.2, q _ _ (Same.refl _) (res_bool _)⟩
  · cases hf
theorem opV_ne (hu : X.A.units + 64 < cLine) : OpR X (compareOp .NotEq) (rBin dNe) := by
  intro pn st sl hp x y vx vy Z inv r1 r2 ⟨A, d, e, z, dm, h1, h2, hf, q⟩
  unfold dNe at hf
  split at hf
  · rename_i a b
    cases okB_inj hf
    obtain ⟨rfl, _⟩ := h1.str
    obtain ⟨rfl, _⟩ := h2.str
    refine op_ne pn st sl hp _ _ vx vy Z inv r1 r2 ⟨rfl, ?_⟩
    rw [show (decide (V.str a = V.str b)) = decide (a = b) by simp]
    exact q _ _ (Same.refl _) (res_bool _)
  split at hf
  · rename_i hs
    have hs' := Bool.and_eq_true_iff.mp hs
    cases okB_inj hf
    exact op_neD hu pn st sl hp x y vx vy Z inv r1 r2 ⟨d, e, Rp.dp _ d _ h1.rp (noDict_of_shaped hs'.1), Rp.dp _ e _ h2.rp (noDict_of_shaped hs'.2), hs'.1, hs'.2, q _ _ (Same.refl _) (res_bool _)⟩
  · cases hf
theorem ord_of {d e : PyData} (h : ordOk d e = true) : W.alike d e = true ∧ d.hasDict = false ∧ e.hasDict = false ∧ d ≠ .none ∧ min d.depth e.depth ≤ 64 := by
  unfold ordOk at h
  simp only [Bool.and_eq_true, Bool.not_eq_true', decide_eq_true_eq] at h
  obtain ⟨⟨⟨⟨h1, h2⟩, h3⟩, h4⟩, h5⟩ := h
  refine ⟨h1, h2, h3, fun e => ?_, h5⟩
  subst e
  cases h4
theorem ord_gen {op : CmpOp} {f : PyData → PyData → Rs PyData} {g : Int → Int → Bool} {r : PyData → PyData → Bool} (hu : X.A.units + 64 < cLine) (hop : ∀ a b, compareOp op a b = richCompare op a b)
    (ho : OpR X (compareOp op) (rI0 fun i j => .bl (g i j)))
    (hr : ∀ (d e : PyData) (st : Shared) (a b : Value) (as bs : List Addr), Reads st.heap a d as → Reads st.heap b e bs → W.alike d e = true → d ≠ .none → X.A.units + min d.depth e.depth < cLine → SeqAt.RcOp op X.A st a b (r d e))
    (h : ∀ d e z, f d e = .ok z → (∃ i j, d = .int i ∧ e = .int j ∧ z = .bool (g i j)) ∨ (ordOk d e = true ∧ z = .bool (r d e))) : OpR X (compareOp op) (rBin f) := by
  intro pn st sl hp x y vx vy Z inv r1 r2 ⟨A, d, e, z, dm, h1, h2, hf, q⟩
  rcases h d e z hf with ⟨i, j, rfl, rfl, rfl⟩ | ⟨hk, rfl⟩
  · exact ho pn st sl hp x y vx vy Z inv r1 r2 ⟨_, _, h1.int, h2.int, q _ _ (Same.refl _) (res_bool _)⟩
  · obtain ⟨k1, k2, k3, k4, k5⟩ := ord_of hk
    obtain ⟨as, w1⟩ := Dp.reads inv d x vx (Rp.dp _ d _ h1.rp k2) r1
    obtain ⟨bs, w2⟩ := Dp.reads inv e y vy (Rp.dp _ e _ h2.rp k3) r2
    rw [hop]
    exact hr d e st vx vy as bs w1 w2 k1 k4 (by omega) X.prog X.w X.xe _ ⟨.bl _, hp, inv, rfl, q _ _ (Same.refl _) (res_bool _)⟩
theorem opV_lt (hu : X.A.units + 64 < cLine) : OpR X (compareOp .Lt) (rBin dLt) :=
  ord_gen (r := W.dataLt) hu (fun _ _ => rfl) op_lt (fun d e st a b as bs w1 w2 k n u => SeqAt.RcOp.of_lt (W.rcLt_alike d e X.A st a b as bs w1 w2 k n u)) fun d e z hf => by
    unfold dLt at hf
    split at hf
    · exact .inl ⟨_, _, rfl, rfl, okB_inj hf⟩
    · split at hf
      · rename_i hk
        exact .inr ⟨hk, okB_inj hf⟩
      · cases hf
theorem opV_gt (hu : X.A.units + 64 < cLine) : OpR X (compareOp .Gt) (rBin dGt) :=
  ord_gen (r := fun d e => W.dataLt e d) hu (fun _ _ => rfl) op_gt (fun d e st a b as bs w1 w2 k n u => W.rcGt_alike d e X.A st a b as bs w1 w2 k n u) fun d e z hf => by
    unfold dGt at hf
    split at hf
    · exact .inl ⟨_, _, rfl, rfl, okB_inj hf⟩
    · split at hf
      · rename_i hk
        exact .inr ⟨hk, okB_inj hf⟩
      · cases hf
theorem opV_le (hu : X.A.units + 64 < cLine) : OpR X (compareOp .LtE) (rBin dLe) :=
  ord_gen (r := fun d e => !W.dataLt e d) hu (fun _ _ => rfl) op_le (fun d e st a b as bs w1 w2 k n u => W.rcLe_alike d e X.A st a b as bs w1 w2 k n u) fun d e z hf => by
    unfold dLe at hf
    split at hf
    · exact .inl ⟨_, _, rfl, rfl, okB_inj hf⟩
    · split at hf
      · rename_i hk
        exact .inr ⟨hk, okB_inj hf⟩
      · cases hf
theorem opV_ge (hu : X.A.units + 64 < cLine) : OpR X (compareOp .GtE) (rBin dGe) :=
  ord_gen (r := fun d e => !W.dataLt d e) hu (fun _ _ => rfl) op_ge (fun d e st a b as bs w1 w2 k n u => W.rcGe_alike d e X.A st a b as bs w1 w2 k n u) fun d e z hf => by
    unfold dGe at hf
    split at hf
    · exact .inl ⟨_, _, rfl, rfl, okB_inj hf⟩
    · split at hf
      · rename_i hk
        exact .inr ⟨hk, okB_inj hf⟩
      · cases hf
theorem inV_ints {H : Hp} {i : Int} : ∀ {vs : List V} {ds : List PyData}, RpAll H vs ds → ds.all isIn = true → vs.all flatV = true ∧ inV (.int i) vs = memB (.int i) ds
  | _, _, .nil, _ => ⟨rfl, rfl⟩
  | _, _, .cons (v := v) (vs := vs) (d := d) (ds := ds) a b, h => by
    have h' : (isIn d && ds.all isIn) = true := h
    rw [Bool.and_eq_true] at h'
    obtain ⟨h1, h2⟩ := inV_ints (i := i) b h'.2
    cases a with
    | int j =>
      constructor
      · show (flatV (.int j) && vs.all flatV) = true
        rw [h1]; rfl
      · show (eqV (.int j) (.int i) || inV (.int i) vs) = (PyData.eqv (.int j) (.int i) || memB (.int i) ds)
        rw [h2]; rfl
    | _ => cases h'.1
theorem opV_in (hu : X.A.units + 65 < cLine) : OpR X (compareOp .In) (rBin (dIn false)) := by
  intro pn st sl hp x y vx vy Z inv r1 r2 ⟨A, d, e, z, dm, h1, h2, hf, q⟩
  unfold dIn at hf
  split at hf
  · split at hf
    · rename_i hs
      have hs' := Bool.and_eq_true_iff.mp hs
      cases okB_inj hf
      exact op_inD hu pn st sl hp x y vx vy Z inv r1 r2 ⟨_, _, Rp.dp _ _ _ h1.rp (noDict_of_shaped hs'.1), Rp.dp _ _ _ h2.rp (noDict_of_shaped hs'.2), hs'.1, hs'.2, q _ _ (Same.refl _) (res_bool _)⟩
    · cases hf
  · split at hf
    · rename_i hs
      cases okB_inj hf
      cases h1.int
      have r := h2.rp
      cases r with
      | tup e l ra =>
        obtain ⟨f1, f2⟩ := inV_ints ra hs
        refine op_in_seq pn st sl hp _ _ vx vy Z inv r1 r2 ⟨_, _, rfl, .inr (SqT.of e), rfl, f1, ?_⟩
        rw [f2]
        exact q _ _ (Same.refl _) (res_bool _)
    · cases hf
  · split at hf
    · rename_i hs
      cases okB_inj hf
      obtain ⟨a, o, rfl, _, g, ro⟩ := vw_dg h2 h1 hs
      refine op_inDV (by omega) pn st sl hp _ _ vx vy Z inv r1 r2 ⟨a, o, rfl, g, ?_⟩
      rw [ro.some_eq]
      exact q _ _ (Same.refl _) (res_bool _)
    · cases hf
  · cases hf
theorem opV_notIn (hu : X.A.units + 65 < cLine) : OpR X (compareOp .NotIn) (rBin (dIn true)) := by
  intro pn st sl hp x y vx vy Z inv r1 r2 ⟨A, d, e, z, dm, h1, h2, hf, q⟩
  unfold dIn at hf
  split at hf
  · split at hf
    · rename_i hs
      have hs' := Bool.and_eq_true_iff.mp hs
      cases okB_inj hf
      exact op_notInD hu pn st sl hp x y vx vy Z inv r1 r2 ⟨_, _, Rp.dp _ _ _ h1.rp (noDict_of_shaped hs'.1), Rp.dp _ _ _ h2.rp (noDict_of_shaped hs'.2), hs'.1, hs'.2, q _ _ (Same.refl _) (res_bool _)⟩
    · cases hf
  · split at hf
    · rename_i hs
      cases okB_inj hf
      cases h1.int
      have r := h2.rp
      cases r with
      | tup e l ra =>
        obtain ⟨f1, f2⟩ := inV_ints ra hs
        refine op_notIn_seq pn st sl hp _ _ vx vy Z inv r1 r2 ⟨_, _, rfl, .inr (SqT.of e), rfl, f1, ?_⟩
        rw [f2]
        exact q _ _ (Same.refl _) (res_bool _)
    · cases hf
  · split at hf
    · rename_i hs
      cases okB_inj hf
      obtain ⟨a, o, rfl, _, g, ro⟩ := vw_dg h2 h1 hs
      refine op_notInDV (by omega) pn st sl hp _ _ vx vy Z inv r1 r2 ⟨a, o, rfl, g, ?_⟩
      rw [ro.some_eq]
      exact q _ _ (Same.refl _) (res_bool _)
    · cases hf
  · cases hf
def isNn : PyData → Bool
  | .none => true
  | _ => false
def dIs (neg : Bool) : PyData → PyData → Rs PyData
  | d, .none => okB (if neg then !isNn d else isNn d)
  | .bool b, .bool c => okB (if neg then !decide (b = c) else decide (b = c))
  | _, _ => .no
theorem nonB {A : List Addr} {H : Hp} {kp : Bool} {v : V} {d : PyData} (h : Vw A H kp v d) : decide (v = .non) = isNn d := by
  have e := h.non_iff
  by_cases k : v = .non
  · rw [decide_eq_true k, e.mp k]
    rfl
  · rw [decide_eq_false k]
    cases d <;> first | rfl | exact absurd (e.mpr rfl) k
theorem opV_is : OpR X (compareOp .Is) (rBin (dIs false)) := by
  intro pn st sl hp x y vx vy Z inv r1 r2 ⟨A, d, e, z, dm, h1, h2, hf, q⟩
  unfold dIs at hf
  split at hf
  · cases okB_inj hf
    refine op_isN pn st sl hp x y vx vy Z inv r1 r2 ⟨h2.non, ?_⟩
    rw [nonB h1]
    exact q _ _ (Same.refl _) (res_bool _)
  · cases okB_inj hf
    exact op_isBl pn st sl hp x y vx vy Z inv r1 r2 ⟨_, _, h1.bool, h2.bool, q _ _ (Same.refl _) (res_bool _)⟩
  · cases hf
theorem opV_isNot : OpR X (compareOp .IsNot) (rBin (dIs true)) := by
  intro pn st sl hp x y vx vy Z inv r1 r2 ⟨A, d, e, z, dm, h1, h2, hf, q⟩
  unfold dIs at hf
  split at hf
  · cases okB_inj hf
    refine op_notN pn st sl hp x y vx vy Z inv r1 r2 ⟨h2.non, ?_⟩
    rw [nonB h1]
    exact q _ _ (Same.refl _) (res_bool _)
  · cases okB_inj hf
    exact op_notBl pn st sl hp x y vx vy Z inv r1 r2 ⟨_, _, h1.bool, h2.bool, q _ _ (Same.refl _) (res_bool _)⟩
  · cases hf
def dCmp : CmpOp → PyData → PyData → Rs PyData
  | .Eq => dEq
  | .NotEq => dNe
  | .Lt => dLt
  | .LtE => dLe
  | .Gt => dGt
  | .GtE => dGe
  | .Is => dIs false
  | .IsNot => dIs true
  | .In => dIn false
  | .NotIn => dIn true
theorem opV_cmp (hu : X.A.units + 65 < cLine) (op : CmpOp) : OpR X (compareOp op) (rBin (dCmp op)) := by
  have hu' : X.A.units + 64 < cLine := by omega
  cases op
  · exact opV_eq hu'
  · exact opV_ne hu'
  · exact opV_lt hu'
  · exact opV_le hu'
  · exact opV_gt hu'
  · exact opV_ge hu'
  · exact opV_is
  · exact opV_isNot
  · exact opV_in hu
  · exact opV_notIn hu
end
end Sm

/-! Subscripts, slices, truth, built-ins on data. -/
namespace Sm
open PySem L2

/-! ### the semantics -/
def ofOpt {α : Type} : Option α → Rs α
  | some a => .ok a
  | none => .no
def dIx : PyData → PyData → Rs PyData
  | .list ds, .int i => ofOpt (atI ds i)
  | .tuple ds, .int i => ofOpt (atI ds i)
  | .str x, .int i => ofOpt ((atI x.cps.toList i).map fun c => .str ⟨#[c]⟩)
  | .dict kvs, q => if kindB kvs q then ofOpt (lookD kvs q) else .no
  | _, _ => .no
def cutD {α : Type} (xs : List α) (lo hi : Option Int) : List α := (xs.drop (HT.sIx xs.length 0 lo)).take (HT.sIx xs.length xs.length hi - HT.sIx xs.length 0 lo)
def dSl (d : PyData) (lo hi : Option Int) : Rs PyData :=
  match d with
  | .list ds => .ok (.list (cutD ds lo hi))
  | .tuple ds => .ok (.tuple (cutD ds lo hi))
  | _ => .no
def dTru : PyData → Rs Bool
  | .none => .ok false
  | .bool b => .ok b
  | .int i => .ok (i != 0)
  | .str x => .ok ((x.length : Int) != 0)
  | .list ds => .ok (!ds.isEmpty)
  | .tuple ds => .ok (!ds.isEmpty)
  | .dict _ => .no
def dLen : List PyData → Rs PyData
  | [.list ds] => okI ds.length
  | [.tuple ds] => okI ds.length
  | [.str x] => okI x.length
  | [.dict kvs] => if kindB kvs (.int 0) then okI kvs.length else .no
  | _ => .no
def dAbs : List PyData → Rs PyData
  | [.int i] => okI (if i < 0 then -i else i)
  | _ => .no
def intsOf : List PyData → Option (List Int)
  | [] => some []
  | .int i :: ds => (intsOf ds).map (i :: ·)
  | _ :: _ => none
def boolsOf : List PyData → Option (List Bool)
  | [] => some []
  | .bool i :: ds => (boolsOf ds).map (i :: ·)
  | _ :: _ => none
def maxI : Int → List Int → Int
  | m, [] => m
  | m, x :: xs => maxI (if x > m then x else m) xs
def minI : Int → List Int → Int
  | m, [] => m
  | m, x :: xs => minI (if x < m then x else m) xs
def dMax : List PyData → Rs PyData
  | [.int i, .int j] => okI (if j > i then j else i)
  | [.list ds] => match intsOf ds with
    | some (n :: ns) => okI (maxI n ns)
    | _ => .no
  | _ => .no
/-- the least of tuples -/
def minOk (ds : List PyData) : Prop := W.AlikeAll ds ∧ PyData.hasDictAll ds = false ∧ PyData.depthAll ds ≤ 60 ∧ ∀ d ∈ ds, ∃ xs, d = .tuple xs
open Classical in
noncomputable def minT : List PyData → Rs PyData
  | [] => .no
  | d :: ds => if minOk (d :: ds) then .ok (W.minD d ds) else .no
noncomputable def dMin : List PyData → Rs PyData
  | [.int i, .int j] => okI (if j < i then j else i)
  | [.list ds] => match intsOf ds with
    | some (n :: ns) => okI (minI n ns)
    | _ => minT ds
  | _ => .no
theorem minT_nx (ds : List PyData) (c : Str) (x : PyData) : minT ds ≠ .exc c x := by
  cases ds with
  | nil => simp [minT]
  | cons d ds =>
    by_cases h : minOk (d :: ds)
    · simp [minT, h]
    · simp [minT, h]
def dInt : List PyData → Rs PyData
  | [.int i] => okI i
  | [.bool b] => okI (if b then 1 else 0)
  | _ => .no
def dSum : List PyData → Rs PyData
  | [.list ds] => match intsOf ds with
    | some ns => okI ns.sum
    | none => .no
  | _ => .no
def dAny : List PyData → Rs PyData
  | [.list ds] => match boolsOf ds with
    | some bs => okB (bs.any id)
    | none => .no
  | _ => .no
def dAll : List PyData → Rs PyData
  | [.list ds] => match boolsOf ds with
    | some bs => okB (bs.all id)
    | none => .no
  | _ => .no
def dList : List PyData → Rs PyData
  | [.list ds] => .ok (.list ds)
  | [.tuple ds] => .ok (.list ds)
  | _ => .no
def dTuple : List PyData → Rs PyData
  | [.list ds] => .ok (.tuple ds)
  | [.tuple ds] => .ok (.tuple ds)
  | _ => .no

/-! ### helpers -/
theorem intsOf_eq : ∀ {ds : List PyData} {ns : List Int}, intsOf ds = some ns → ds = ns.map .int
  | [], ns, h => by cases h; rfl
  | d :: ds, ns, h => by
    cases d <;> simp only [intsOf, reduceCtorEq] at h
    rename_i i
    cases e : intsOf ds with
    | none => rw [e] at h; cases h
    | some ms =>
      rw [e] at h
      cases h
      rw [intsOf_eq e]
      rfl
theorem intsOf_map : ∀ ns : List Int, intsOf (ns.map .int) = some ns
  | [] => rfl
  | n :: ns => by simp [intsOf, intsOf_map ns]
theorem boolsOf_eq : ∀ {ds : List PyData} {ns : List Bool}, boolsOf ds = some ns → ds = ns.map .bool
  | [], ns, h => by cases h; rfl
  | d :: ds, ns, h => by
    cases d <;> simp only [boolsOf, reduceCtorEq] at h
    rename_i i
    cases e : boolsOf ds with
    | none => rw [e] at h; cases h
    | some ms =>
      rw [e] at h
      cases h
      rw [boolsOf_eq e]
      rfl
theorem boolsOf_map : ∀ ns : List Bool, boolsOf (ns.map .bool) = some ns
  | [] => rfl
  | n :: ns => by simp [boolsOf, boolsOf_map ns]
theorem maxI_spec : ∀ (m : Int) (xs : List Int), maxI m xs ∈ m :: xs ∧ ∀ y ∈ m :: xs, y ≤ maxI m xs
  | m, [] => by simp [maxI]
  | m, x :: xs => by
    have h := maxI_spec (if x > m then x else m) xs
    have e : maxI m (x :: xs) = maxI (if x > m then x else m) xs := rfl
    rw [e]
    refine ⟨?_, fun y hy => ?_⟩
    · rcases List.mem_cons.mp h.1 with k | k
      · rw [k]
        by_cases c : x > m
        · rw [if_pos c]; simp
        · rw [if_neg c]; simp
      · exact List.mem_cons_of_mem _ (List.mem_cons_of_mem _ k)
    · have top := h.2 _ List.mem_cons_self
      rcases List.mem_cons.mp hy with rfl | hy
      · by_cases c : x > y
        · rw [if_pos c] at top ⊢; omega
        · rw [if_neg c] at top ⊢; omega
      · rcases List.mem_cons.mp hy with rfl | hy
        · by_cases c : y > m
          · rw [if_pos c] at top ⊢; omega
          · rw [if_neg c] at top ⊢; omega
        · exact h.2 y (List.mem_cons_of_mem _ hy)
theorem minI_spec : ∀ (m : Int) (xs : List Int), minI m xs ∈ m :: xs ∧ ∀ y ∈ m :: xs, minI m xs ≤ y
  | m, [] => by simp [minI]
  | m, x :: xs => by
    have h := minI_spec (if x < m then x else m) xs
    have e : minI m (x :: xs) = minI (if x < m then x else m) xs := rfl
    rw [e]
    refine ⟨?_, fun y hy => ?_⟩
    · rcases List.mem_cons.mp h.1 with k | k
      · rw [k]
        by_cases c : x < m
        · rw [if_pos c]; simp
        · rw [if_neg c]; simp
      · exact List.mem_cons_of_mem _ (List.mem_cons_of_mem _ k)
    · have top := h.2 _ List.mem_cons_self
      rcases List.mem_cons.mp hy with rfl | hy
      · by_cases c : x < y
        · rw [if_pos c] at top ⊢; omega
        · rw [if_neg c] at top ⊢; omega
      · rcases List.mem_cons.mp hy with rfl | hy
        · by_cases c : y < m
          · rw [if_pos c] at top ⊢; omega
          · rw [if_neg c] at top ⊢; omega
        · exact h.2 y (List.mem_cons_of_mem _ hy)
theorem RpAll.atI {H : Hp} {vs : List V} {ds : List PyData} {i : Int} {d : PyData} (r : RpAll H vs ds) (h : atI ds i = some d) : ∃ v, atI vs i = some v ∧ Rp H v d := by
  unfold L2.atI at h ⊢
  rw [r.len]
  cases e : ixN ds.length i with
  | none => rw [e] at h; cases h
  | some j =>
    rw [e] at h
    exact r.get h
theorem RpAll.cut {H : Hp} {vs : List V} {ds : List PyData} (r : RpAll H vs ds) (lo hi : Option Int) : RpAll H (cutV vs lo hi) (cutD ds lo hi) := by
  unfold cutV cutD
  rw [r.len]
  exact (r.drop _).take _

/-! ### by values -/
/-- a part of a value: kept, not new -/
def rSel (f : PyData → PyData → Rs PyData) : R2 := fun x y H Q => ∃ (A : List Addr) (d e z : PyData), Dom A H ∧ Vw A H false x d ∧ Vw A H false y e ∧ f d e = .ok z ∧
  ∀ w H', Same H H' → Res A true false H H' w z → Q w H'
def rCall (f : List PyData → Rs PyData) (fr : Bool) : List V → Hp → VK → Prop := fun xs H Q => ∃ (A : List Addr) (ds : List PyData) (z : PyData), Dom A H ∧ Paired (fun v d => Vw A H false v d) xs ds ∧ f ds = .ok z ∧
  ∀ w H', Same H H' → Res A true fr H H' w z → Q w H'
def rSlc : V → Option Int → Option Int → Hp → VK → Prop := fun x lo hi H Q => ∃ (A : List Addr) (d z : PyData), Dom A H ∧ Vw A H false x d ∧ dSl d lo hi = .ok z ∧
  ∀ w H', Same H H' → Res A true true H H' w z → Q w H'
section
variable {X : Cx}
theorem ixV (hu : X.A.units + 65 < cLine) : IxR X (rSel dIx) := by
  intro ve sl pn st sg hp x y vx vy Z inv r1 r2 ⟨A, d, e, z, dm, h1, h2, hf, q⟩ hs
  unfold dIx at hf
  split at hf
  · rename_i ds i
    cases hx : atI ds i with
    | none => rw [hx] at hf; cases hf
    | some u =>
      rw [hx] at hf
      cases hf
      obtain ⟨a, us, rfl, ha, _, ra⟩ := h1.list
      obtain ⟨v, hv, rv⟩ := ra.atI hx
      exact ix_list ve sl pn st sg hp _ _ vx vy Z inv r1 r2 ⟨a, us, i, v, rfl, h2.int, .inl (.inl ha), hv, q _ _ (Same.refl _) (Res.ofKeep rv)⟩ hs
  · rename_i ds i
    cases hx : atI ds i with
    | none => rw [hx] at hf; cases hf
    | some u =>
      rw [hx] at hf
      cases hf
      obtain ⟨a, us, rfl, ha, _, ra⟩ := h1.tuple
      obtain ⟨v, hv, rv⟩ := ra.atI hx
      exact ix_tup ve sl pn st sg hp _ _ vx vy Z inv r1 r2 ⟨a, us, i, v, rfl, h2.int, .inl (.inl ha), hv, q _ _ (Same.refl _) (Res.ofKeep rv)⟩ hs
  · rename_i x' i
    cases hx : atI x'.cps.toList i with
    | none => rw [hx] at hf; cases hf
    | some c =>
      rw [hx] at hf
      cases hf
      obtain ⟨rfl, hl⟩ := h1.str
      exact ix_str ve sl pn st sg hp _ _ vx vy Z inv r1 r2 ⟨_, i, c, rfl, h2.int, hl, hx, q _ _ (Same.refl _) (res_str _ (by show 1 ≤ sizeLine; decide)).weak⟩ hs
  · split at hf
    · rename_i kvs hk
      obtain ⟨a, o, rfl, _, g, ro⟩ := vw_dg h1 h2 hk
      cases hx : lookD kvs _ with
      | none => rw [hx] at hf; cases hf
      | some u =>
        rw [hx] at hf ro
        cases hf
        cases o with
        | none => exact ro.elim
        | some v =>
          rcases g with g | ⟨z, _⟩
          · exact ix_dictV (by omega) ve sl pn st sg hp _ _ vx vy Z inv r1 r2 ⟨a, v, rfl, g, q _ _ (Same.refl _) (Res.ofKeep ro)⟩ hs
          · cases z
    · cases hf
  · cases hf
theorem slV : SlR X rSlc := by
  intro pn st sg hp x vx vl vu lo hi sl Z inv r1 hs pl pu ⟨A, d, z, dm, h1, hf, q⟩
  unfold dSl at hf
  split at hf
  · cases hf
    obtain ⟨a, us, rfl, ha, hz, ra⟩ := h1.list
    exact sl_list pn st sg hp _ vx vl vu lo hi sl Z inv r1 hs pl pu ⟨a, us, rfl, .inl (.inl ha), fun p np => q _ _ (same_new np) (Res.newL dm (ra.cut lo hi) (Nat.le_trans (cutV_length us lo hi) hz) np (Same.refl _))⟩
  · cases hf
    rename_i ds
    obtain ⟨a, us, rfl, ha, hz, ra⟩ := h1.tuple
    refine sl_tupA pn st sg hp _ vx vl vu lo hi sl Z inv r1 hs pl pu ⟨a, us, rfl, .inl (.inl ha), fun hw => ?_, fun _ p np => q _ _ (same_new np) (Res.newT dm (ra.cut lo hi) (Nat.le_trans (cutV_length us lo hi) hz) np)⟩
    have e : cutD ds lo hi = ds := by
      unfold cutD
      rw [← ra.len, hw.1, hw.2, ra.len]
      simp
    rw [e] at q
    exact q _ _ (Same.refl _) ⟨.inl h1.tup_kept, fun _ => True.intro⟩
  · cases hf
theorem truV {A : List Addr} {H : Hp} {kp : Bool} {v : V} {d : PyData} {k : Bool} (K : W.Frag) (h : Vw A H kp v d) (e : dTru d = .ok k) : TruV K v H k := by
  unfold dTru at e
  split at e <;> cases e
  · rw [h.non]; rfl
  · rw [h.bool]; rfl
  · rw [h.int]; rfl
  · obtain ⟨rfl, hl⟩ := h.str
    exact ⟨hl, rfl⟩
  · obtain ⟨a, us, rfl, ha, hz, ra⟩ := h.list
    refine .inl ⟨us, .inl (.inl ha), ?_⟩
    cases ra <;> rfl
  · obtain ⟨a, us, rfl, ha, hz, ra⟩ := h.tuple
    refine .inr (.inl ⟨us, .inl (.inl ha), ?_⟩)
    cases ra <;> rfl

theorem vw1 {A : List Addr} {H : Hp} {xs : List V} {d : PyData} (h : Paired (fun v d => Vw A H false v d) xs [d]) : ∃ v, xs = [v] ∧ Vw A H false v d := by
  cases h with
  | cons a b => cases b; exact ⟨_, rfl, a⟩
theorem vw2 {A : List Addr} {H : Hp} {xs : List V} {d e : PyData} (h : Paired (fun v d => Vw A H false v d) xs [d, e]) : ∃ v w, xs = [v, w] ∧ Vw A H false v d ∧ Vw A H false w e := by
  cases h with
  | cons a b =>
    obtain ⟨w, rfl, hw⟩ := vw1 b
    exact ⟨_, _, rfl, a, hw⟩
theorem call_lenDV : CallR X (.builtin "len") (fun xs H Q => ∃ a kvs, xs = [V.ref a] ∧ Rd H a (.dK kvs) ∧ Q (.int kvs.length) H) := by
  intro pn st sg hp xs us Z inv r ⟨a, kvs, e, ea, q⟩
  subst e
  cases r with
  | cons r1 r2 =>
    cases r2
    cases (show _ = Value.ref a from r1)
    exact d_len inv ea fun t s' inv' => ⟨.int kvs.length, hp, inv', ⟨t, rfl⟩, q⟩
theorem callV_len : CallR X (.builtin "len") (rCall dLen true) := by
  intro pn st sg hp xs us Z inv r ⟨A, ds, z, dm, h, hf, q⟩
  unfold dLen at hf
  split at hf
  · cases okI_inj hf
    obtain ⟨v, rfl, hv⟩ := vw1 h
    obtain ⟨a, ws, rfl, ha, hz, ra⟩ := hv.list
    refine call_len_seq pn st sg hp _ us Z inv r ⟨a, ws, rfl, .inl (.inl (.inl ha)), ?_⟩
    rw [ra.len]
    exact q _ _ (Same.refl _) (res_int _)
  · cases okI_inj hf
    obtain ⟨v, rfl, hv⟩ := vw1 h
    obtain ⟨a, ws, rfl, ha, hz, ra⟩ := hv.tuple
    refine call_len_seq pn st sg hp _ us Z inv r ⟨a, ws, rfl, .inr (.inl (.inl ha)), ?_⟩
    rw [ra.len]
    exact q _ _ (Same.refl _) (res_int _)
  · cases okI_inj hf
    obtain ⟨v, rfl, hv⟩ := vw1 h
    obtain ⟨rfl, hl⟩ := hv.str
    exact call_len_str pn st sg hp _ us Z inv r ⟨_, rfl, hl, q _ _ (Same.refl _) (res_int _)⟩
  · split at hf
    · rename_i kvs hk
      cases okI_inj hf
      obtain ⟨v, rfl, hv⟩ := vw1 h
      obtain ⟨a, rfl, hd⟩ := hv.dict
      rcases hd with ⟨ks, e, rk⟩ | ⟨ks, e, ne, rk⟩
      · refine call_lenDV pn st sg hp _ us Z inv r ⟨a, ks, rfl, e, ?_⟩
        rw [rk.len]
        exact q _ _ (Same.refl _) (res_int _)
      · cases rk with
        | nil => exact absurd rfl ne
        | cons z1 z2 => simp [kindB, keyC_tup, keyC] at hk
    · cases hf
  · cases hf
theorem callV_abs : CallR X (.builtin "abs") (rCall dAbs true) := by
  intro pn st sg hp xs us Z inv r ⟨A, ds, z, dm, h, hf, q⟩
  unfold dAbs at hf
  split at hf
  · cases okI_inj hf
    obtain ⟨v, rfl, hv⟩ := vw1 h
    rw [hv.int] at r
    exact call_abs pn st sg hp _ us Z inv r ⟨_, rfl, q _ _ (Same.refl _) (res_int _)⟩
  · cases hf
theorem callV_max (hc : X.calm = true) : CallR X (.builtin "max") (rCall dMax true) := by
  intro pn st sg hp xs us Z inv r ⟨A, ds, z, dm, h, hf, q⟩
  unfold dMax at hf
  split at hf
  · cases okI_inj hf
    obtain ⟨v, w, rfl, hv, hw⟩ := vw2 h
    rw [hv.int, hw.int] at r
    exact call_max2 hc pn st sg hp _ us Z inv r ⟨_, _, rfl, q _ _ (Same.refl _) (res_int _)⟩
  · split at hf
    · rename_i n ns he
      cases okI_inj hf
      obtain ⟨v, rfl, hv⟩ := vw1 h
      obtain ⟨a, ws, rfl, ha, hz, ra⟩ := hv.list
      rw [intsOf_eq he] at ra
      have ew := ra.ints
      subst ew
      refine cr_max hc pn st sg hp _ us Z inv r ⟨a, n :: ns, rfl, .inl (.inl ha), by simp, fun m hm hle => ?_⟩
      have sp := maxI_spec n ns
      have e : m = maxI n ns := by
        have h1 := hle _ sp.1
        have h2 := sp.2 m hm
        omega
      rw [e]
      exact q _ _ (Same.refl _) (res_int _)
    · cases hf
  · cases hf
theorem rp_at {H : Hp} : ∀ {ws : List V} {its : List Value} {ds : List PyData}, Vals ws its → RpAll H ws ds → ∀ (i : Nat) (v : Value), its[i]? = some v → ∃ w d, RelV w v ∧ Rp H w d ∧ d ∈ ds
  | [], _, _, r, _, i, v, h => by
    cases r
    simp at h
  | w :: ws, _, _, r, ra, i, v, h => by
    cases ra with
    | @cons _ _ d ds h1 h2 =>
      cases r with
      | cons r1 r2 =>
        cases i with
        | zero =>
          simp only [List.getElem?_cons_zero, Option.some.injEq] at h
          subst h
          exact ⟨w, d, r1, h1, List.mem_cons_self⟩
        | succ i =>
          simp only [List.getElem?_cons_succ] at h
          obtain ⟨w', d', a, b, c⟩ := rp_at r2 h2 i v h
          exact ⟨w', d', a, b, List.mem_cons_of_mem _ c⟩
theorem noDict_mem : ∀ {ds : List PyData} {d : PyData}, PyData.hasDictAll ds = false → d ∈ ds → d.hasDict = false
  | d0 :: ds, d, h, hm => by
    have h' : (d0.hasDict || PyData.hasDictAll ds) = false := h
    rw [Bool.or_eq_false_iff] at h'
    rcases List.mem_cons.mp hm with e | e
    · rw [e]; exact h'.1
    · exact noDict_mem h'.2 e
theorem callV_min (hc : X.calm = true) (hu : X.A.units + 65 < cLine) : CallR X (.builtin "min") (rCall dMin true) := by
  intro pn st sg hp xs us Z inv r ⟨A, ds, z, dm, h, hf, q⟩
  unfold dMin at hf
  split at hf
  · cases okI_inj hf
    obtain ⟨v, w, rfl, hv, hw⟩ := vw2 h
    rw [hv.int, hw.int] at r
    exact call_min2 hc pn st sg hp _ us Z inv r ⟨_, _, rfl, q _ _ (Same.refl _) (res_int _)⟩
  · split at hf
    · rename_i n ns he
      cases okI_inj hf
      obtain ⟨v, rfl, hv⟩ := vw1 h
      obtain ⟨a, ws, rfl, ha, hz, ra⟩ := hv.list
      rw [intsOf_eq he] at ra
      have ew := ra.ints
      subst ew
      refine cr_min hc pn st sg hp _ us Z inv r ⟨a, n :: ns, rfl, .inl (.inl ha), by simp, fun m hm hle => ?_⟩
      have sp := minI_spec n ns
      have e : m = minI n ns := by
        have h1 := hle _ sp.1
        have h2 := sp.2 m hm
        omega
      rw [e]
      exact q _ _ (Same.refl _) (res_int _)
    · rename_i ds _
      unfold minT at hf
      split at hf
      · cases hf
      · rename_i d0 dt _
        split at hf
        · rename_i ok
          cases hf
          obtain ⟨o1, o2, o3, o4⟩ := ok
          obtain ⟨v, rfl, hv⟩ := vw1 h
          obtain ⟨a, ws, rfl, ha, hz, ra⟩ := hv.list
          obtain ⟨u, rfl, ru⟩ := vals1 r
          obtain rfl : u = Value.ref a := ru
          obtain ⟨its, rv, pl, _⟩ := inv.list (SqL.of ha)
          obtain ⟨as, hr⟩ := Dp.readsAll inv _ _ its (RpAll.dp X.K _ _ (ra.mono hide_le) o2) rv
          refine W.min_list_data (inv.ok.hd hc) pl.isList (vs := its.toArray) (by simpa using hr) o1 (by omega) (fun i v h' tk bs hi rd hk => ?_)
          obtain ⟨w, d, rw', rp, hm⟩ := rp_at rv ra i v (by simpa using hi)
          obtain ⟨bs', rd'⟩ := Dp.reads inv d w v (Rp.dp X.K d w (rp.mono hide_le) (noDict_mem o2 hm)) rw'
          have e : d = W.minD d0 dt := (W.reads_keeps hk rd').unique _ _ rd |>.1
          obtain ⟨xs, ex⟩ := o4 d hm
          have n1 : ∀ l, W.minD d0 dt ≠ .list l := by rw [← e, ex]; intro _ h; cases h
          have n2 : ∀ l, W.minD d0 dt ≠ .dict l := by rw [← e, ex]; intro _ h; cases h
          have rp' : Rp (Hide A hp) w (W.minD d0 dt) := e ▸ rp
          exact ⟨w, hp, inv.kept hk, rw', q _ _ (Same.refl _) (Res.flat rp' n1 n2)⟩
        · cases hf
  · cases hf
theorem callV_int : CallR X (.type "int") (rCall dInt true) := by
  intro pn st sg hp xs us Z inv r ⟨A, ds, z, dm, h, hf, q⟩
  unfold dInt at hf
  split at hf
  · cases okI_inj hf
    obtain ⟨v, rfl, hv⟩ := vw1 h
    rw [hv.int] at r
    exact call_int1 pn st sg hp _ us Z inv r (.inl ⟨_, rfl, q _ _ (Same.refl _) (res_int _)⟩)
  · cases okI_inj hf
    obtain ⟨v, rfl, hv⟩ := vw1 h
    rw [hv.bool] at r
    exact call_int1 pn st sg hp _ us Z inv r (.inr ⟨_, rfl, q _ _ (Same.refl _) (res_int _)⟩)
  · cases hf
theorem callV_sum (hc : X.calm = true) : CallR X (.builtin "sum") (rCall dSum true) := by
  intro pn st sg hp xs us Z inv r ⟨A, ds, z, dm, h, hf, q⟩
  unfold dSum at hf
  split at hf
  · split at hf
    · rename_i ns he
      cases okI_inj hf
      obtain ⟨v, rfl, hv⟩ := vw1 h
      obtain ⟨a, ws, rfl, ha, hz, ra⟩ := hv.list
      rw [intsOf_eq he] at ra
      have ew := ra.ints
      subst ew
      exact cr_sum hc pn st sg hp _ us Z inv r ⟨a, ns, rfl, .inl (.inl ha), q _ _ (Same.refl _) (res_int _)⟩
    · cases hf
  · cases hf
theorem callV_any (hc : X.calm = true) : CallR X (.builtin "any") (rCall dAny true) := by
  intro pn st sg hp xs us Z inv r ⟨A, ds, z, dm, h, hf, q⟩
  unfold dAny at hf
  split at hf
  · split at hf
    · rename_i ns he
      cases okB_inj hf
      obtain ⟨v, rfl, hv⟩ := vw1 h
      obtain ⟨a, ws, rfl, ha, hz, ra⟩ := hv.list
      rw [boolsOf_eq he] at ra
      have ew := ra.bools
      subst ew
      exact cr_any hc pn st sg hp _ us Z inv r ⟨a, ns, rfl, .inl (.inl ha), q _ _ (Same.refl _) (res_bool _)⟩
    · cases hf
  · cases hf
theorem callV_all (hc : X.calm = true) : CallR X (.builtin "all") (rCall dAll true) := by
  intro pn st sg hp xs us Z inv r ⟨A, ds, z, dm, h, hf, q⟩
  unfold dAll at hf
  split at hf
  · split at hf
    · rename_i ns he
      cases okB_inj hf
      obtain ⟨v, rfl, hv⟩ := vw1 h
      obtain ⟨a, ws, rfl, ha, hz, ra⟩ := hv.list
      rw [boolsOf_eq he] at ra
      have ew := ra.bools
      subst ew
      exact cr_all hc pn st sg hp _ us Z inv r ⟨a, ns, rfl, .inl (.inl ha), q _ _ (Same.refl _) (res_bool _)⟩
    · cases hf
  · cases hf
theorem callV_list : CallR X (.type "list") (rCall dList true) := by
  intro pn st sg hp xs us Z inv r ⟨A, ds, z, dm, h, hf, q⟩
  unfold dList at hf
  split at hf
  · cases hf
    obtain ⟨v, rfl, hv⟩ := vw1 h
    obtain ⟨a, ws, rfl, ha, hz, ra⟩ := hv.list
    exact call_list_of pn st sg hp _ us Z inv r ⟨a, ws, rfl, .inl (.inl (.inl ha)), fun p np => q _ _ (same_new np) (Res.newL dm ra hz np (Same.refl _))⟩
  · cases hf
    obtain ⟨v, rfl, hv⟩ := vw1 h
    obtain ⟨a, ws, rfl, ha, hz, ra⟩ := hv.tuple
    exact call_list_of pn st sg hp _ us Z inv r ⟨a, ws, rfl, .inr (.inl (.inl ha)), fun p np => q _ _ (same_new np) (Res.newL dm ra hz np (Same.refl _))⟩
  · cases hf
theorem callV_tuple : CallR X (.type "tuple") (rCall dTuple true) := by
  intro pn st sg hp xs us Z inv r ⟨A, ds, z, dm, h, hf, q⟩
  unfold dTuple at hf
  split at hf
  · cases hf
    obtain ⟨v, rfl, hv⟩ := vw1 h
    obtain ⟨a, ws, rfl, ha, hz, ra⟩ := hv.list
    exact call_tuple_of pn st sg hp _ us Z inv r ⟨a, ws, rfl, .inl ⟨.inl (.inl ha), fun p np => q _ _ (same_new np) (Res.newT dm ra hz np)⟩⟩
  · cases hf
    obtain ⟨v, rfl, hv⟩ := vw1 h
    obtain ⟨a, ws, rfl, ha, hz, ra⟩ := hv.tuple
    exact call_tuple_of pn st sg hp _ us Z inv r ⟨a, ws, rfl, .inr ⟨.inl (.inl ha), q _ _ (Same.refl _) ⟨.inl hv.tup_kept, fun _ => True.intro⟩⟩⟩
  · cases hf
end
end Sm

/-! A def's promise where nothing around it writes a repr; its call; a law's end. -/
namespace Sm
open PySem PySem.Spec PyProof.Rows L2

structure FnG (P : Program) (w : World) (K : W.Frag) (mg : Str → Option Value) (base : Heap) (k : Nat) (f : Addr) (fd : FuncData) (ps : List Str) (sp : Sp) : Prop where
  len : ∀ vs H Z E, sp vs H Z E → vs.length = ps.length
  run : ∀ (A : Around) (fr : List Env) (st : Shared) (H : Hp) (ar : Args) (us : List Value) (vs : List V) (Z : VK) (E : XK), Room k A → A.guards = some [] →
    Env0 P w K mg base A fr st H → BindsTo st fd ar (ps.zip us) → Vals vs us → sp vs H Z E → codeAny (model P w) A (.call (.ref f) ar) (CR (L2.CX P w) fr P w H st Z E) st
theorem FnG.imp {P : Program} {w : World} {K : W.Frag} {mg : Str → Option Value} {base : Heap} {k : Nat} {f : Addr} {fd : FuncData} {ps : List Str} {sp sp' : Sp} (F : FnG P w K mg base k f fd ps sp) (h : ∀ vs H Z E, sp' vs H Z E → sp vs H Z E) : FnG P w K mg base k f fd ps sp' :=
  ⟨fun vs H Z E q => F.len vs H Z E (h _ _ _ _ q), fun A fr st H ar us vs Z E r g e b v q => F.run A fr st H ar us vs Z E r g e b v (h _ _ _ _ q)⟩
theorem FnG.mono {P : Program} {w : World} {K : W.Frag} {mg : Str → Option Value} {base : Heap} {j k : Nat} {f : Addr} {fd : FuncData} {ps : List Str} {sp : Sp} (F : FnG P w K mg base j f fd ps sp) (h : j ≤ k) : FnG P w K mg base k f fd ps sp :=
  ⟨F.len, fun A fr st H ar us vs Z E r => F.run A fr st H ar us vs Z E (r.mono h)⟩

section
variable {X : Cx} {W : WX} {k : Nat} {f : Addr} {fd : FuncData} {ps : List Str} {sp : Sp}
theorem runG {pn : List (Addr × Obj)} {sg : L2.St} {H : Hp} {st : Shared} {Z : VK} {us : List Value} {vs : List V} (F : FnG X.prog X.w X.K X.mg X.base k f fd ps sp) (hr : Room k X.A) (hg : X.A.guards = some [])
    (hb : Binds X.K fd ps []) (tk : Takes X W) (inv : Inv X pn sg H st) (r : Vals vs us) (h : sp vs H Z fun c d H' => W c d sg H') :
    wpAny (model X.prog X.w) X.A (call (.ref f) us) (EP X pn sg Z) X.xe st := by
  have hl : us.length = ps.length := r.length.symm.trans (F.len _ _ _ _ h)
  have hbb : BindsTo st fd ⟨us, []⟩ (ps.zip us) := by
    have q := hb st us inv.kIn (by rw [List.append_nil]; exact hl)
    rwa [List.append_nil] at q
  refine wpAny_call (codeAny_mono (F.run X.A X.stack st H ⟨us, []⟩ us vs Z _ hr hg inv.env0 hbb r h) fun re st' hq => ?_)
  match re, hq with
  | .error e, hq => exact tk e st' (XE.of_call (W := W) inv (fun _ _ _ z => z) hq)
  | .ok (.ret u), hq => exact inv.after hq
  | .ok .next, hq => exact hq.elim
  | .ok .brk, hq => exact hq.elim
  | .ok .cont, hq => exact hq.elim
variable {x : Str} {p pos : Pos} {e : Expr} {es : List Expr} {t : TA}
theorem peG_call (F : FnG X.prog X.w X.K X.mg X.base k f fd ps sp) (hr : Room k X.A) (hg : X.A.guards = some []) (gl : Gl X x) (hm : X.mg x = some (.ref f)) (hk : PySem.W.keepIn X.K (.ref f) = true)
    (hb : Binds X.K fd ps []) (tk : Takes X W) (ha : PA X (e :: es) t) (nd : (x == ("__debug__" : Str)) = false)
    (he : starEach (e :: es) X.env = (false, eval e X.env) :: starEach es X.env) (hpl : (backTo pos (starEach es X.env)).any (·.1) = false) :
    PE X (.Call (.Name x p) (e :: es) [] pos) (fun sg H Z => t sg H fun vs H1 => sp vs H1 Z fun c d H' => W c d sg H') := by
  constructor
  intro pn st sg H Z inv h
  refine wpAny_Call_Name_kw (ld_glob inv gl hm ?_ nd)
  refine PySem.W.callWith_K (h₀ := X.base) inv.ok.mod.kin hk (thn (ha.run pos pn st sg H _ inv h) ?_) he hpl
  rintro us st1 ⟨vs, H1, inv1, r, q⟩
  exact ⟨inv1.kIn, runG F hr hg hb tk inv1 r q⟩
theorem peG_call0 (F : FnG X.prog X.w X.K X.mg X.base k f fd ps sp) (hr : Room k X.A) (hg : X.A.guards = some []) (gl : Gl X x) (hm : X.mg x = some (.ref f)) (hk : PySem.W.keepIn X.K (.ref f) = true)
    (hb : Binds X.K fd ps []) (tk : Takes X W) (nd : (x == ("__debug__" : Str)) = false) : PE X (.Call (.Name x p) [] [] pos) (fun sg H Z => sp [] H Z fun c d H' => W c d sg H') := by
  constructor
  intro pn st sg H Z inv h
  refine wpAny_Call_Name_kw (ld_glob inv gl hm ?_ nd)
  exact PySem.W.callWith_K0 inv.kIn hk (runG (us := []) F hr hg hb tk inv .nil h)
end

/-- a def by its body -/
theorem fnG_of {P : Program} {w : World} {K : W.Frag} {mg : Str → Option Value} {base : Heap} {k : Nat} {f : Addr} {name qual : Str} {params : Arguments} {body : List Stmt} {scope : Scope} {dV kV doc pm cdv ct oc : Value} {an od : Option Addr}
    {osl : Array (Option Value)} {N ps : List Str} {sp : Sp} (lk : K.lookup f = some ⟨oc, od, .func (PySem.W.fnOf name qual params body scope dV kV doc pm an cdv ct), osl⟩) (hcd : PySem.W.codeIn K cdv qual = true) (S : FnScope N ps scope)
    (len : ∀ vs H Z E, sp vs H Z E → vs.length = ps.length)
    (hbody : ∀ (A : Around) (fr : List Env) (st : Shared) (H : Hp) (vs : List V) (Z : VK) (E : XK), Room k (A.deeper (envOfC qual scope st.heap.objs.size f cdv)) → A.guards = some [] → sp vs H Z E →
      ∃ t, PSs (cxOf (L2.CX P w) P w K mg base N qual scope f cdv A fr st H E) body t ∧ t { nx := fun _ H' => Z .non H', rt := Z } (start N vs) H) :
    FnG P w K mg base (k + 1) f (PySem.W.fnOf name qual params body scope dV kV doc pm an cdv ct) ps sp := by
  constructor
  · exact len
  intro A fr st H ar us vs Z E hr hg e0 hb r hs
  have hl := len vs H Z E hs
  have KX : K.In st.heap := e0.mod.kin.keeps fun b o q => (e0.bs b o q).1
  have nl : st.heap.NoLimit := e0.mod.nolimit.keeps fun b o q => (e0.bs b o q).1
  refine codeAny_call_function hr.depth (KX f _ lk) rfl S.co S.gen rfl (PySem.W.codeRec_of KX hcd) (hb _ _ _ _ ?_)
  refine wpAny_newFunctionEnv_cells S.kind ?_ ?_
  · rintro ⟨n, v⟩ hy
    rcases S.par n (List.of_mem_zip hy).1 with c | c
    · exact Or.inl c
    · exact Or.inr ⟨c, PySem.W.cellsFrom_some _ _ _ (Or.inl c)⟩
  rintro env rfl s1 x
  refine ⟨nl.keeps x.toInCall.keep, codeAny_func ?_⟩
  obtain ⟨t, ht, hq⟩ := hbody A fr st H vs Z E (hr.deeper _) hg hs
  have inv := inv_start (CX := L2.CX P w) (E := E) (qual := qual) (cd := cdv) (f := f) S hr.hd e0 hl r x
  refine wpAny_mono (ht.run [] s1 (start N vs) H _ inv hq) ?_ (fun _ _ z => z)
  intro fl s2 z
  match fl, z with
  | .ret u, ⟨v, sg2, H2, J, rv, q⟩ => exact ⟨v, H2, J.os, J.bare, J.base, J.hok, rv, q⟩
  | .next, ⟨sg2, H2, J, q⟩ => exact ⟨V.non, H2, J.os, J.bare, J.base, J.hok, rfl, q⟩
  | .brk, ⟨_, _, _, q⟩ => exact q.elim
  | .cont, ⟨_, _, _, q⟩ => exact q.elim

/-- the law is called on its script -/
theorem lawG {P : Program} {w : World} {K : W.Frag} {mg mb : Str → Option Value} {k : Nat} {fa a : Addr} {fd : FuncData} {x : Str} {sp : Sp} {st : Shared} {vs : List Value} {ns : List Int}
    (KX : K.In st.heap) (hns : st.heap.Ns mainGlobals mg) (hb : st.heap.Ns builtinsNs mb) (hbb : ∀ x : Str, x ≠ "__name__" → mb x = bootBuiltins x) (hlim : st.heap.NoLimit) (hg : st.gens = #[])
    (ha : st.heap.get? a = some { cls := .type "list", data := .seq vs.toArray }) (hi : IntsAre vs ns) (hl : ns.length ≤ sizeLine) (hr : Room k callerA)
    (F : ∀ base : Heap, K.In base → base.Ns mainGlobals mg → FnG P w K mg base k fa fd [x] sp) (hbind : ∀ (s : Shared) (u : Value), BindsTo s fd ⟨[u], []⟩ [(x, u)])
    (hsp : ∀ H : Hp, Fz K H a ns → sp [.ref a] H (fun v _ => v = .bl true) fun _ _ _ => False) :
    codeAny (model P w) callerA (.call (.ref fa) ⟨[.ref a], []⟩) (fun r s' => r = .ok (.ret (.bool true)) ∧ OldK st.heap s'.heap ∧ s'.os = st.os ∧ AllBare s'.gens) st := by
  have rv := vals_ints hi
  have lenV := hi.length
  suffices core : ∀ H : Hp, (∀ b u, H b = some u → b = a ∧ K.lookup a = none ∧ ∃ o z, u = .frz o (.lst z)) → Fz K H a ns → HOk P w H st.heap →
      codeAny (model P w) callerA (.call (.ref fa) ⟨[.ref a], []⟩) (fun r s' => r = .ok (.ret (.bool true)) ∧ OldK st.heap s'.heap ∧ s'.os = st.os ∧ AllBare s'.gens) st by
    cases hk : K.lookup a with
    | some o =>
      have e := KX a o hk
      rw [ha] at e
      cases e
      refine core (fun _ => none) (fun b u z => nomatch z) (.inr fun _ => .inr ⟨_, vs.toArray, _, hk, rfl, rfl, rfl, ?_, ?_⟩) (fun b u z => nomatch z)
      · rw [List.size_toArray, lenV]; exact hl
      · simpa using rv
    | none =>
      refine core (fun b => if b = a then some (.frz { cls := .type "list", data := .seq vs.toArray } (.lst (ns.map V.int))) else none) (fun b u z => ?_) (.inl ⟨_, if_pos rfl⟩) (fun b u z => ?_)
      · by_cases c : b = a
        · have z' := (if_pos c).symm.trans z
          cases z'
          exact ⟨c, hk, _, _, rfl⟩
        · have z' := (if_neg c).symm.trans z
          cases z'
      · by_cases c : b = a
        · have z' := (if_pos c).symm.trans z
          cases z'
          subst c
          refine ⟨ha, ?_, vs, _, rv, ha⟩
          rw [List.length_map]; exact hl
        · have z' := (if_neg c).symm.trans z
          cases z'
  intro H hO hS hok
  have noD : ∀ {b : Addr} {o : Obj} {es : Array DictEntry} {ep : Nat}, st.heap.get? b = some o → o.data = .dict es ep → H b = none := by
    intro b o es ep e d
    cases q : H b with
    | none => rfl
    | some u =>
      obtain ⟨rfl, _⟩ := hO b u q
      rw [ha] at e
      cases e
      cases d
  have nsK : ∀ {b : Addr} {m : Str → Option Value}, st.heap.Ns b m → (hidT st.heap H).Ns b m := by
    rintro b m ⟨o, es, ep, e, d, r⟩
    exact ⟨o, es, ep, hidT_get e (noD e d), d, r⟩
  have hKb : K.In (hidT st.heap H) := by
    intro b o e
    refine hidT_get (KX b o e) ?_
    cases q : H b with
    | none => rfl
    | some u =>
      obtain ⟨rfl, z, _⟩ := hO b u q
      rw [z] at e
      cases e
  obtain ⟨mc, l1, l2⟩ := hlim
  have hM : Mod K mg (hidT st.heap H) := ⟨hKb, nsK hns, ⟨mb, nsK hb, hbb⟩, mc, nsK l1, l2⟩
  have e0 : Env0 P w K mg (hidT st.heap H) callerA [] st H :=
    ⟨rfl, hM, fun b o e => of_hidT e, Nat.le_of_eq (hidT_size _ _), trivial, fun b z => absurd (show b ∈ ([] : List Addr) from z) (by simp), hok, .of_eq hg⟩
  refine codeAny_mono ((F _ hKb (nsK hns)).run callerA [] st H ⟨[.ref a], []⟩ [.ref a] [.ref a] _ _ hr rfl e0 (hbind st (.ref a)) (.cons rfl .nil) (hsp H hS)) ?_
  intro re st' h
  match re, h with
  | .error e, ⟨_, _, _, _, _, _, _, _, _, _, _, _, z⟩ => exact z.elim
  | .ok .next, h => exact h.elim
  | .ok .brk, h => exact h.elim
  | .ok .cont, h => exact h.elim
  | .ok (.ret u), ⟨v, H', os, bare, un, hok', r', q⟩ =>
    have q' : v = .bl true := q
    subst q'
    have eu : u = Value.bool true := r'
    subst eu
    refine ⟨rfl, OldK.of_keep fun b o e => ?_, os, bare⟩
    cases q : H b with
    | none => exact un.keep b o e q (fun z => absurd (show b ∈ ([] : List Addr) from z) (by simp)) (by simp)
    | some u =>
      obtain ⟨rfl, _, ob, z, rfl⟩ := hO b u q
      have e1 := (hok b _ q).1
      have e2 := (hok' b _ (un.frzs b ob _ q)).1
      rw [e] at e1
      cases e1
      exact e2
theorem walkG {l : PySem.W.OpenLaw} {n k : Nat} {q : Program} {loose : List Str} {XP : (Str → Option Value) → Heap → Prop} {YP : World → Heap → Prop} {d : DefRec} {K : Params → PySem.W.Frag} {sp : World → Sp} {x : Str}
    (hn : l.most = some n) (hn2 : n ≤ sizeLine) (hdf : d.params.defaults = []) (hr : Room k callerA) (hY : ∀ (w : World) (h : Heap), YP w h → (K w.params).In h)
    (F : ∀ (w : World) (mg : Str → Option Value) (fa : Addr) (h : Heap), (K w.params).In h → h.Ns mainGlobals mg → mg d.name = some (.ref fa) →
      ∃ fd : FuncData, (∀ (s : Shared) (u : Value), BindsTo s fd ⟨[u], []⟩ [(x, u)]) ∧
        ∀ base : Heap, (K w.params).In base → base.Ns mainGlobals mg → FnG l.prog w (K w.params) mg base k fa fd [x] (sp w))
    (hsp : ∀ (w : World) (H : Hp) (a : Addr) (ns : List Int), ns.length ≤ n → Fz (K w.params) H a ns → sp w [.ref a] H (fun v _ => v = .bl true) fun _ _ _ => False) :
    PySem.W.WalkO q loose XP YP l.row.toRowW d [] (fun f vs => PySem.call f vs) := by
  refine Att.attach_call hn hdf ?_
  intro w s0 s1 mg mb fa o pm cd doc a vs ns G Y ho hd hcd hmg hobj hints hlen hgen
  have KX := hY w _ Y
  obtain ⟨fd, hb, hF⟩ := F w mg fa _ KX G.T.g hmg
  exact lawG KX G.T.g G.T.b G.T.builtins G.T.nolimit hgen hobj hints (Nat.le_trans hlen hn2) hr hF hb fun H hS => hsp w H a ns hlen hS
end Sm

/-! More built-ins on data: repr, gcd. -/
namespace Sm
open PySem L2

/-- what repr may be asked of: a text that fits, no dict in it -/
def shows (d : PyData) : Bool := d.showable && !d.hasDict && decide (d.depth ≤ 60) && decide (d.shown.length ≤ sizeLine)
def dRepr : List PyData → Rs PyData
  | [d] => if shows d then .ok (.str d.shown) else .no
  | _ => .no
def dGcd : List PyData → Rs PyData
  | [.int a, .int b] => .ok (.int ((Nat.gcd a.natAbs b.natAbs : Nat) : Int))
  | _ => .no
section
variable {X : Cx}
theorem callV_repr (hg : X.A.guards = some []) (hu : X.A.units + 65 < cLine) : CallR X (.builtin "repr") (rCall dRepr true) := by
  intro pn st sg hp xs us Z inv r ⟨A, ds, z, dm, h, hf, q⟩
  unfold dRepr at hf
  split at hf
  · rename_i d
    split at hf
    · rename_i hs
      cases hf
      unfold shows at hs
      simp only [Bool.and_eq_true, Bool.not_eq_true', decide_eq_true_eq] at hs
      obtain ⟨⟨⟨s1, s2⟩, s3⟩, s4⟩ := hs
      obtain ⟨v, rfl, hv⟩ := vw1 h
      obtain ⟨u, rfl, ru⟩ := vals1 r
      obtain ⟨as, rd⟩ := Dp.reads inv d v u (Rp.dp X.K d v hv.rp s2) ru
      have fin : ∀ (h' : Heap) (t tk : Tok), (∀ b o, st.heap.get? b = some o → h'.get? b = some o) → EP X pn sg Z (.str d.shown t) { st with heap := h', toks := tk } := fun h' t tk hk =>
        ⟨.str d.shown, hp, inv.kept hk, ⟨t, rfl⟩, q _ _ (Same.refl _) (res_str _ s4)⟩
      cases rd with
      | none => exact PySem.P.repr_of_none (fin _ _ _ fun _ _ e => e)
      | bool b => cases b <;> exact PySem.P.repr_of_bool (fin _ _ _ fun _ _ e => e)
      | int i t => exact PySem.P.repr_of_int (by simpa [PyData.showable] using s1) (fin _ _ _ fun _ _ e => e)
      | str x t => exact PySem.P.repr_of_str (fin _ _ _ fun _ _ e => e) s4
      | list h1 h2 h3 h4 => exact repr_of_reads' (.list h1 h2 h3 h4) s1 (PyData.noDict_hsm s2) hg (by omega) (fun _ _ e => e) fin s4
      | tuple h1 h2 h3 h4 => exact repr_of_reads' (.tuple h1 h2 h3 h4) s1 (PyData.noDict_hsm s2) hg (by omega) (fun _ _ e => e) fin s4
      | dict h1 h2 h3 h4 h5 => exact repr_of_reads' (.dict h1 h2 h3 h4 h5) s1 (PyData.noDict_hsm s2) hg (by omega) (fun _ _ e => e) fin s4
    · cases hf
  · cases hf
theorem callV_gcd : CallR X (.builtin "math.gcd") (rCall dGcd true) := by
  intro pn st sg hp xs us Z inv r ⟨A, ds, z, dm, h, hf, q⟩
  unfold dGcd at hf
  split at hf
  · cases hf
    obtain ⟨v, w, rfl, hv, hw⟩ := vw2 h
    rw [hv.int, hw.int] at r
    exact cr_gcd pn st sg hp _ us Z inv r ⟨_, _, rfl, q _ _ (Same.refl _) (res_int _)⟩
  · cases hf
end
end Sm

/-! An own class below ValueError whose __init__ says super().__init__(at); self.at = at. -/
namespace Sm
open PySem PySem.Spec PyProof.Rows L2

/-- what the written part says of a class C below D -/
structure SubC (K : W.Frag) (D C : Addr) : Prop where
  oex : OexC K C
  up : PySem.W.ks_superIn K C D "__init__" = some (some (.builtin "ValueError.__init__"))
  ve : PySem.W.subIn K (.ref C) (.type "ValueError") = some true
  d : PySem.W.mroIn K C (.ref D) = some true
  no : PySem.W.findIn K (.ref C) "at" = some none
def spInit (K : W.Frag) (D : Addr) : Sp := fun vs H Z E => ∃ (a C : Addr) (y : V), vs = [.ref a, y] ∧ H a = some (exo a C none) ∧ SubC K D C ∧
  ∀ dx, H dx = none → dx ≠ a → Z .non (upd (upd H dx (exd dx [("at", y)])) a (exo a C (some dx)))
def initBody (p : Nat → Pos) : List Stmt :=
  [.Expr (.Call (.Attribute (.Call (.Name "super" (p 0)) [] [] (p 1)) "__init__" (p 2)) [.Name "at" (p 3)] [] (p 4)) (p 5), .Assign [.Attribute (.Name "self" (p 6)) "at" (p 7)] (.Name "at" (p 8)) (p 9)]
structure InitScope (sc : Scope) : Prop where
  kind : sc.kind = .function
  co : sc.isCoroutine = false
  gen : sc.isGenerator = false
  cell : ∀ x ∈ sc.names, x.2 ≠ .cell
  self : sc.names.lookup ("self" : Str) = some .local
  at' : sc.names.lookup ("at" : Str) = some .local
  cls : sc.names.lookup ("__class__" : Str) = some .free
  fre : ∀ x ∈ sc.names, x.2 = .free → x.1 = ("__class__" : Str)
  sup : sc.names.lookup ("super" : Str) = some .globalImplicit
section
variable {P : Program} {w : World} {K : W.Frag} {mg : Str → Option Value} {base : Heap} {qual : Str} {scope : Scope} {f cda cc : Addr}
/-- the context of such an __init__ -/
def cxI (P : Program) (w : World) (K : W.Frag) (mg : Str → Option Value) (base : Heap) (qual : Str) (scope : Scope) (f cda cc : Addr) (A : Around) (fr : List Env) (st : Shared) (H : Hp) : Cx where
  prog := P
  w := w
  K := K
  mg := mg
  base := base
  A := A.deeper (PySem.W.ksEnv qual scope st.heap.objs.size f (.ref cda) cc)
  N := ["self", "at"]
  s_0 := st
  H_0 := H
  env := PySem.W.ksEnv qual scope st.heap.objs.size f (.ref cda) cc
  outer := fr
  stack := PySem.W.ksEnv qual scope st.heap.objs.size f (.ref cda) cc :: fr
  ex := []
  calm := true
  fn := fun _ => false
  pn := []
  xe := fun _ _ => False
theorem inv_init {A : Around} {fr : List Env} {st : Shared} {H : Hp} {h1 : Heap} {t : Nat} {m : Str → Option Value} {a y : V} {D : Addr} {ccl : Value} {od : Option Addr} {osl : Array (Option Value)}
    (S : InitScope scope) (hd : A.handled = none) (e0 : Env0 P w K mg base A fr st H) (hcc : K.lookup cc = some ⟨ccl, od, .cell (some (.ref D)), osl⟩)
    (hns : h1.Ns st.heap.objs.size m) (hk : ∀ b o, st.heap.get? b = some o → h1.get? b = some o) {u v : Value} (ra : RelV a u) (ry : RelV y v) (m1 : m "self" = some u) (m2 : m "at" = some v) :
    Inv (cxI P w K mg base qual scope f cda cc A fr st H) [] [some a, some y] H { st with heap := h1, toks := t } := by
  have kin : K.In base := e0.mod.kin
  have cst : ∀ x c, List.lookup x [(("__class__" : Str), cc)] = some c → x = "__class__" ∧ c = cc := by
    intro x c h
    rw [List.lookup_cons] at h
    split at h
    · rename_i e
      cases h
      exact ⟨by simpa using e, rfl⟩
    · cases h
  have hcb := kin cc _ hcc
  have hcs := e0.bs cc _ hcb
  refine ⟨⟨e0.mod, S.kind, rfl, rfl, Nat.le_refl _, fun x z c q1 q2 => ?_, fun x hx => ?_, fun x c z => (nomatch z), fun _ => hd, Around.frames_deeper e0.frames, .inr ⟨rfl, rfl⟩, fun b z => (nomatch z), e0.bs, e0.bsz, fun b _ _ z => (nomatch z),
    fun b z => (nomatch z), e0.funs, e0.frf⟩, rfl, e0.bare, Un.kept hk, ⟨m, hns, fun i x v' g1 g2 g3 => ?_⟩, fun x c q => ?_, e0.hok.fresh (Nat.le_refl _), fun x c q => ?_, fun p hp => (nomatch hp), e0.hok.kept hk, rfl⟩
  · rw [(cst _ _ q1).1, (cst _ _ q2).1]
  · exact ⟨cc, by
      rcases hx with hx | hx
      · exact absurd rfl (S.cell _ (PySem.mem_of_lookup hx))
      · have e := S.fre _ (PySem.mem_of_lookup hx) rfl
        subst e
        rfl⟩
  · have m01 : (x = "self" ∧ v' = a) ∨ (x = "at" ∧ v' = y) := by
      match i, g1, g2 with
      | 0, g1, g2 => cases g1; cases g2; exact .inl ⟨rfl, rfl⟩
      | 1, g1, g2 => cases g1; cases g2; exact .inr ⟨rfl, rfl⟩
    rcases m01 with ⟨rfl, rfl⟩ | ⟨rfl, rfl⟩
    · exact ⟨u, ra, .inl ⟨S.self, m1⟩⟩
    · exact ⟨v, ry, .inl ⟨S.at', m2⟩⟩
  · obtain ⟨rfl, rfl⟩ := cst _ _ q
    exact ⟨_, _, hk _ _ hcs.1, rfl⟩
  · obtain ⟨rfl, rfl⟩ := cst _ _ q
    exact hcs.2
theorem exc_started {h : Heap} {g : Array GenState} {d : Drawn} {t : Nat} {os : OsState} {M : Model} {A : Around} {E : Value → Shared → Prop} {e C : Addr} {t0 : Addr} {rest : List Value} {Q : Fin → Shared → Prop}
    (he : h.get? e = some ({ cls := .ref C, dict := none, data := .fields #[.ref t0, .none, .none, .none, .bool false, .none] } : Obj)) (hr : rest.length ≤ sizeLine)
    (hq : ∀ h' t1, (∀ b o, b ≠ e → h.get? b = some o → h'.get? b = some o) → h'.get? e = some ({ cls := .ref C, dict := none, data := .fields #[.ref t1, .none, .none, .none, .bool false, .none] } : Obj) → Q (.done (.ret .none)) ⟨h', g, d, t, os⟩) :
    wpAny M A (Builtin.«BaseException.__init__» ⟨.ref e :: rest, []⟩) Q E ⟨h, g, d, t, os⟩ := by
  wp_walk
  refine hq _ h.objs.size ?_ ?_
  · intro b o hb ho
    rw [Heap.get?_update_other _ _ (Ne.symm hb)]; exact Heap.get?_push_of_some _ ho
  · rw [Heap.get?_update_self _ (Heap.get?_push_of_some _ he) rfl]; rfl
/-- ValueError.__init__ bound to the exception, called -/
theorem wrapper_call {X : Cx} {pn : List (Addr × Obj)} {sg : L2.St} {H : Hp} {st : Shared} {A : Around} {E : Value → Shared → Prop} {Q : Value → Shared → Prop} {a C u : Addr} {us : List Value} (T : OexC X.K C) (inv : Inv X pn sg H st) (e : H a = some (exo a C none))
    (hu : st.heap.get? u = some (PySem.W.kxs_mw "ValueError.__init__" a)) (hl : us.length ≤ sizeLine) (h : ∀ st', Inv X pn sg H st' → Q .none st') :
    wpAny (model X.prog X.w) A (call (.ref u) us) Q E st := by
  obtain ⟨nm, q, N, bs, bm, sn, sub, ab, col, dd, k0, k1, k2, k3, k5, hC, hbm⟩ := T.cls
  obtain ⟨t1, ho⟩ := exo_at inv.hok e
  have hC' := inv.kIn _ _ hC
  obtain ⟨hp, g, d, t, os⟩ := st
  refine wpAny_call (codeAny_of_tree ?_)
  show wpAny _ A.in1 (callAny (.ref u) ⟨us, []⟩) _ _ _
  simp only [callAny]
  refine wpAny_bind (wpAny_load hu ?_)
  simp only [PySem.W.kxs_mw]
  refine PySem.W.KFB.if_so (by decide) ?_
  refine wpAny_bind (PySem.W.check_bound_init F.excBase_ValueError.toExcCallFacts hC' ho rfl ?_)
  refine wpAny_bind (wpAny_pure (wpAny_pure ?_))
  refine ⟨plainId_quiet F.excBase_ValueError.init.plain _, codeAny_builtin F.excBase_ValueError.initEntry ?_⟩
  refine exc_started ho hl fun h' t2 k hx => ?_
  have J := inv.write (t' := t) (x := a) (e := a) (o := exo a C none) (by rw [e]; exact True.intro) (.inl rfl) k ⟨_, hx⟩ (exo_ok hx)
  have eu : upd H a (exo a C none) = H := by
    funext b
    by_cases hb : b = a
    · rw [hb, upd_same, e]
    · rw [upd_ne hb]
  rw [eu] at J
  exact h _ J
theorem init_ok {CX : CXT} {k : Nat} {params : Arguments} {p : Nat → Pos} {dV kV doc pm ct oc ccl kcl : Value} {an od cdd kd : Option Addr} {osl ccs ksl : Array (Option Value)} {vs : Array Value} {file : Str} {tf : Tok} {ar : Arg} {D : Addr} {cdD : ClassData}
    (lk : K.lookup f = some ⟨oc, od, .func (PySem.W.ksFn "__init__" qual params (initBody p) scope dV kV doc pm an (.ref cda) ct cc), osl⟩) (S : InitScope scope) (hcd : PySem.W.codeIn K (.ref cda) qual = true)
    (hcode : K.lookup cda = some ⟨ccl, cdd, .fields vs, ccs⟩) (hvs : vs[2]? = some (.str file tf)) (hfile : ((P.main.file : Str) == file) = true) (htop : (P.main.scope.names.lookup ("super" : Str)).isSome = false)
    (hcell : K.lookup cc = some ⟨kcl, kd, .cell (some (.ref D)), ksl⟩) (hD : PySem.W.clsIn K D = some cdD) (hsup : mg "super" = none) (hany : PySem.W.nsIn K cStatics "thirdparty.any" = some none)
    (hpar : (params.posonlyargs ++ params.args).head? = some ar) (har : ar.arg = "self") {pl : Sem Bool}
    (hev : ∀ env : Env, eval (.Call (.Attribute (.Call (.Name "super" (p 0)) [] [] (p 1)) "__init__" (p 2)) [.Name "at" (p 3)] [] (p 4)) env = (do
      let ov ← attributeBase (.Call (.Name "super" (p 0)) [] [] (p 1)) "__init__" env (eval (.Call (.Name "super" (p 0)) [] [] (p 1)) env)
      standAt (p 2).atName
      let (f, first) ← holding [ov] (getMethod ov "__init__" pl)
      callWith (p 4) f first (backTo (p 4) (starEach [.Name "at" (p 3)] env)) [])) :
    FnOk P w K mg base CX k f (PySem.W.ksFn "__init__" qual params (initBody p) scope dV kV doc pm an (.ref cda) ct cc) ["self", "at"] (spInit K D) := by
  constructor
  · rintro vs H Z E ⟨a, C, y, rfl, _⟩
    rfl
  intro A fr st H arg us vs Z E hr e0 hb r ⟨a, C, y, e, ea, T, hq⟩
  subst e
  obtain ⟨u1, u2, rfl, r1, r2⟩ : ∃ u1 u2, us = [u1, u2] ∧ RelV (V.ref a) u1 ∧ RelV y u2 := by
    cases r with
    | cons r1 r =>
      cases r with
      | cons r2 r => cases r; exact ⟨_, _, rfl, r1, r2⟩
  obtain rfl : u1 = Value.ref a := r1
  have KX : K.In st.heap := e0.mod.kin.keeps fun b o q => (e0.bs b o q).1
  have nl : st.heap.NoLimit := e0.mod.nolimit.keeps fun b o q => (e0.bs b o q).1
  refine ks_codeAny_call_defAt (fd := PySem.W.ksFn "__init__" qual params (initBody p) scope dV kV doc pm an (.ref cda) ct cc) (body := initBody p) hr.depth (KX f _ lk) rfl nl (PySem.W.codeRec_of KX hcd) rfl hb S.cell ?_ (fun h1 hns hk => ?_) S.co S.gen S.kind
  · intro x hx
    have hx' : x = (("self" : Str), Value.ref a) ∨ x = (("at" : Str), u2) := by simpa using hx
    rcases hx' with rfl | rfl
    · exact S.self
    · exact S.at'
  have inv := inv_init (qual := qual) (f := f) (cda := cda) (t := st.toks + 2) S hr.hd e0 hcell hns hk (show RelV (V.ref a) (Value.ref a) from rfl) r2 rfl rfl
  have hb1 : ∀ b o, base.get? b = some o → h1.get? b = some o := fun b o q => hk b o (e0.bs b o q).1
  have KX1 : K.In h1 := KX.keeps hk
  obtain ⟨mb, bl1, bl2⟩ := e0.mod.blt
  obtain ⟨oD, hD1, hD2⟩ : ∃ oD, h1.get? D = some oD ∧ oD.data = .cls cdD := by
    unfold PySem.W.clsIn at hD
    split at hD
    · cases hD; exact ⟨_, KX1 _ _ ‹_›, rfl⟩
    · cases hD
  obtain ⟨t1, ho⟩ := exo_at inv.hok ea
  have hoh : h1.get? a = some ({ cls := .ref C, dict := none, data := .fields #[.ref t1, .none, .none, .none, .bool false, .none] } : Obj) := ho
  have I0 : PySem.W.InstAt h1 a _ C none := ⟨hoh, rfl, rfl, trivial⟩
  unfold initBody
  refine ks_wpAt_execs_cons (ks_wpAt_Expr_any (ks_wpAt_MethodCall (pl := pl) (ks_wpAt_super_base S.sup S.cls (by decide) rfl (hk _ _ (KX f _ lk)) rfl hpar rfl (hk _ _ (KX cda _ hcode)) rfl hvs hfile htop ?_) (hev _)) (hi := inv.quiet))
  refine PySem.W.ks_loadName_global S.kind S.sup (Calls.loadGlobal_builtin (e0.mod.glob.keeps hb1) hsup (bl1.keeps hb1) ((bl2 _ (by decide)).trans (show bootBuiltins "super" = some (.type "super") by decide +kernel)) ⟨rfl, ?_⟩)
  refine wpAny_loadName_free S.kind S.cls rfl ⟨_, hk _ _ (KX cc _ hcell), rfl⟩ ?_
  rw [har]
  refine wpAny_loadName_local S.kind S.self hns rfl ?_
  refine ks_wpAny_isType_cls hD1 hD2 ⟨rfl, ?_⟩
  refine ks_wpAny_call_super hD1 hD2 hoh rfl (fun c z => nomatch z) (PySem.W.looks_mroIn KX1 T.d) fun h2 e2 k2 => ?_
  have KX2 : K.In h2 := KX1.keeps k2
  have inv2 := inv.kept (t' := st.toks + 2) k2
  cases hc : PySem.W.clsIn K C with
  | none =>
    have z := T.up
    unfold PySem.W.ks_superIn at z
    rw [hc] at z
    cases z
  | some cd =>
    have up := T.up
    unfold PySem.W.ks_superIn at up
    rw [hc] at up
    have I2 : PySem.W.InstAt h2 a _ C none := ⟨k2 _ _ hoh, rfl, rfl, trivial⟩
    refine PySem.W.kxs_getMethod PySem.W.kxs_ValueError e2 (PySem.W.looks_opaque KX2 hany) (l₀ := cd.mro) ?_ rfl KX2 up (I2.type.andThen (PySem.W.looks_subIn KX2 T.ve)) (PySem.W.ks_ne KX2 I2 hc) (by decide) ?_
    · exact fun A Q E s k q => wpAny_bind ((PySem.W.looks_clsIn KX2 hc) A _ E s k (wpAny_pure q))
    have k3 : ∀ b o, h2.get? b = some o → (h2.push (PySem.W.kxs_mw "ValueError.__init__" a)).get? b = some o := fun b o q => Heap.get?_push_of_some _ q
    have inv3 := inv2.kept (t' := st.toks + 2 + 1) k3
    refine PySem.W.kxs_callWith (i := "ValueError.__init__") (x := a) (by rfl) (Calls.evalArgs_plain ?_)
    refine Calls.spliced_cons (wpAny_Name (wpAny_loadName_local S.kind S.at' ((hns.keeps k2).keeps k3) rfl ?_))
    refine Calls.spliced_nil ⟨Heap.get?_push_size _ rfl, ?_⟩
    refine wrapper_call T.oex inv3 ea (Heap.get?_push_size _ rfl) (by show 1 ≤ sizeLine; rw [sizeLine_eq]; omega) fun st4 inv4 => ?_
    refine ks_wpAt_execs_cons (ks_wpAt_Assign_Attr (wpAt_of_wpAny ?_))
    refine wpAny_mono ((pe_var (X := cxI P w K mg base qual scope f cda cc A fr st H) (i := 1) (pos := p 8) rfl (.inl S.at')).run [] st4 _ H (fun v H' => v = y ∧ H' = H) inv4 ⟨y, rfl, rfl, rfl⟩) ?_ fun _ _ z => z.elim
    rintro u5 st5 ⟨v5, H5, inv5, r5, rfl, rfl⟩
    refine wpAny_mono ((pe_var (X := cxI P w K mg base qual scope f cda cc A fr st H5) (i := 0) (pos := p 6) rfl (.inl S.self)).run [] st5 _ H5 (fun v H' => v = .ref a ∧ H' = H5) inv5 ⟨.ref a, rfl, rfl, rfl⟩) ?_ fun _ _ z => z.elim
    rintro u6 st6 ⟨v6, H6, inv6, r6, rfl, rfl⟩
    obtain rfl : u6 = Value.ref a := r6
    refine ost_new T.oex inv6 ea T.no r5 fun dx st7 n ne J => ?_
    refine wpAt_of_wpAny (wpAny_execs_nil ?_)
    exact ⟨.non, _, J.os, J.bare, J.base, J.hok, rfl, hq dx n ne⟩
end
end Sm

/-! The own classes below ValueError. -/
namespace Sm
open PySem PySem.Spec PyProof.Rows L2

/-! ### classes -/
abbrev vels : List Value := [.type "ValueError", .type "Exception", .type "BaseException", .type "object"]
structure ClsF (K : W.Frag) (D fI : Addr) (x : Str) (C : Addr) : Prop where
  lk : ∃ q N bs sn sub ab col dd k0 k1 k2 k3 k5, K.lookup C = some (excClassObj x q C N bs (.ref D :: vels) true sn sub ab col dd k0 k1 k2 k3 k5 "ValueError.__new__")
  sa : PySem.W.findIn K (.ref C) "__setattr__" = some (some (.builtin "object.__setattr__"))
  no : PySem.W.findIn K (.ref C) "at" = some none
  ini : PySem.W.findIn K (.ref C) "__init__" = some (some (.ref fI))
  ga : PySem.W.findIn K (.ref C) "__getattribute__" = some (some (.builtin "BaseException.__getattribute__"))
  gg : PySem.W.findIn K (.ref C) "__getattr__" = some none
  kC : PySem.W.keepIn K (.ref C) = true
  ac : PySem.W.findIn K (.ref C) "__class__" = some (some (.builtin "object.__class__"))
structure RootF (K : W.Frag) (D : Addr) : Prop where
  lk : ∃ q N bs sn sub ab col dd k0 k1 k2 k3 k5, K.lookup D = some (excClassObj "CountError" q D N bs vels true sn sub ab col dd k0 k1 k2 k3 k5 "ValueError.__new__")
theorem along_ve (K : W.Frag) : W.alongIn K "__init__" vels = some (some (.builtin "ValueError.__init__")) := by kernel_rfl
section
variable {K : W.Frag} {D fI C : Addr} {x : Str}
theorem ClsF.cls (h : ClsF K D fI x C) : ∃ cd : ClassData, PySem.W.clsIn K C = some cd ∧ cd.mro = .ref C :: .ref D :: vels ∧ cd.name = x ∧ cd.hasDict = true := by
  obtain ⟨q, N, bs, sn, sub, ab, col, dd, k0, k1, k2, k3, k5, e⟩ := h.lk
  refine ⟨_, by unfold PySem.W.clsIn; rw [e] <;> rfl, rfl, rfl, rfl⟩
theorem RootF.cls (h : RootF K D) : ∃ cd : ClassData, PySem.W.clsIn K D = some cd ∧ cd.mro = .ref D :: vels ∧ cd.name = "CountError" := by
  obtain ⟨q, N, bs, sn, sub, ab, col, dd, k0, k1, k2, k3, k5, e⟩ := h.lk
  refine ⟨_, by unfold PySem.W.clsIn; rw [e] <;> rfl, rfl, rfl⟩
theorem ClsF.ne (h : ClsF K D fI x C) (r : RootF K D) (hx : x ≠ "CountError") : C ≠ D := fun e => by
  obtain ⟨c1, a1, _, n1, _⟩ := h.cls
  obtain ⟨c2, a2, _, n2⟩ := r.cls
  rw [e, a2] at a1
  cases a1
  exact hx (n1.symm.trans n2)
theorem ClsF.mro (h : ClsF K D fI x C) (v : Value) : PySem.W.mroIn K C v = some ((Value.ref C :: .ref D :: vels).contains v) := by
  obtain ⟨cd, a, b, _⟩ := h.cls
  unfold PySem.W.mroIn
  rw [a, Option.bind_some, b]
  rfl
theorem ClsF.sub (h : ClsF K D fI x C) (r : RootF K D) (hx : x ≠ "CountError") : SubC K D C := by
  have hne := h.ne r hx
  obtain ⟨cd, a, b, _⟩ := h.cls
  obtain ⟨q, N, bs, sn, sub, ab, col, dd, k0, k1, k2, k3, k5, e⟩ := h.lk
  refine ⟨⟨⟨x, q, N, bs, _, sn, sub, ab, col, dd, k0, k1, k2, k3, k5, e, by rfl⟩, h.sa, ?_, ?_, h.kC⟩, ?_, ?_, ?_, h.no⟩
  · show PySem.W.mroIn K C _ = _
    rw [h.mro]
    rfl
  · show (K.lookup C).map (·.cls) = _
    rw [e] <;> rfl
  · unfold PySem.W.ks_superIn
    rw [a, Option.bind_some, b]
    have e1 : ((Value.ref C :: Value.ref D :: vels).dropWhile (· != .ref D)).drop 1 = vels := by
      rw [List.dropWhile_cons, if_pos (by simp [hne]), List.dropWhile_cons, if_neg (by simp)]
      rfl
    rw [e1]
    exact along_ve K
  · show PySem.W.mroIn K C _ = _
    rw [h.mro]
    rfl
  · rw [h.mro]
    simp
theorem ClsF.xf (h : ClsF K D fI x C) (r : RootF K D) (hx : x ≠ "CountError") : XfC K C := by
  obtain ⟨cd, a, _, _, d⟩ := h.cls
  refine ⟨h.ga, h.gg, (h.sub r hx).oex.exC, ?_⟩
  unfold PySem.W.hasDictIn
  rw [a]
  exact d
/-- does a clause that names y take an exception of x -/
def takesX (x y : Str) : Bool := decide (y = "CountError") || decide (x = y)
theorem ClsF.one {Cy : Addr} {y : Str} (h : ClsF K D fI x C) (r : RootF K D) (hx : x ≠ "CountError") (hy : (y = "CountError" ∧ Cy = D) ∨ (y ≠ "CountError" ∧ ClsF K D fI y Cy)) (same : x = y → C = Cy) : PySem.W.exmOne K (.ref C) (.ref Cy) = some (takesX x y) := by
  unfold PySem.W.exmOne
  have hb : PySem.W.subIn K (.ref Cy) (.type "BaseException") = some true := by
    rcases hy with ⟨_, rfl⟩ | ⟨hy, h2⟩
    · obtain ⟨cd, a, b, _⟩ := r.cls
      show PySem.W.mroIn K _ _ = _
      unfold PySem.W.mroIn
      rw [a, Option.bind_some, b]
      rfl
    · exact (h2.sub r hy).oex.exC
  rw [hb, if_pos (by decide)]
  have hc : ((PySem.W.clsIn K Cy).isSome && PySem.W.typeIn K (.ref Cy) == some (.type "type")) = true := by
    rcases hy with ⟨_, rfl⟩ | ⟨_, h2⟩
    · obtain ⟨q, N, bs, sn, sub, ab, col, dd, k0, k1, k2, k3, k5, e⟩ := r.lk
      unfold PySem.W.clsIn PySem.W.typeIn
      simp [e]
    · obtain ⟨q, N, bs, sn, sub, ab, col, dd, k0, k1, k2, k3, k5, e⟩ := h2.lk
      unfold PySem.W.clsIn PySem.W.typeIn
      simp [e]
  show (if _ = true then PySem.W.mroIn K C (.ref Cy) else none) = _
  rw [if_pos hc, h.mro]
  congr 1
  unfold takesX
  rcases hy with ⟨rfl, rfl⟩ | ⟨hy, h2⟩
  · simp
  · have d2 := h2.ne r hy
    have i1 : (Cy = C) ↔ x = y := by
      constructor
      · rintro rfl
        obtain ⟨c1, a1, _, n1, _⟩ := h.cls
        obtain ⟨c2, a2, _, n2, _⟩ := h2.cls
        rw [a1] at a2
        cases a2
        exact n1.symm.trans n2
      · exact fun e => (same e).symm
    simp [hy, d2, i1]
end
/-- the program's exceptions: CountError and the classes in xs right below it -/
def ExG (P : Program) (w : World) (K : W.Frag) (mg : Str → Option Value) (base : Heap) (xs : List Str) : Prop :=
  ∃ (D fI : Addr) (fd : FuncData), mg "CountError" = some (.ref D) ∧ RootF K D ∧ (∀ CX : CXT, FnOk P w K mg base CX 0 fI fd ["self", "at"] (spInit K D)) ∧ Binds K fd ["self", "at"] [] ∧ PySem.W.typeIn K (.ref fI) = some (.type "function") ∧
    ∀ x ∈ xs, x ≠ "CountError" ∧ ∃ C, mg x = some (.ref C) ∧ ClsF K D fI x C
end Sm

/-! The combinators, the compiler of expressions and its soundness. -/
namespace Sm
open PySem PySem.Spec L2

/-! ### combinators -/
abbrev M := Rho → Rs PyData
abbrev Ts := Rho → Rs Bool
abbrev Tg := PyData → Rho → Rs Rho
abbrev Its := Rho → Rs (List PyData)
def mVar (keep : Bool) (i : Nat) : M := fun ρ => match ρ[i]? with
  | some (.sh d) => .ok d
  | some (.ow d) => if keep then .no else .ok d
  | _ => .no
def mC (d : PyData) : M := fun _ => .ok d
def mBin (f : PyData → PyData → Rs PyData) (a b : M) : M := fun ρ => do
  let x ← a ρ
  let y ← b ρ
  f x y
def mUn (f : PyData → Rs PyData) (a : M) : M := fun ρ => do
  let x ← a ρ
  f x
def mAll : List M → Rho → Rs (List PyData)
  | [], _ => .ok []
  | m :: ms, ρ => do
    let d ← m ρ
    let ds ← mAll ms ρ
    .ok (d :: ds)
def mCall (f : List PyData → Rs PyData) (ms : List M) : M := fun ρ => do
  let ds ← mAll ms ρ
  f ds
def mTup (ms : List M) : M := fun ρ => do
  let ds ← mAll ms ρ
  .ok (.tuple ds)
def mLst (ms : List M) : M := fun ρ => do
  let ds ← mAll ms ρ
  .ok (.list ds)
def mIf (t : Ts) (a b : M) : M := fun ρ => do
  let k ← t ρ
  if k then a ρ else b ρ
def mAnd (a b : M) : M := fun ρ => do
  let x ← a ρ
  let k ← dTru x
  if k then b ρ else .ok x
def mOr (a b : M) : M := fun ρ => do
  let x ← a ρ
  let k ← dTru x
  if k then .ok x else b ρ
def mNot (a : M) : M := fun ρ => do
  let x ← a ρ
  let k ← dTru x
  okB (!k)
def mChain (f g : PyData → PyData → Rs PyData) (a b c : M) : M := fun ρ => do
  let x ← a ρ
  let y ← b ρ
  let z ← f x y
  match z with
  | .bool true => do
    let w ← c ρ
    g y w
  | .bool false => okB false
  | _ => .no
def optM : Option M → Rho → Rs (Option Int)
  | none, _ => .ok none
  | some m, ρ => do
    let d ← m ρ
    match d with
    | .int i => .ok (some i)
    | _ => .no
def mSl (a : M) (lo hi : Option M) : M := fun ρ => do
  let x ← a ρ
  let l ← optM lo ρ
  let u ← optM hi ρ
  dSl x l u
def dRev : PyData → Rs PyData
  | .list ds => .ok (.list ds.reverse)
  | _ => .no
def tVal (m : M) : Ts := fun ρ => do
  let x ← m ρ
  dTru x
def tBl (m : M) : Ts := fun ρ => do
  let x ← m ρ
  match x with
  | .bool b => .ok b
  | _ => .no
def tAnd (a b : Ts) : Ts := fun ρ => do
  let k ← a ρ
  if k then b ρ else .ok false
def tOr (a b : Ts) : Ts := fun ρ => do
  let k ← a ρ
  if k then .ok true else b ρ
def tNot (a : Ts) : Ts := fun ρ => do
  let k ← a ρ
  .ok (!k)
/-- a comprehension lets no exception out -/
def Rs.hush {α : Type} : Rs α → Rs α
  | .ok a => .ok a
  | _ => .no

/-! ### the frame's facts -/
structure Gm where
  K : PySem.W.Frag
  mg : Str → Option Value
def gm (X : Cx) : Gm := ⟨X.K, X.mg⟩
structure FnI where
  sem : List PyData → Rs PyData
  fr : Bool
  ar : Nat
/-- what is wanted where an exception of the class c with the datum d goes up -/
def ExcR (mg : Gm) (A : List Addr) (H : Hp) (E : XK) (c : Str) (d : PyData) : Prop :=
  ∀ Ca dx v H', mg.mg c = some (.ref Ca) → Same H H' → H' dx = some (.xd [(("at" : Str), v)]) → Rp (Hide A H') v d → E (.ref Ca) (some dx) H'
def Oc {α : Type} (mg : Gm) (A : List Addr) (H : Hp) (E : XK) (k : α → Prop) : Rs α → Prop
  | .ok a => k a
  | .exc c d => ExcR mg A H E c d
  | .no => False
def spOf (mg : Gm) (I : FnI) : Sp := fun vs H Z E => ∃ (A : List Addr) (ds : List PyData), Dom A H ∧ RpAll (Hide A H) vs ds ∧ ds.length = I.ar ∧
  Oc mg A H E (fun d => ∀ v H', Same H H' → Res A true I.fr H H' v d → Z v H') (I.sem ds)
/-- the same for a def that takes the script -/
def spFz (mg : Gm) (f : List Int → Rs PyData) (fr : Bool) : Sp := fun vs H Z E => ∃ (A : List Addr) (a : Addr) (ns : List Int), Dom A H ∧ vs = [.ref a] ∧ Fz mg.K H a ns ∧
  Oc mg A H E (fun d => ∀ v H', Same H H' → Res A true fr H H' v d → Z v H') (f ns)
structure Cc where
  sc : Scope
  N : List Str
  fnc : Str → Bool
  fns : List (Str × FnI)
  blt : List Str
  gls : List (Str × PyData)
  lev : Nat
  fz : Option Nat
  fzf : List (Str × ((List Int → Rs PyData) × Bool))
  exs : List Str := []
  tr : Bool := true
  gcd : Bool := false
structure Good (X : Cx) (C : Cc) (W : WX) : Prop where
  sc : X.env.scope = C.sc
  N : X.N = C.N
  nd : C.N.Nodup
  calm : X.calm = true
  room : Room C.lev X.A
  gd : X.A.guards = some []
  fn : ∀ x, C.fnc x = true → X.fn x = true
  tk : Takes X W
  own : PassesOwn (model X.prog X.w) X.A X.env X.xe
  fns : ∀ x I, C.fns.lookup x = some I → ∃ f fd ps k, FnG X.prog X.w X.K X.mg X.base k f fd ps (spOf (gm X) I) ∧ k ≤ C.lev ∧ X.mg x = some (.ref f) ∧ PySem.W.keepIn X.K (.ref f) = true ∧ Binds X.K fd ps []
  blt : ∀ x ∈ C.blt, X.mg x = none
  fzf : ∀ x I, C.fzf.lookup x = some I → ∃ f fd ps k, FnG X.prog X.w X.K X.mg X.base k f fd ps (spFz (gm X) I.1 I.2) ∧ k ≤ C.lev ∧ X.mg x = some (.ref f) ∧ PySem.W.keepIn X.K (.ref f) = true ∧ Binds X.K fd ps []
  gls : ∀ x d, C.gls.lookup x = some d → ∃ u v, X.mg x = some u ∧ RelV v u ∧ ∀ H, Rp H v d
  exs : C.exs = [] ∨ (1 ≤ C.lev ∧ ExG X.prog X.w X.K X.mg X.base C.exs)
  tr : C.tr = true → X.stack = X.env :: X.outer ∧ X.env.frame = some X.env.locals
  gcd : C.gcd = true → X.mg "gcd" = some (.builtin "math.gcd")

section
variable {mg : Gm} {A : List Addr} {H H' : Hp} {E : XK} {α β : Type}
theorem Oc.mono {k k' : α → Prop} (h : ∀ a, k a → k' a) : ∀ {r : Rs α}, Oc mg A H E k r → Oc mg A H E k' r
  | .ok a, q => h a q
  | .exc _ _, q => q
  | .no, q => q
theorem Oc.bind {k : β → Prop} {f : α → Rs β} : ∀ {r : Rs α}, Oc mg A H E k (r >>= f) → Oc mg A H E (fun a => Oc mg A H E k (f a)) r
  | .ok _, q => q
  | .exc _ _, q => q
  | .no, q => q
theorem Oc.later {k : α → Prop} (s : Same H H') : ∀ {r : Rs α}, Oc mg A H E k r → Oc mg A H' E k r
  | .ok _, q => q
  | .exc _ _, q => fun Ca dx v H2 h1 h2 => q Ca dx v H2 h1 (s.trans h2)
  | .no, q => q
end

/-! ### readings -/
def tvM (mg : Gm) (W : WX) (m : M) (kp fr : Bool) : TE := fun sg H Z => ∃ A0 A ρ, StA mg.K A0 A ρ sg H ∧ Oc mg A H (fun c d H' => W c d sg H') (fun d => ∀ v H', Same H H' → Res A kp fr H H' v d → Z v H') (m ρ)
def tvT (mg : Gm) (W : WX) (t : Ts) : TT := fun sg H Z => ∃ A0 A ρ, StA mg.K A0 A ρ sg H ∧ Oc mg A H (fun c d H' => W c d sg H') (fun b => ∀ H', Same H H' → Z b H') (t ρ)
def tvA (mg : Gm) (W : WX) (ms : List M) (kp : Bool) : TA := fun sg H Z => ∃ A0 A ρ, StA mg.K A0 A ρ sg H ∧
  Oc mg A H (fun c d H' => W c d sg H') (fun ds => ∀ vs H', Same H H' → Paired (fun v d => Vw A H' kp v d) vs ds → Z vs H') (mAll ms ρ)

theorem peBy {X : Cx} {e : Expr} {t t' : TE} (h : PE X e t) (i : ∀ sg H Z, t' sg H Z → t sg H Z) : PE X e t' := ⟨fun pn st sg H Z inv q => h.run pn st sg H Z inv (i sg H Z q)⟩
theorem ptBy {X : Cx} {e : Expr} {t t' : TT} (h : PT X e t) (i : ∀ sg H Z, t' sg H Z → t sg H Z) : PT X e t' := ⟨fun pn st sg H Z inv q => h.run pn st sg H Z inv (i sg H Z q)⟩
theorem paBy {X : Cx} {e : List Expr} {t t' : TA} (h : PA X e t) (i : ∀ sg H Z, t' sg H Z → t sg H Z) : PA X e t' := ⟨fun ps pn st sg H Z inv q => h.run ps pn st sg H Z inv (i sg H Z q)⟩

section
variable {X : Cx} {W : WX} {a b c : Expr} {pos : Pos} {ma mb mc : M} {kp fr : Bool}
theorem pairedMap {α β : Type} {F G : α → β → Prop} : ∀ {l : List α} {m : List β}, Paired F l m → (∀ a b, F a b → G a b) → Paired G l m
  | _, _, .nil, _ => .nil
  | _, _, .cons r t, h => .cons (h _ _ r) (pairedMap t h)
theorem rpAll_of {A : List Addr} {H : Hp} : ∀ {vs : List V} {ds : List PyData}, Paired (fun v d => Vw A H true v d) vs ds → RpAll (Hide A H) vs ds
  | _, _, .nil => .nil
  | _, _, .cons r t => .cons r.kept (rpAll_of t)
theorem vw_of {A : List Addr} {H : Hp} {kp : Bool} : ∀ {vs : List V} {ds : List PyData}, Paired (fun v d => Vw A H kp v d) vs ds → Paired (fun v d => Vw A H false v d) vs ds
  | _, _, .nil => .nil
  | _, _, .cons r t => .cons r.weak (vw_of t)
theorem sound_var {x : Str} {i : Nat} (hN : X.N[i]? = some x) (hv : Vis X.env.scope x) (h1 : (x == ("__debug__" : Str)) = false) (h2 : (x == ("__classdict__" : Str)) = false) :
    PE X (.Name x pos) (tvM (gm X) W (mVar kp i) kp false) := by
  refine peBy (pe_var hN hv h1 h2) ?_
  rintro sg H Z ⟨A0, A, ρ, hs, ho⟩
  unfold mVar at ho
  split at ho
  · rename_i d e
    obtain ⟨v, e1, r⟩ := hs.sh i d e
    exact ⟨v, e1, ho v H (Same.refl _) (Res.ofKeep r)⟩
  · rename_i d e
    obtain ⟨w, e1, m1, m2, o⟩ := hs.ow i d e
    cases kp with
    | true => exact ho.elim
    | false => exact ⟨_, e1, ho _ H (Same.refl _) ⟨.inr ⟨rfl, w, m1, rfl, o⟩, fun z => nomatch z⟩⟩
  · exact ho.elim
theorem sound_c {d : PyData} {v : V} {e : Expr} (h : PE X e (tC v)) (r : ∀ H, Rp H v d) (n1 : ∀ ds, d ≠ .list ds) (n2 : ∀ ds, d ≠ .dict ds) : PE X e (tvM (gm X) W (mC d) kp fr) := by
  refine peBy h ?_
  rintro sg H Z ⟨A0, A, ρ, hs, ho⟩
  exact ho v H (Same.refl _) (Res.flat (r _) n1 n2)
theorem sound_bin {op : Operator} {f : PyData → PyData → Rs PyData} (hf : OpR X (binaryOp op) (rBin f)) (nx : ∀ d e c x, f d e ≠ .exc c x) (ha : PE X a (tvM (gm X) W ma false false)) (hb : PE X b (tvM (gm X) W mb false false)) :
    PE X (.BinOp a op b pos) (tvM (gm X) W (mBin f ma mb) kp fr) := by
  refine peBy (pe_op hf ha hb) ?_
  rintro sg H Z ⟨A0, A, ρ, hs, ho⟩
  refine ⟨A0, A, ρ, hs, ho.bind.mono fun d h1 v H1 s1 r1 => ?_⟩
  refine ⟨A0, A, ρ, hs.mono s1, (h1.later s1).bind.mono fun e h2 w H2 s2 r2 => ?_⟩
  have hs2 := (hs.mono s1).mono s2
  cases z : f d e with
  | ok z' =>
    rw [z] at h2
    exact ⟨A, d, e, z', hs2.dom, r1.1.mono s2, r2.1, z, fun u H3 s3 r3 => h2 u H3 (s1.trans (s2.trans s3)) ⟨.inl r3.1.kept, fun _ => freshUp (s1.trans s2) (r3.2 rfl)⟩⟩
  | exc c x => exact absurd z (nx d e c x)
  | no => rw [z] at h2; exact h2.elim

/-- an operation by values on what two expressions give -/
theorem two_in {r : R2} {f : PyData → PyData → Rs PyData} {fr' : Bool} {sg : St} {H : Hp} {Z : VK} (nx : ∀ d e c x, f d e ≠ .exc c x)
    (hr : ∀ (A : List Addr) (d e z : PyData) (x y : V) (H2 : Hp) (Z' : VK), Dom A H2 → Vw A H2 false x d → Vw A H2 false y e → f d e = .ok z → (∀ w H', Same H2 H' → Res A true fr' H2 H' w z → Z' w H') → r x y H2 Z')
    (h : tvM (gm X) W (mBin f ma mb) kp fr' sg H Z) : tOp r (tvM (gm X) W ma false false) (tvM (gm X) W mb false false) sg H Z := by
  obtain ⟨A0, A, ρ, hs, ho⟩ := h
  refine ⟨A0, A, ρ, hs, ho.bind.mono fun d h1 v H1 s1 r1 => ?_⟩
  refine ⟨A0, A, ρ, hs.mono s1, (h1.later s1).bind.mono fun e h2 w H2 s2 r2 => ?_⟩
  have hs2 := (hs.mono s1).mono s2
  cases z : f d e with
  | ok z' =>
    rw [z] at h2
    exact hr A d e z' v w H2 Z hs2.dom (r1.1.mono s2) r2.1 z fun u H3 s3 r3 => h2 u H3 (s1.trans (s2.trans s3)) ⟨.inl r3.1.kept, fun q => freshUp (s1.trans s2) (r3.2 q)⟩
  | exc c x => exact absurd z (nx d e c x)
  | no => rw [z] at h2; exact h2.elim
theorem sound_ix (hu : X.A.units + 65 < cLine) (nx : PlainIx b) (ha : PE X a (tvM (gm X) W ma false false)) (hb : PE X b (tvM (gm X) W mb false false)) : PE X (.Subscript a b pos) (tvM (gm X) W (mBin dIx ma mb) kp false) := by
  refine peBy (pe_ix (ixV hu) ha hb nx) fun sg H Z h => two_in (fun d e c x => ?_) (fun A d e z x y H2 Z' h1 h2 h3 h4 h5 => ⟨A, d, e, z, h1, h2, h3, h4, h5⟩) h
  unfold dIx
  split
  · cases h : atI _ _ <;> simp [ofOpt]
  · cases h : atI _ _ <;> simp [ofOpt]
  · cases h : atI _ _ <;> simp [ofOpt]
  · split
    · cases h : lookD _ _ <;> simp [ofOpt]
    · simp
  · simp
theorem okB_nx {b : Bool} {c x} : okB b ≠ .exc c x := fun h => nomatch h
theorem okI_nx {b : Int} {c x} : okI b ≠ .exc c x := fun h => nomatch h
theorem cmp_nx {op : CmpOp} {d e : PyData} {c x} : dCmp op d e ≠ .exc c x := by
  cases op <;> simp only [dCmp]
  · unfold dEq; split <;> first | exact okB_nx | (split <;> first | exact okB_nx | simp)
  · unfold dNe; split <;> first | exact okB_nx | (split <;> first | exact okB_nx | simp)
  · unfold dLt; split
    · exact okB_nx
    · split <;> first | exact okB_nx | simp
  · unfold dLe; split
    · exact okB_nx
    · split <;> first | exact okB_nx | simp
  · unfold dGt; split
    · exact okB_nx
    · split <;> first | exact okB_nx | simp
  · unfold dGe; split
    · exact okB_nx
    · split <;> first | exact okB_nx | simp
  · unfold dIs; split <;> first | exact okB_nx | simp
  · unfold dIs; split <;> first | exact okB_nx | simp
  · unfold dIn; split
    · split <;> first | exact okB_nx | simp
    · split <;> first | exact okB_nx | simp
    · split <;> first | exact okB_nx | simp
    · simp
  · unfold dIn; split
    · split <;> first | exact okB_nx | simp
    · split <;> first | exact okB_nx | simp
    · split <;> first | exact okB_nx | simp
    · simp
theorem bin_nx {op : Operator} {f : PyData → PyData → Rs PyData} (h : dBin op = some f) {d e : PyData} {c x} : f d e ≠ .exc c x := by
  cases op <;> simp only [dBin, Option.some.injEq, reduceCtorEq] at h <;> subst h
  · unfold dAdd; split <;> first | exact okI_nx | (split <;> simp) | simp
  · unfold dSub; split <;> first | exact okI_nx | simp
  · unfold dMul; split
    · split <;> first | exact okI_nx | simp
    · split <;> simp
    · simp
  · unfold dMod; split
    · split <;> first | exact okI_nx | simp
    · simp
  · unfold dPow; split
    · split <;> first | exact okI_nx | simp
    · simp
  · unfold dShl; split
    · split <;> first | exact okI_nx | simp
    · simp
  · unfold dShr; split
    · split <;> first | exact okI_nx | simp
    · simp
  · unfold dBit; split <;> first | exact okI_nx | simp
  · unfold dBit; split <;> first | exact okI_nx | simp
  · unfold dBit; split <;> first | exact okI_nx | simp
  · unfold dFdiv; split
    · split <;> first | exact okI_nx | simp
    · simp
theorem sound_cmp {op : CmpOp} (hu : X.A.units + 65 < cLine) (hm : behindInMarks op b = false) (ha : PE X a (tvM (gm X) W ma false false)) (hb : PE X b (tvM (gm X) W mb false false)) :
    PE X (.Compare a [op] [b] pos) (tvM (gm X) W (mBin (dCmp op) ma mb) kp true) :=
  peBy (pe_cmpR (opV_cmp hu op) ha hb hm) fun sg H Z h => two_in (fun d e c x => cmp_nx) (fun A d e z x y H2 Z' h1 h2 h3 h4 h5 => ⟨A, d, e, z, h1, h2, h3, h4, h5⟩) h
/-- a comparison as a test -/
theorem sound_tcmp {op : CmpOp} (hu : X.A.units + 65 < cLine) (hm : behindInMarks op b = false) (ha : PE X a (tvM (gm X) W ma false false)) (hb : PE X b (tvM (gm X) W mb false false)) :
    PT X (.Compare a [op] [b] pos) (tvT (gm X) W (tBl (mBin (dCmp op) ma mb))) := by
  refine ptBy (pt_cmpR (opV_cmp hu op) ha hb hm) fun sg H Z h => ?_
  refine two_in (kp := true) (fr' := true) (fun d e c x => cmp_nx) (fun A d e z x y H2 Z' h1 h2 h3 h4 h5 => ⟨A, d, e, z, h1, h2, h3, h4, h5⟩) (f := dCmp op) (W := W) ?_
  obtain ⟨A0, A, ρ, hs, ho⟩ := h
  refine ⟨A0, A, ρ, hs, ho.bind.mono fun d h1 v H1 s1 r1 => ?_⟩
  cases d with
  | bool k => exact ⟨k, r1.1.bool, h1 H1 s1⟩
  | _ => exact h1.elim
theorem sound_un {op : UnaryOp} {f : PyData → Rs PyData} (hf : UnR X (unaryOp op) (rUn f)) (nx : ∀ d c x, f d ≠ .exc c x) (ha : PE X a (tvM (gm X) W ma false false)) : PE X (.UnaryOp op a pos) (tvM (gm X) W (mUn f ma) kp fr) := by
  refine peBy (pe_un hf ha) ?_
  rintro sg H Z ⟨A0, A, ρ, hs, ho⟩
  refine ⟨A0, A, ρ, hs, ho.bind.mono fun d h1 v H1 s1 r1 => ?_⟩
  have hs1 := hs.mono s1
  cases z : f d with
  | ok z' =>
    rw [z] at h1
    exact ⟨A, d, z', hs1.dom, r1.1, z, fun u H3 s3 r3 => h1 u H3 (s1.trans s3) ⟨.inl r3.1.kept, fun _ => freshUp s1 (r3.2 rfl)⟩⟩
  | exc c x => exact absurd z (nx d c x)
  | no => rw [z] at h1; exact h1.elim
theorem tru_nx {d : PyData} {c x} : dTru d ≠ .exc c x := by cases d <;> simp [dTru]
theorem sound_not (ha : PE X a (tvM (gm X) W ma false false)) : PE X (.UnaryOp .Not a pos) (tvM (gm X) W (mNot ma) kp true) := by
  refine peBy (pe_notT ha) ?_
  rintro sg H Z ⟨A0, A, ρ, hs, ho⟩
  refine ⟨A0, A, ρ, hs, ho.bind.mono fun d h1 v H1 s1 r1 => ?_⟩
  cases z : dTru d with
  | ok k =>
    rw [z] at h1
    exact ⟨k, truV _ r1.1 z, h1 _ H1 s1 (Res.weak (res_bool _))⟩
  | exc c x => exact absurd z tru_nx
  | no => rw [z] at h1; exact h1.elim
theorem sound_and {rest : List Expr} (ha : PE X a (tvM (gm X) W ma kp false)) (hb : PE X (.BoolOp .And (b :: rest) pos) (tvM (gm X) W mb kp false)) : PE X (.BoolOp .And (a :: b :: rest) pos) (tvM (gm X) W (mAnd ma mb) kp false) := by
  refine peBy (pe_andT ha hb) ?_
  rintro sg H Z ⟨A0, A, ρ, hs, ho⟩
  refine ⟨A0, A, ρ, hs, ho.bind.mono fun d h1 v H1 s1 r1 => ?_⟩
  cases z : dTru d with
  | ok k =>
    rw [z] at h1
    refine ⟨k, truV _ r1.1 z, ?_⟩
    have h1' : Oc (gm X) A H (fun c d H' => W c d sg H') (fun d => ∀ v H', Same H H' → Res A kp false H H' v d → Z v H') (if k = true then mb ρ else .ok d) := h1
    cases k with
    | true => exact ⟨A0, A, ρ, hs.mono s1, (h1'.later s1).mono fun d q v H2 s2 r2 => q v H2 (s1.trans s2) ⟨r2.1, fun z => nomatch z⟩⟩
    | false => exact h1' v H1 s1 r1
  | exc c x => exact absurd z tru_nx
  | no => rw [z] at h1; exact h1.elim
theorem sound_or {rest : List Expr} (ha : PE X a (tvM (gm X) W ma kp false)) (hb : PE X (.BoolOp .Or (b :: rest) pos) (tvM (gm X) W mb kp false)) : PE X (.BoolOp .Or (a :: b :: rest) pos) (tvM (gm X) W (mOr ma mb) kp false) := by
  refine peBy (pe_orT ha hb) ?_
  rintro sg H Z ⟨A0, A, ρ, hs, ho⟩
  refine ⟨A0, A, ρ, hs, ho.bind.mono fun d h1 v H1 s1 r1 => ?_⟩
  cases z : dTru d with
  | ok k =>
    rw [z] at h1
    refine ⟨k, truV _ r1.1 z, ?_⟩
    have h1' : Oc (gm X) A H (fun c d H' => W c d sg H') (fun d => ∀ v H', Same H H' → Res A kp false H H' v d → Z v H') (if k = true then .ok d else mb ρ) := h1
    cases k with
    | true => exact h1' v H1 s1 r1
    | false => exact ⟨A0, A, ρ, hs.mono s1, (h1'.later s1).mono fun d q v H2 s2 r2 => q v H2 (s1.trans s2) ⟨r2.1, fun z => nomatch z⟩⟩
  | exc c x => exact absurd z tru_nx
  | no => rw [z] at h1; exact h1.elim
theorem sound_if {t : Ts} {fa fb : Bool} (ht : PT X c (tvT (gm X) W t)) (ha : PE X a (tvM (gm X) W ma kp fa)) (hb : PE X b (tvM (gm X) W mb kp fb)) : PE X (.IfExp c a b pos) (tvM (gm X) W (mIf t ma mb) kp (fa && fb)) := by
  refine peBy (pe_ifExp ht ha hb) ?_
  rintro sg H Z ⟨A0, A, ρ, hs, ho⟩
  refine ⟨A0, A, ρ, hs, ho.bind.mono fun k h1 H1 s1 => ?_⟩
  cases k with
  | true => exact ⟨A0, A, ρ, hs.mono s1, (Oc.later s1 h1).mono fun d q v H2 s2 r2 => q v H2 (s1.trans s2) ⟨r2.1, fun z => freshUp s1 (r2.2 (Bool.and_eq_true_iff.mp z).1)⟩⟩
  | false => exact ⟨A0, A, ρ, hs.mono s1, (Oc.later s1 h1).mono fun d q v H2 s2 r2 => q v H2 (s1.trans s2) ⟨r2.1, fun z => freshUp s1 (r2.2 (Bool.and_eq_true_iff.mp z).2)⟩⟩

/-! ### tests -/
theorem sound_tval (he : ∀ whole, isTrue a X.env whole = (do let v ← whole; standAt a.pos; holding [v] (truthy v))) (ha : PE X a (tvM (gm X) W ma false false)) : PT X a (tvT (gm X) W (tVal ma)) := by
  refine ptBy (pt_truth ha he) ?_
  rintro sg H Z ⟨A0, A, ρ, hs, ho⟩
  refine ⟨A0, A, ρ, hs, ho.bind.mono fun d h1 v H1 s1 r1 => ?_⟩
  cases z : dTru d with
  | ok k =>
    rw [z] at h1
    exact ⟨k, truV _ r1.1 z, h1 H1 s1⟩
  | exc c x => exact absurd z tru_nx
  | no => rw [z] at h1; exact h1.elim
theorem sound_tnot {t : Ts} (ha : PT X a (tvT (gm X) W t)) : PT X (.UnaryOp .Not a pos) (tvT (gm X) W (tNot t)) := by
  refine ptBy (pt_not ha) ?_
  rintro sg H Z ⟨A0, A, ρ, hs, ho⟩
  exact ⟨A0, A, ρ, hs, ho.bind.mono fun d h1 H1 s1 => h1 H1 s1⟩
theorem pwBy {e : Expr} {t t' : TT} (h : PW X e t) (i : ∀ sg H Z, t' sg H Z → t sg H Z) : PW X e t' := ⟨fun wh pn st sg H Z inv q => h.run wh pn st sg H Z inv (i sg H Z q)⟩
theorem sound_tand {rest : List Expr} {t u : Ts} (ha : PT X a (tvT (gm X) W t)) (hb : PW X (.BoolOp .And (b :: rest) pos) (tvT (gm X) W u)) : PW X (.BoolOp .And (a :: b :: rest) pos) (tvT (gm X) W (tAnd t u)) := by
  refine pwBy (pw_and ha hb) ?_
  rintro sg H Z ⟨A0, A, ρ, hs, ho⟩
  refine ⟨A0, A, ρ, hs, ho.bind.mono fun k h1 H1 s1 => ?_⟩
  cases k with
  | true => exact ⟨A0, A, ρ, hs.mono s1, (Oc.later s1 h1).mono fun d q H2 s2 => q H2 (s1.trans s2)⟩
  | false => exact h1 H1 s1
theorem sound_tor {rest : List Expr} {t u : Ts} (ha : PT X a (tvT (gm X) W t)) (hb : PW X (.BoolOp .Or (b :: rest) pos) (tvT (gm X) W u)) : PW X (.BoolOp .Or (a :: b :: rest) pos) (tvT (gm X) W (tOr t u)) := by
  refine pwBy (pw_or ha hb) ?_
  rintro sg H Z ⟨A0, A, ρ, hs, ho⟩
  refine ⟨A0, A, ρ, hs, ho.bind.mono fun k h1 H1 s1 => ?_⟩
  cases k with
  | true => exact h1 H1 s1
  | false => exact ⟨A0, A, ρ, hs.mono s1, (Oc.later s1 h1).mono fun d q H2 s2 => q H2 (s1.trans s2)⟩

/-! ### arguments, displays, calls -/
theorem mAll_len {ρ : Rho} : ∀ {ms : List M} {ds : List PyData}, mAll ms ρ = .ok ds → ds.length = ms.length := by
  intro ms
  induction ms with
  | nil => intro ds e; cases e; rfl
  | cons m ms ih =>
    intro ds e
    unfold mAll at e
    cases e1 : m ρ with
    | ok d =>
      rw [e1] at e
      cases e2 : mAll ms ρ with
      | ok ds' => rw [e2] at e; cases e; simp [ih e2]
      | exc c x => rw [e2] at e; cases e
      | no => rw [e2] at e; cases e
    | exc c x => rw [e1] at e; cases e
    | no => rw [e1] at e; cases e
def noStar : Expr → Bool
  | .Starred .. => false
  | _ => true
theorem star_ne {e : Expr} {es : List Expr} {env : Env} (h : noStar e = true) : starEach (e :: es) env = (false, eval e env) :: starEach es env := by cases e <;> first | rfl | cases h
theorem star_plain {env : Env} {ps : Pos} : ∀ {es : List Expr}, es.all noStar = true → (backTo ps (starEach es env)).any (·.1) = false
  | [], _ => rfl
  | e :: es, h => by
    have h' := Bool.and_eq_true_iff.mp (show (noStar e && es.all noStar) = true from h)
    rw [star_ne h'.1]
    show (false || (backTo ps (starEach es env)).any (·.1)) = false
    rw [star_plain h'.2]
    rfl
theorem sound_nil : PA X [] (tvA (gm X) W [] kp) := by
  refine paBy pa_nil ?_
  rintro sg H Z ⟨A0, A, ρ, hs, ho⟩
  exact ho [] H (Same.refl _) .nil
theorem sound_cons {es : List Expr} {ms : List M} {fa : Bool} (n : noStar a = true) (ha : PE X a (tvM (gm X) W ma kp fa)) (hr : PA X es (tvA (gm X) W ms kp)) : PA X (a :: es) (tvA (gm X) W (ma :: ms) kp) := by
  refine paBy (pa_cons ha hr (star_ne n)) ?_
  rintro sg H Z ⟨A0, A, ρ, hs, ho⟩
  refine ⟨A0, A, ρ, hs, ho.bind.mono fun d h1 v H1 s1 r1 => ?_⟩
  refine ⟨A0, A, ρ, hs.mono s1, (h1.later s1).bind.mono fun ds h2 vs H2 s2 r2 => ?_⟩
  exact h2 (v :: vs) H2 (s1.trans s2) (.cons (r1.1.mono s2) r2)
theorem sound_tup {es : List Expr} {ms : List M} {k : Nat} (z : ms.length ≤ sizeLine) (h : PA X es (tvA (gm X) W ms true)) : PE X (.Tuple es k pos) (tvM (gm X) W (mTup ms) kp true) := by
  refine peBy (pe_tup h) ?_
  rintro sg H Z ⟨A0, A, ρ, hs, ho⟩
  refine ⟨A0, A, ρ, hs, ?_⟩
  unfold mTup at ho
  cases e : mAll ms ρ with
  | ok ds =>
    rw [e] at ho
    have hl := mAll_len e
    intro vs H1 s1 r1
    have ra := rpAll_of r1
    refine ⟨by rw [ra.len, hl]; exact z, fun p np => ho _ _ (s1.trans (same_new np)) (Res.newT (hs.mono s1).dom ra (by rw [ra.len, hl]; exact z) np)⟩
  | exc c x => rw [e] at ho; exact ho
  | no => rw [e] at ho; exact ho
theorem sound_lst {es : List Expr} {ms : List M} (z : ms.length ≤ sizeLine) (h : PA X es (tvA (gm X) W ms true)) : PE X (.List es pos) (tvM (gm X) W (mLst ms) kp true) := by
  refine peBy (pe_lst h) ?_
  rintro sg H Z ⟨A0, A, ρ, hs, ho⟩
  refine ⟨A0, A, ρ, hs, ?_⟩
  unfold mLst at ho
  cases e : mAll ms ρ with
  | ok ds =>
    rw [e] at ho
    have hl := mAll_len e
    intro vs H1 s1 r1
    have ra := rpAll_of r1
    refine ⟨by rw [ra.len, hl]; exact z, fun p np => ho _ _ (s1.trans (same_new np)) (Res.newL (hs.mono s1).dom ra (by rw [ra.len, hl]; exact z) np s1)⟩
  | exc c x => rw [e] at ho; exact ho
  | no => rw [e] at ho; exact ho
theorem sound_call {x : Str} {p : Pos} {e : Expr} {es : List Expr} {ms : List M} {I : FnI} {f : Addr} {fd : FuncData} {ps : List Str} {k : Nat} (F : FnG X.prog X.w X.K X.mg X.base k f fd ps (spOf (gm X) I)) (hr : Room k X.A) (hg : X.A.guards = some [])
    (gl : Gl X x) (hm : X.mg x = some (.ref f)) (hk : PySem.W.keepIn X.K (.ref f) = true) (hb : Binds X.K fd ps []) (tk : Takes X W) (nd : (x == ("__debug__" : Str)) = false) (hl : ms.length = I.ar) (hn : (e :: es).all noStar = true)
    (h : PA X (e :: es) (tvA (gm X) W ms true)) : PE X (.Call (.Name x p) (e :: es) [] pos) (tvM (gm X) W (mCall I.sem ms) kp I.fr) := by
  have body : ∀ sg H Z, tvM (gm X) W (mCall I.sem ms) kp I.fr sg H Z → tvA (gm X) W ms true sg H fun vs H1 => spOf (gm X) I vs H1 Z fun c d H' => W c d sg H' := by
    rintro sg H Z ⟨A0, A, ρ, hs, ho⟩
    refine ⟨A0, A, ρ, hs, ?_⟩
    unfold mCall at ho
    cases e : mAll ms ρ with
    | ok ds =>
      rw [e] at ho
      intro vs H1 s1 r1
      have ho' : Oc (gm X) A H (fun c d H' => W c d sg H') (fun d => ∀ v H', Same H H' → Res A kp I.fr H H' v d → Z v H') (I.sem ds) := ho
      exact ⟨A, ds, (hs.mono s1).dom, rpAll_of r1, (mAll_len e).trans hl, (ho'.later s1).mono fun d q v H2 s2 r2 => q v H2 (s1.trans s2) ⟨.inl r2.1.kept, fun z => freshUp s1 (r2.2 z)⟩⟩
    | exc c x => rw [e] at ho; exact ho
    | no => rw [e] at ho; exact ho
  have hn' := Bool.and_eq_true_iff.mp (show (noStar e && es.all noStar) = true from hn)
  exact peBy (peG_call F hr hg gl hm hk hb tk h nd (star_ne hn'.1) (star_plain hn'.2)) body
/-! ### built-ins -/
theorem pe_cAny {e : Expr} {es : List Expr} {x : Str} {p : Pos} {ms : List M} {f : List PyData → Rs PyData} {f' : Bool} (nx : ∀ ds c x, f ds ≠ .exc c x)
    (base : PE X (.Call (.Name x p) (e :: es) [] pos) (tCB (rCall f f') (tvA (gm X) W ms false))) : PE X (.Call (.Name x p) (e :: es) [] pos) (tvM (gm X) W (mCall f ms) kp f') := by
  refine peBy base ?_
  rintro sg H Z ⟨A0, A, ρ, hs, ho⟩
  refine ⟨A0, A, ρ, hs, ho.bind.mono fun ds h1 vs H1 s1 r1 => ?_⟩
  cases z : f ds with
  | ok z' =>
    rw [z] at h1
    exact ⟨A, ds, z', (hs.mono s1).dom, r1, z, fun u H3 s3 r3 => h1 u H3 (s1.trans s3) ⟨.inl r3.1.kept, fun q => freshUp s1 (r3.2 q)⟩⟩
  | exc c x => exact absurd z (nx ds c x)
  | no => rw [z] at h1; exact h1.elim
theorem pe_bltAny {id : String} {v : Value} {e : Expr} {es : List Expr} {x : Str} {p : Pos} {ms : List M} {f : List PyData → Rs PyData} {f' : Bool} (hv : v = .builtin id ∨ v = .type id) (hc : CallR X v (rCall f f')) (nx : ∀ ds c x, f ds ≠ .exc c x)
    (gl : Gl X x) (hm : X.mg x = none) (hb : bootBuiltins x = some v) (hn : (e :: es).all noStar = true) (n1 : x ≠ "__name__") (nd : (x == ("__debug__" : Str)) = false)
    (h : PA X (e :: es) (tvA (gm X) W ms false)) : PE X (.Call (.Name x p) (e :: es) [] pos) (tvM (gm X) W (mCall f ms) kp f') := by
  have hn' := Bool.and_eq_true_iff.mp (show (noStar e && es.all noStar) = true from hn)
  have base : PE X (.Call (.Name x p) (e :: es) [] pos) (tCB (rCall f f') (tvA (gm X) W ms false)) := by
    rcases hv with rfl | rfl
    · exact pe_callB hc gl hm hb h n1 nd (star_ne hn'.1) (star_plain hn'.2)
    · exact pe_callTy hc gl hm hb h n1 nd (star_ne hn'.1) (star_plain hn'.2)
  exact pe_cAny nx base
/-! ### slices -/
theorem tvPart {e : Option Expr} {m : Option M} (h : match e, m with | none, none => True | some e, some m => PE X e (tvM (gm X) W m false false) | _, _ => False) :
    PO X e (fun sg H Z => ∃ A0 A ρ, StA (gm X).K A0 A ρ sg H ∧ Oc (gm X) A H (fun c d H' => W c d sg H') (fun o => ∀ H', Same H H' → Z o H') (optM m ρ)) := by
  cases e with
  | none =>
    cases m with
    | none =>
      have p := po_none (X := X)
      constructor
      rintro pn st sg H Z inv ⟨A0, A, ρ, hs, ho⟩
      exact p.run pn st sg H Z inv (ho H (Same.refl _))
    | some m => exact h.elim
  | some e =>
    cases m with
    | none => exact h.elim
    | some m =>
      have p := po_some (show PE X e (tvM (gm X) W m false false) from h)
      constructor
      rintro pn st sg H Z inv ⟨A0, A, ρ, hs, ho⟩
      refine p.run pn st sg H Z inv ⟨A0, A, ρ, hs, ho.bind.mono fun d h1 v H1 s1 r1 => ?_⟩
      cases d with
      | int i => exact ⟨i, r1.1.int, h1 H1 s1⟩
      | _ => exact h1.elim
theorem dSl_nx {d lo hi c x} : dSl d lo hi ≠ .exc c x := by cases d <;> simp [dSl]
theorem sound_slice {lo hi : Option Expr} {ml mh : Option M} {p2 : Pos} (ha : PE X a (tvM (gm X) W ma false false))
    (hl : match lo, ml with | none, none => True | some e, some m => PE X e (tvM (gm X) W m false false) | _, _ => False)
    (hh : match hi, mh with | none, none => True | some e, some m => PE X e (tvM (gm X) W m false false) | _, _ => False) :
    PE X (.Subscript a (.Slice lo hi none p2) pos) (tvM (gm X) W (mSl ma ml mh) kp true) := by
  refine peBy (pe_slice slV ha (tvPart hl) (tvPart hh)) ?_
  rintro sg H Z ⟨A0, A, ρ, hs, ho⟩
  refine ⟨A0, A, ρ, hs, ho.bind.mono fun d h1 v H1 s1 r1 => ?_⟩
  refine ⟨A0, A, ρ, hs.mono s1, (h1.later s1).bind.mono fun l h2 H2 s2 => ?_⟩
  refine ⟨A0, A, ρ, (hs.mono s1).mono s2, (h2.later s2).bind.mono fun u h3 H3 s3 => ?_⟩
  have hs3 := ((hs.mono s1).mono s2).mono s3
  cases z : dSl d l u with
  | ok z' =>
    rw [z] at h3
    exact ⟨A, d, z', hs3.dom, (r1.1.mono s2).mono s3, z, fun w H4 s4 r4 => h3 w H4 (s1.trans (s2.trans (s3.trans s4))) ⟨.inl r4.1.kept, fun q => freshUp (s1.trans (s2.trans s3)) (r4.2 q)⟩⟩
  | exc c x => exact absurd z dSl_nx
  | no => rw [z] at h3; exact h3.elim
theorem sound_rev {k : Nat} {p1 p2 p3 : Pos} (ha : PE X a (tvM (gm X) W ma false false)) : PE X (.Subscript a (.Slice none none (some (.UnaryOp .USub (.Constant (.int 1) k p1) p2)) p3) pos) (tvM (gm X) W (mUn dRev ma) kp true) := by
  refine peBy (pe_revL ha) ?_
  rintro sg H Z ⟨A0, A, ρ, hs, ho⟩
  refine ⟨A0, A, ρ, hs, ho.bind.mono fun d h1 v H1 s1 r1 => ?_⟩
  cases d with
  | list ds =>
    obtain ⟨l, us, rfl, hl, hz, ra⟩ := r1.1.list
    exact ⟨l, us, rfl, .inl (.inl hl), fun p np => h1 _ _ (s1.trans (same_new np)) (Res.newL (hs.mono s1).dom ra.rev (by rw [List.length_reverse]; exact hz) np s1)⟩
  | _ => exact h1.elim

/-! ### the script -/
def mFzLen (i : Nat) : M := fun ρ => match ρ[i]? with
  | some (.fz _ ns) => okI ns.length
  | _ => .no
def mFzIx (i : Nat) (b : M) : M := fun ρ => match ρ[i]? with
  | some (.fz _ ns) => do
    let y ← b ρ
    match y with
    | .int j => ofOpt ((atI ns j).map .int)
    | _ => .no
  | _ => .no
def mFzCall (f : List Int → Rs PyData) (i : Nat) : M := fun ρ => match ρ[i]? with
  | some (.fz _ ns) => f ns
  | _ => .no
theorem sound_fzLen {y : Str} {i : Nat} {p1 p2 : Pos} (hN : X.N[i]? = some y) (hv : Vis X.env.scope y) (h1 : (y == ("__debug__" : Str)) = false) (h2 : (y == ("__classdict__" : Str)) = false) (gl : Gl X "len") (hm : X.mg "len" = none) :
    PE X (.Call (.Name "len" p1) [.Name y p2] [] pos) (tvM (gm X) W (mFzLen i) kp fr) := by
  refine peBy (pe_callB call_len_seq gl hm PySem.boot_len (pa_cons (pe_var hN hv h1 h2) pa_nil) (by decide) rfl rfl rfl) ?_
  rintro sg H Z ⟨A0, A, ρ, hs, ho⟩
  unfold mFzLen at ho
  split at ho
  · rename_i a ns e
    obtain ⟨e1, e2⟩ := hs.fz i a ns e
    refine ⟨.ref a, e1, a, ns.map V.int, rfl, .inl e2.seq, ?_⟩
    rw [List.length_map]
    exact ho _ H (Same.refl _) (Res.weak (res_int _))
  · exact ho.elim
theorem sound_fzIx {y : Str} {i : Nat} {p2 : Pos} (nx : PlainIx b) (hN : X.N[i]? = some y) (hv : Vis X.env.scope y) (h1 : (y == ("__debug__" : Str)) = false) (h2 : (y == ("__classdict__" : Str)) = false) (hb : PE X b (tvM (gm X) W mb false false)) :
    PE X (.Subscript (.Name y p2) b pos) (tvM (gm X) W (mFzIx i mb) kp fr) := by
  refine peBy (pe_ix ix_list (pe_var hN hv h1 h2) hb nx) ?_
  rintro sg H Z ⟨A0, A, ρ, hs, ho⟩
  unfold mFzIx at ho
  split at ho
  · rename_i a ns e
    obtain ⟨e1, e2⟩ := hs.fz i a ns e
    refine ⟨.ref a, e1, A0, A, ρ, hs, ho.bind.mono fun d h1 v H1 s1 r1 => ?_⟩
    cases d with
    | int j =>
      have h2 : Oc (gm X) A H (fun c d H' => W c d sg H') (fun d => ∀ v H', Same H H' → Res A kp fr H H' v d → Z v H') (ofOpt ((atI ns j).map .int)) := h1
      cases ex : atI ns j with
      | none => rw [ex] at h2; exact h2.elim
      | some n =>
        rw [ex] at h2
        have h3 : ∀ v H', Same H H' → Res A kp fr H H' v (.int n) → Z v H' := h2
        have e4 : atI (ns.map V.int) j = some (.int n) := by
          unfold L2.atI at ex ⊢
          rw [List.length_map]
          cases e5 : ixN ns.length j with
          | none => rw [e5] at ex; cases ex
          | some q =>
            rw [e5] at ex
            have ex' : ns[q]? = some n := ex
            show (ns.map V.int)[q]? = _
            rw [List.getElem?_map, ex']
            rfl
        exact ⟨a, ns.map V.int, j, .int n, rfl, r1.1.int, (e2.mono fun b o u q => s1 _ _ q).seq, e4, h3 _ H1 s1 (Res.weak (res_int _))⟩
    | _ => exact h1.elim
  · exact ho.elim
theorem sound_fzCall {x y : Str} {i : Nat} {p1 p2 : Pos} {I : (List Int → Rs PyData) × Bool} {f : Addr} {fd : FuncData} {ps : List Str} {k : Nat} (hN : X.N[i]? = some y) (hv : Vis X.env.scope y) (h1 : (y == ("__debug__" : Str)) = false) (h2 : (y == ("__classdict__" : Str)) = false)
    (F : FnG X.prog X.w X.K X.mg X.base k f fd ps (spFz (gm X) I.1 I.2)) (hr : Room k X.A) (hg : X.A.guards = some []) (gl : Gl X x) (hm : X.mg x = some (.ref f)) (hk : PySem.W.keepIn X.K (.ref f) = true) (hb : Binds X.K fd ps []) (tk : Takes X W) (nd : (x == ("__debug__" : Str)) = false) :
    PE X (.Call (.Name x p1) [.Name y p2] [] pos) (tvM (gm X) W (mFzCall I.1 i) kp I.2) := by
  refine peBy (peG_call F hr hg gl hm hk hb tk (pa_cons (pe_var hN hv h1 h2) pa_nil) nd rfl rfl) ?_
  rintro sg H Z ⟨A0, A, ρ, hs, ho⟩
  unfold mFzCall at ho
  split at ho
  · rename_i a ns e
    obtain ⟨e1, e2⟩ := hs.fz i a ns e
    exact ⟨.ref a, e1, A, a, ns, hs.dom, rfl, e2, ho.mono fun d q v H2 s2 r2 => q v H2 s2 ⟨.inl r2.1.kept, r2.2⟩⟩
  · exact ho.elim
end
end Sm

/-! enumerate of a tuple. -/
namespace Sm
open PySem PySem.Spec PyProof.Rows L2
open Sem (wp)
set_option maxHeartbeats 1000000 in
theorem meets_enumerate_newT {v : Value} {o : Obj} {H : Heap → Prop} (B : Begins v o H) :
    Meets (Builtin.«enumerate.__new__» ⟨[.type "enumerate", v], []⟩) (fun _ R s => H s.heap ∧
      R (.ok (.ret (.ref (s.heap.push o).objs.size))) { s with heap := (s.heap.push o).push { cls := .type "enumerate", data := .fields #[.none, .bool false, .ref s.heap.objs.size, rawInt 0, .none, .none] } }) :=
  .of_wp fun prog w A R s h => by
    obtain ⟨hp, g, d, tk, os⟩ := s; obtain ⟨h1, h⟩ := h
    have hsub := sub_enumerate
    have q1 : ∀ {A' : Around} {E : Value → Shared → Prop} {Q : Value → Shared → Prop}, Q (.ref hp.objs.size) ⟨hp.push o, g, d, tk, os⟩ → wpAny (model prog w) A' (pyIter v) Q E ⟨hp, g, d, tk, os⟩ :=
      fun q => B.iter prog w _ _ ⟨hp, g, d, tk, os⟩ _ h1 q
    wp_walk using q1
    refine wpAny_stack_any fun st => wpAny_pure ?_
    split
    · rename_i c _ _ _ _ _
      cases (c == Value.type "enumerate")
      · wp_walk using q1
        exact ⟨_, rfl, h⟩
      · wp_walk using q1
        exact ⟨_, rfl, h⟩
    · wp_walk using q1
      exact ⟨_, rfl, h⟩
section
variable {prog : Program} {w : World} {A : Around} {E : Value → Shared → Prop} {s : Shared}
theorem call_enumerate_tup {l : Addr} {items : Array Value} {Q : Value → Shared → Prop} (hL : s.heap.IsTuple l items)
    (h : ∀ h', IsEnum h' (s.heap.objs.size + 1) s.heap.objs.size 0 .none → h'.IsTupleIter s.heap.objs.size l 0 → h'.objs.size = s.heap.objs.size + 2 →
      (∀ b o, s.heap.get? b = some o → h'.get? b = some o) → Q (.ref (s.heap.objs.size + 1)) { s with heap := h' }) :
    wpAny (model prog w) A (call (.type "enumerate") [.ref l]) Q E s := by
  refine callType_new F.called_enumerate (by decide) (F.typeCall_enumerate_1 _) (F.newCall_enumerate_1 _) (fun obj => F.args_object_init_2 obj _) F.entry_enumerate_new
    (meets_enumerate_newT (begins_tuple l items)) ⟨hL, ?_⟩
  have hz : (s.heap.push { cls := .type "tuple_iterator", data := .fields #[.ref l, .int 0 0] }).objs.size = s.heap.objs.size + 1 := Heap.size_push ..
  show _ ∧ _
  rw [hz]
  have he : IsEnum ((s.heap.push { cls := .type "tuple_iterator", data := .fields #[.ref l, .int 0 0] }).push
      { cls := .type "enumerate", data := .fields #[.none, .bool false, .ref s.heap.objs.size, rawInt 0, .none, .none] }) (s.heap.objs.size + 1) s.heap.objs.size 0 .none := by
    have := Heap.get?_push_size (s.heap.push { cls := .type "tuple_iterator", data := .fields #[.ref l, .int 0 0] })
      (o := { cls := .type "enumerate", data := .fields #[.none, .bool false, .ref s.heap.objs.size, rawInt 0, .none, .none] }) rfl
    rw [hz] at this; exact this
  refine ⟨⟨_, he, rfl⟩, h _ he ⟨_, Heap.get?_push_of_some _ (Heap.get?_push_size _ rfl), rfl, rfl⟩ (by rw [Heap.size_push, hz]) fun b o x => Heap.get?_push_of_some _ (Heap.get?_push_of_some _ x)⟩
end
/-- the tuple at a, each item in a new pair -/
def IteT (K : PySem.W.Frag) (a : Addr) : It :=
  ⟨fun i H => ∃ (xs : List V) (x : V), SqT K H a xs ∧ xs[i]? = some x, fun i H v H' => ∃ T x, v = .ref T ∧ H T = none ∧ H' = upd H T (.tup [.int (i : Nat), x]) ∧ ∀ xs, SqT K H a xs → xs[i]? = some x, fun i H => ∃ xs : List V, SqT K H a xs ∧ xs.length ≤ i⟩
theorem turn_enumT {P : Program} {w : World} {K : PySem.W.Frag} {elts : List Expr} {kk : Nat} {tpos : Pos} (a e it : Addr) :
    Turn P w K (.Tuple elts kk tpos) (IteT K a) [e, it] e (fun i h => (∃ old, IsEnum h e it ((i : Nat) : Int) old) ∧ h.IsTupleIter it a i ∧ e ≠ it ∧ e ≠ a ∧ a ≠ it) where
  mem := by simp
  obj := fun i h st b hb => by
    obtain ⟨⟨old, he⟩, ⟨o, ho, hc, hd⟩, _⟩ := st
    have e' : b = e ∨ b = it := by simpa using hb
    rcases e' with z | z
    · rw [z]; exact ⟨_, he, fun v q => nomatch q⟩
    · rw [z]; exact ⟨o, ho, fun v q => by rw [hd] at q; cases q⟩
  keep := fun i h h' st k => let ⟨⟨old, he⟩, hi, hne⟩ := st; ⟨⟨old, k e (by simp) _ he⟩, hi.at fun o q => k it (by simp) o q, hne⟩
  item := by
    intro X hP hw hK hc i pins s σ H E I hf st hg
    subst hP hw hK
    obtain ⟨⟨old, he⟩, hit, hne, hea, hai⟩ := st
    obtain ⟨xs, x, hq, hx⟩ := hg
    obtain ⟨its, rv, p, hz⟩ := I.tuple hq
    obtain ⟨u, hu, ru⟩ := rv.get hx
    have hel : e < s.heap.objs.size := Heap.lt_size he
    have hil : it < s.heap.objs.size := by obtain ⟨_, q, _⟩ := hit; exact Heap.lt_size q
    have hlt : i < its.toArray.size := by
      obtain ⟨h1, _⟩ := List.getElem?_eq_some_iff.mp hu
      simpa using h1
    refine wpAny_pyNext_enum_itemD (Draws.tuple (A := X.A.in1) (I.ok.hd hc) it a hai its.toArray) he ⟨hit, p⟩ hlt hne (by simp [hne, hea]) fun y h' tk hy ho hst hT hsz hk => ?_
    have hit' := hst.1
    have hyu : y = u := by
      have hy' : its[i]? = some y := by simpa using hy
      rw [hu] at hy'
      cases hy'
      rfl
    subst hyu
    refine ⟨_, rfl, wpAny_letOwnedTupleGo_enum (s := { s with heap := h', toks := tk + 1 }) ho fun h'' he' sb => ?_⟩
    have hT2 : h''.get? s.heap.objs.size = some { cls := .type "tuple", data := .seq #[.int i tk, y] } := (sb.2 _ (Nat.ne_of_gt hel)).trans hT
    have new : ObjOk X.prog X.w (upd H s.heap.objs.size (.tup [.int (i : Nat), x])) h'' s.heap.objs.size (.tup [.int (i : Nat), x]) :=
      ⟨by show 2 ≤ sizeLine; decide, [.int i tk, y], .cons ⟨_, rfl⟩ (.cons ru .nil), ⟨_, hT2, rfl, _, rfl⟩⟩
    have I1 : Inv X pins σ (upd H s.heap.objs.size (.tup [.int (i : Nat), x])) { s with heap := h'', toks := tk + 1 } :=
      I.turnedNew (ch := [e, it]) (fun b ob hb q => (sb.2 b (fun z => hb (by simp [z]))).trans (hk b ob (fun z => hb (by simp [z])) (fun z => hb (by simp [z])) q)) hf (Nat.le_refl _) new
    refine ⟨.ref s.heap.objs.size, _, I1, rfl, ⟨_, x, rfl, I.hok.fresh (Nat.le_refl _), rfl, fun ys hy => by rw [I.tuple_inj hy hq]; exact hx⟩, ⟨⟨y, ?_⟩, hit'.at fun o q => (sb.2 it (Ne.symm hne)).trans q, hne, hea, hai⟩, fun b hb => ?_⟩
    · have e1 : ((i + 1 : Nat) : Int) = (i : Int) + 1 := by omega
      rw [e1]; exact he'
    · have hb' : b < s.heap.objs.size := by
        have e' : b = e ∨ b = it := by simpa using hb
        rcases e' with z | z
        · rw [z]; exact hel
        · rw [z]; exact hil
      rw [upd_ne (Nat.ne_of_lt hb')]
      exact (hf b hb).1
  done := by
    intro X hP hw hK hc i pins s σ H E I hf st hg
    subst hP hw hK
    obtain ⟨⟨old, he⟩, hit, hne, hea, hai⟩ := st
    obtain ⟨xs, hq, hx⟩ := hg
    obtain ⟨its, rv, p, hz⟩ := I.tuple hq
    obtain ⟨f0, f1, f2, f3, f4, f5⟩ := hf it (by simp)
    have hl := rv.length
    have hT : s.TypeIs (.ref e) "enumerate" := ⟨_, he, rfl⟩
    unfold pyNext
    refine wpAny_bind (wpAny_attempt (wpAny_callSpecial?_slot (name := Str.ofString "__next__") hT F.slot_enumerate_next
      (wpAny_call_entry F.slot_enumerate_next hT F.entry_enumerate_next ?_ (F.args_enumerate_next_1 _))))
    show wpAny _ _ (field (.ref e) 2 >>= _) _ _ _
    refine wpAny_bind (wpAny_field he rfl (x := .ref it) rfl ?_)
    refine wpAny_bind (wpAny_nextOf_tuple_end (I.ok.hd hc) hit (show s.heap.IsTuple a its.toArray from p) (by simp; omega) fun h' x he' hx' => ?_)
    obtain ⟨o, ho, hcl⟩ := hx'
    refine wpAny_bind (wpAny_isInstance (T := "StopIteration") (b := true) ⟨o, ho, hcl⟩ isSubtype_stop ?_)
    exact wpAny_pure ⟨rfl, I.turned (t' := s.toks) (fun b o hb q => he' b o hb q) f0 f1 f3 f4 f5⟩
  self := fun A i s Q E st h => let ⟨⟨_, he⟩, _⟩ := st; wpAny_pyIter_enum he h
def iEnumT (K : PySem.W.Frag) (ta : TA) : TI := fun σ H R => ta σ H fun vs H1 => ∃ a xs, vs = [.ref a] ∧ SqT K H1 a xs ∧ R (IteT K a) H1
theorem pi_enum2 {X : Cx} {e : Expr} {ta : TA} {p pos tpos : Pos} {elts : List Expr} {kk : Nat} (hg : Gl X "enumerate") (hm : X.mg "enumerate" = none) (ha : PA X [e] ta) (hs : starEach [e] X.env = [(false, eval e X.env)] := by rfl) :
    PI X (.Tuple elts kk tpos) (.Call (.Name "enumerate" p) [e] [] pos) (fun σ H R => ta σ H fun vs H1 => (∃ a xs, vs = [.ref a] ∧ SqL X.K H1 a xs ∧ R (Ite X.K a) H1) ∨ ∃ a xs, vs = [.ref a] ∧ SqT X.K H1 a xs ∧ R (IteT X.K a) H1) := by
  refine ⟨fun pins s σ H R I h => ?_⟩
  refine Call_ (ld_blt I hg hm boot_enumerate (PyProof.Rows.callWith_type1 (thn (ha.run pos pins s σ H _ I h) fun us s1 ⟨vs, H1, I1, r1, q1⟩ => ?_) hs rfl))
  have fp : ∀ b, b = s1.heap.objs.size + 1 ∨ b = s1.heap.objs.size → s1.heap.objs.size ≤ b := fun b e' => by
    rcases e' with z | z
    · rw [z]; exact Nat.le_add_right _ _
    · rw [z]; exact Nat.le_refl _
  rcases q1 with ⟨a, xs, ex, hq, q⟩ | ⟨a, xs, ex, hq, q⟩
  · subst ex
    cases r1 with
    | cons r rr =>
      cases rr
      cases r
      obtain ⟨its, rv, p', hz⟩ := I1.list hq
      refine call_enumerate_list p'.isList fun h' he hit hsz hk => wpAny_pyIter_enum he ?_
      have I2 : Inv X pins σ H1 { s1 with heap := h' } := I1.kept (t' := s1.toks) hk
      refine ⟨s1.heap.objs.size + 1, [s1.heap.objs.size + 1, s1.heap.objs.size], _, _, H1, rfl, I2, turn_enum a (s1.heap.objs.size + 1) s1.heap.objs.size, ⟨⟨.none, he⟩, hit, Nat.succ_ne_self _⟩, fun b hb => ?_, q⟩
      have hle := fp b (by simpa using hb)
      exact I1.fpOk hle (I1.hok.fresh hle)
  · subst ex
    cases r1 with
    | cons r rr =>
      cases rr
      cases r
      obtain ⟨its, rv, p', hz⟩ := I1.tuple hq
      have hal : a < s1.heap.objs.size := by obtain ⟨o, ho, _⟩ := p'; exact Heap.lt_size ho
      refine call_enumerate_tup (show s1.heap.IsTuple a its.toArray from p') fun h' he hit hsz hk => wpAny_pyIter_enum he ?_
      have I2 : Inv X pins σ H1 { s1 with heap := h' } := I1.kept (t' := s1.toks) hk
      refine ⟨s1.heap.objs.size + 1, [s1.heap.objs.size + 1, s1.heap.objs.size], _, _, H1, rfl, I2, turn_enumT a (s1.heap.objs.size + 1) s1.heap.objs.size, ⟨⟨.none, he⟩, hit, Nat.succ_ne_self _, Nat.ne_of_gt (Nat.lt_succ_of_lt hal), Nat.ne_of_lt hal⟩, fun b hb => ?_, q⟩
      have hle := fp b (by simpa using hb)
      exact I1.fpOk hle (I1.hok.fresh hle)
end Sm

/-! Targets, what is walked, comprehensions. -/
namespace Sm
open PySem PySem.Spec L2

/-! ### targets -/
def tNm (i : Nat) : Tg := fun d ρ => .ok (ρ.set i (.sh d))
def asgAll : List Tg → List PyData → Rho → Rs Rho
  | [], [], ρ => .ok ρ
  | t :: ts, d :: ds, ρ => do
    let ρ' ← t d ρ
    asgAll ts ds ρ'
  | _, _, _ => .no
def tTp (ts : List Tg) : Tg := fun d ρ => match d with
  | .tuple ds => asgAll ts ds ρ
  | .list ds => asgAll ts ds ρ
  | _ => .no
structure Agree (S : List Nat) (s s' : St) : Prop where
  len : s'.length = s.length
  at' : ∀ i, i ∉ S → s'[i]? = s[i]?
theorem Agree.refl (S : List Nat) (s : St) : Agree S s s := ⟨rfl, fun _ _ => rfl⟩
theorem Agree.trans {S : List Nat} {a b c : St} (h : Agree S a b) (k : Agree S b c) : Agree S a c := ⟨k.len.trans h.len, fun i n => (k.at' i n).trans (h.at' i n)⟩
theorem Agree.mono {S T : List Nat} {a b : St} (h : Agree S a b) (k : ∀ i ∈ S, i ∈ T) : Agree T a b := ⟨h.len, fun i n => h.at' i fun m => n (k i m)⟩
theorem wipe_get (s : St) : ∀ (vs : List Nat) (i : Nat), (wipe s vs)[i]? = if i ∈ vs ∧ i < s.length then some none else s[i]?
  | [], i => by simp [wipe]
  | v :: vs, i => by
    have ih := wipe_get s vs i
    have hl := wipe_length s vs
    unfold wipe
    by_cases e : v = i
    · subst e
      by_cases h : v < s.length
      · rw [List.getElem?_set_self (by omega), if_pos ⟨List.mem_cons_self, h⟩]
      · rw [if_neg (fun c => h c.2), List.getElem?_eq_none (by simp; omega), List.getElem?_eq_none (by omega)]
    · rw [List.getElem?_set_ne e, ih]
      by_cases c : i ∈ vs ∧ i < s.length
      · rw [if_pos c, if_pos ⟨List.mem_cons_of_mem _ c.1, c.2⟩]
      · rw [if_neg c, if_neg fun z => c ⟨(List.mem_cons.mp z.1).resolve_left (fun q => e q.symm), z.2⟩]
theorem wipe_agree {S : List Nat} {s s' : St} (h : Agree S s s') : wipe s' S = wipe s S := by
  apply List.ext_getElem?
  intro i
  rw [wipe_get, wipe_get, h.len]
  by_cases c : i ∈ S ∧ i < s.length
  · rw [if_pos c, if_pos c]
  · rw [if_neg c, if_neg c]
    by_cases m : i ∈ S
    · have : ¬ i < s.length := fun z => c ⟨m, z⟩
      rw [List.getElem?_eq_none (by rw [h.len]; omega), List.getElem?_eq_none (by omega)]
    · exact h.at' i m
theorem StA.setSh {K : PySem.W.Frag} {A0 A : List Addr} {ρ : Rho} {s : St} {H : Hp} {i : Nat} {v : V} {d : PyData} (hs : StA K A0 A ρ s H) (r : Rp (Hide A H) v d) : StA K A0 A (ρ.set i (.sh d)) (s.set i (some v)) H := by
  have other : ∀ (j : Nat) (c : Cell), (ρ.set i (.sh d))[j]? = some c → (j = i ∧ j < ρ.length ∧ c = .sh d) ∨ (j ≠ i ∧ ρ[j]? = some c) := by
    intro j c h
    by_cases e : i = j
    · subst e
      by_cases hl : i < ρ.length
      · rw [List.getElem?_set_self hl] at h
        cases h
        exact .inl ⟨rfl, hl, rfl⟩
      · rw [List.getElem?_eq_none (by simp; omega)] at h
        cases h
    · rw [List.getElem?_set_ne e] at h
      exact .inr ⟨fun q => e q.symm, h⟩
  refine ⟨by simp [hs.len], hs.dom, hs.sub, fun j e h => ?_, fun j e h => ?_, fun j a ns h => ?_, fun j k e f h1 h2 h3 => ?_⟩
  · rcases other j _ h with ⟨rfl, hl, ec⟩ | ⟨ne, h⟩
    · cases ec
      exact ⟨v, by rw [List.getElem?_set_self (by rw [← hs.len]; exact hl)], r⟩
    · obtain ⟨w, h1, h2⟩ := hs.sh j e h
      exact ⟨w, by rw [List.getElem?_set_ne (fun q => ne q.symm)]; exact h1, h2⟩
  · rcases other j _ h with ⟨_, _, ec⟩ | ⟨ne, h⟩
    · cases ec
    · obtain ⟨w, h1, h2⟩ := hs.ow j e h
      exact ⟨w, by rw [List.getElem?_set_ne (fun q => ne q.symm)]; exact h1, h2⟩
  · rcases other j _ h with ⟨_, _, ec⟩ | ⟨ne, h⟩
    · cases ec
    · rw [List.getElem?_set_ne (fun q => ne q.symm)]
      exact hs.fz j a ns h
  · rcases other j _ h1 with ⟨_, _, ec⟩ | ⟨ne, h1⟩
    · cases ec
    rcases other k _ h2 with ⟨_, _, ec⟩ | ⟨ne', h2⟩
    · cases ec
    rw [List.getElem?_set_ne (fun q => ne q.symm), List.getElem?_set_ne (fun q => ne' q.symm)] at h3
    exact hs.inj j k e f h1 h2 h3
def wipeR (ρ : Rho) : List Nat → Rho
  | [] => ρ
  | v :: vs => (wipeR ρ vs).set v .un
theorem StA.unset {K : PySem.W.Frag} {A0 A : List Addr} {ρ : Rho} {s : St} {H : Hp} {i : Nat} {x : Option V} (hs : StA K A0 A ρ s H) : StA K A0 A (ρ.set i .un) (s.set i x) H := by
  have other : ∀ (j : Nat) (c : Cell), (ρ.set i .un)[j]? = some c → c ≠ .un → (j ≠ i ∧ ρ[j]? = some c) := by
    intro j c h n
    by_cases e : i = j
    · subst e
      by_cases hl : i < ρ.length
      · rw [List.getElem?_set_self hl] at h
        cases h
        exact absurd rfl n
      · rw [List.getElem?_eq_none (by simp; omega)] at h
        cases h
    · rw [List.getElem?_set_ne e] at h
      exact ⟨fun q => e q.symm, h⟩
  refine ⟨by simp [hs.len], hs.dom, hs.sub, fun j e h => ?_, fun j e h => ?_, fun j a ns h => ?_, fun j k e f h1 h2 h3 => ?_⟩
  · obtain ⟨ne, h⟩ := other j _ h (fun q => nomatch q)
    obtain ⟨w, h1, h2⟩ := hs.sh j e h
    exact ⟨w, by rw [List.getElem?_set_ne (fun q => ne q.symm)]; exact h1, h2⟩
  · obtain ⟨ne, h⟩ := other j _ h (fun q => nomatch q)
    obtain ⟨w, h1, h2⟩ := hs.ow j e h
    exact ⟨w, by rw [List.getElem?_set_ne (fun q => ne q.symm)]; exact h1, h2⟩
  · obtain ⟨ne, h⟩ := other j _ h (fun q => nomatch q)
    rw [List.getElem?_set_ne (fun q => ne q.symm)]
    exact hs.fz j a ns h
  · obtain ⟨ne, h1⟩ := other j _ h1 (fun q => nomatch q)
    obtain ⟨ne', h2⟩ := other k _ h2 (fun q => nomatch q)
    rw [List.getElem?_set_ne (fun q => ne q.symm), List.getElem?_set_ne (fun q => ne' q.symm)] at h3
    exact hs.inj j k e f h1 h2 h3
theorem StA.wipe {K : PySem.W.Frag} {A0 A : List Addr} {ρ : Rho} {s : St} {H : Hp} (hs : StA K A0 A ρ s H) : ∀ vs : List Nat, StA K A0 A (wipeR ρ vs) (L2.wipe s vs) H
  | [] => hs
  | _ :: vs => (hs.wipe vs).unset

def tvG (K : PySem.W.Frag) (T : Tg) (S : List Nat) : TG := fun v sg H Z => ∃ A0 A ρ d ρ', StA K A0 A ρ sg H ∧ Rp (Hide A H) v d ∧ T d ρ = .ok ρ' ∧ ∀ sg', StA K A0 A ρ' sg' H → Agree S sg sg' → Z sg' H
def tvGs (K : PySem.W.Frag) (Ts : List Tg) (S : List Nat) : TGs := fun vs sg H Z => ∃ A0 A ρ ds ρ', StA K A0 A ρ sg H ∧ RpAll (Hide A H) vs ds ∧ asgAll Ts ds ρ = .ok ρ' ∧ ∀ sg', StA K A0 A ρ' sg' H → Agree S sg sg' → Z sg' H
theorem pgBy {X : Cx} {e : Expr} {t t' : TG} (h : PG X e t) (i : ∀ v sg H Z, t' v sg H Z → t v sg H Z) : PG X e t' := ⟨fun pn st sg H v u Z inv r q => h.run pn st sg H v u Z inv r (i v sg H Z q)⟩
theorem pgsBy {X : Cx} {e : List Expr} {t t' : TGs} (h : PGs X e t) (i : ∀ v sg H Z, t' v sg H Z → t v sg H Z) : PGs X e t' := ⟨fun pn st sg H v u Z inv r q => h.run pn st sg H v u Z inv r (i v sg H Z q)⟩
section
variable {X : Cx} {pos : Pos}
theorem soundG_nm {i : Nat} {x : Str} (nd : X.N.Nodup) (hi : X.N[i]? = some x) (hx : Loc X.env.scope x) (hf : X.fn x = true ∨ X.env.scope.names.lookup x = some .local) : PG X (.Name x pos) (tvG X.K (tNm i) [i]) := by
  refine pgBy (pg_name nd hi hx hf) ?_
  rintro v sg H Z ⟨A0, A, ρ, d, ρ', hs, r, e, q⟩
  cases e
  exact q _ (hs.setSh r) ⟨by simp, fun j n => List.getElem?_set_ne (fun z => n (by simp [z]))⟩
theorem soundG_nil : PGs X [] (tvGs X.K [] []) := by
  refine pgsBy pgs_nil ?_
  rintro v sg H Z ⟨A0, A, ρ, ds, ρ', hs, r, e, q⟩
  cases ds with
  | nil =>
    cases r
    cases e
    exact ⟨rfl, q _ hs (Agree.refl _ _)⟩
  | cons d ds => cases e
theorem soundG_cons {a : Expr} {es : List Expr} {T : Tg} {Ts : List Tg} {S S' : List Nat} (n : noStar a = true) (h : PG X a (tvG X.K T S)) (hr : PGs X es (tvGs X.K Ts S')) : PGs X (a :: es) (tvGs X.K (T :: Ts) (S ++ S')) := by
  refine pgsBy (pgs_cons h hr (by cases a <;> first | rfl | cases n)) ?_
  rintro v sg H Z ⟨A0, A, ρ, ds, ρ', hs, r, e, q⟩
  cases ds with
  | nil => cases e
  | cons d ds =>
    cases r with
    | cons r1 r2 =>
      rename_i w ws
      unfold asgAll at e
      cases e1 : T d ρ with
      | ok ρ1 =>
        rw [e1] at e
        refine ⟨w, ws, rfl, A0, A, ρ, d, ρ1, hs, r1, e1, fun sg1 hs1 ag1 => ⟨A0, A, ρ1, ds, ρ', hs1, r2, e, fun sg2 hs2 ag2 => q _ hs2 ?_⟩⟩
        exact (ag1.mono fun i m => List.mem_append_left _ m).trans (ag2.mono fun i m => List.mem_append_right _ m)
      | exc c x => rw [e1] at e; cases e
      | no => rw [e1] at e; cases e
theorem asgAll_len {Ts : List Tg} : ∀ {ds : List PyData} {ρ ρ' : Rho}, asgAll Ts ds ρ = .ok ρ' → ds.length = Ts.length := by
  induction Ts with
  | nil => intro ds ρ ρ' h; cases ds with | nil => rfl | cons d ds => cases h
  | cons T Ts ih =>
    intro ds ρ ρ' h
    cases ds with
    | nil => cases h
    | cons d ds =>
      unfold asgAll at h
      cases e1 : T d ρ with
      | ok ρ1 => rw [e1] at h; simp [ih h]
      | exc c x => rw [e1] at h; cases h
      | no => rw [e1] at h; cases h
theorem each_len {env : Env} : ∀ {es : List Expr}, es.all noStar = true → (assignEach es env).length = es.length ∧ (assignEach es env).findIdx? (·.1) = none
  | [], _ => ⟨rfl, rfl⟩
  | e :: es, h => by
    have h' := Bool.and_eq_true_iff.mp (show (noStar e && es.all noStar) = true from h)
    have ih := each_len (env := env) h'.2
    have e1 : assignEach (e :: es) env = (false, assign e env) :: assignEach es env := by cases e <;> first | rfl | exact absurd h'.1 (by simp [noStar])
    rw [e1]
    refine ⟨by simp [ih.1], ?_⟩
    rw [List.findIdx?_cons]
    simp [ih.2]
theorem soundG_tup {es : List Expr} {k : Nat} {Ts : List Tg} {S : List Nat} (hc : X.calm = true) (hn : es.all noStar = true) (hl : es.length = Ts.length) (h : PGs X es (tvGs X.K Ts S)) : PG X (.Tuple es k pos) (tvG X.K (tTp Ts) S) := by
  have el := each_len (env := X.env) hn
  have both : PG X (.Tuple es k pos) (fun v sg H Z => gTup X.K Ts.length (tvGs X.K Ts S) v sg H Z ∨ gUnl X.K Ts.length (tvGs X.K Ts S) v sg H Z) :=
    ⟨fun pn st sg H v u Z inv r q => q.elim ((pg_tup (n := Ts.length) hc h (el.1.trans hl) el.2).run pn st sg H v u Z inv r) ((pg_unl (n := Ts.length) hc h (el.1.trans hl) el.2).run pn st sg H v u Z inv r)⟩
  refine pgBy both ?_
  rintro v sg H Z ⟨A0, A, ρ, d, ρ', hs, r, e, q⟩
  unfold tTp at e
  split at e
  · rename_i ds
    obtain ⟨a, us, rfl, ha, hz, ra⟩ := (show Vw A H true v (.tuple ds) from .inl r).tuple
    exact .inl ⟨a, us, rfl, .inl (.inl ha), by rw [ra.len]; exact asgAll_len e, A0, A, ρ, ds, ρ', hs, ra, e, q⟩
  · rename_i ds
    obtain ⟨a, us, rfl, ha, hz, ra⟩ := (show Vw A H true v (.list ds) from .inl r).list
    exact .inr ⟨a, us, rfl, .inl (.inl ha), by rw [ra.len]; exact asgAll_len e, A0, A, ρ, ds, ρ', hs, ra, e, q⟩
  · cases e
end

/-! ### what is walked -/
/-- from the heap H1 on (as R allows) the iterator gives xs -/
def Walks (R : Hp → Hp → Prop) (A : List Addr) (H1 : Hp) (J : It) (xs : List PyData) : Prop :=
  ∀ H2, R H1 H2 → J.stop xs.length H2 ∧ ∀ (i : Nat) (d : PyData), xs[i]? = some d → J.go i H2 ∧ ∀ v H3, J.yld i H2 v H3 → Same H2 H3 ∧
    ∀ A', (∀ a ∈ A', a ∈ A ∨ H1 a = none) → Dom A' H2 → Rp (Hide A' H3) v d
def Kept (A : List Addr) (H H' : Hp) : Prop := Same (Hide A H) (Hide A H')
theorem Kept.of {A : List Addr} {H H' : Hp} (h : Same H H') : Kept A H H' := hide_same h
def relOf (kp : Bool) (A : List Addr) : Hp → Hp → Prop := if kp then Kept A else Same
theorem rel_kept {kp : Bool} {A : List Addr} {H H' : Hp} (h : relOf kp A H H') : Kept A H H' := by
  cases kp with
  | true => exact h
  | false => exact Kept.of h
theorem hide_grow {A A' : List Addr} {H1 H2 : Hp} (k : Kept A H1 H2) (h : ∀ a ∈ A', a ∈ A ∨ H1 a = none) : Same (Hide A H1) (Hide A' H2) := fun a o e => by
  by_cases m : a ∈ A
  · rw [hide_in m] at e; cases e
  · have e2 := k a o e
    rw [hide_out m] at e e2
    have m' : a ∉ A' := fun z => by
      rcases h a z with q | q
      · exact m q
      · rw [q] at e; cases e
    rw [hide_out m']; exact e2
def tvI (mg : Gm) (W : WX) (kp : Bool) (it : Its) : TI := fun sg H R => ∃ A0 A ρ, StA mg.K A0 A ρ sg H ∧
  Oc mg A H (fun c d H' => W c d sg H') (fun xs => ∀ J H1, Same H H1 → xs.length ≤ sizeLine → Walks (relOf kp A) A H1 J xs → R J H1) (it ρ)
theorem piBy {X : Cx} {tg e : Expr} {t t' : TI} (h : PI X tg e t) (i : ∀ sg H Z, t' sg H Z → t sg H Z) : PI X tg e t' := ⟨fun pn st sg H Z inv q => h.run pn st sg H Z inv (i sg H Z q)⟩
def iSeq (m : M) : Its := fun ρ => do
  let d ← m ρ
  match d with
  | .list ds => .ok ds
  | .tuple ds => .ok ds
  | _ => .no
def rangeD (i j : Int) : Rs (List PyData) :=
  if -(2 ^ 62) ≤ i ∧ i < 2 ^ 62 ∧ -(2 ^ 62) ≤ j ∧ j < 2 ^ 62 ∧ (j - i).toNat ≤ sizeLine then .ok ((List.range (j - i).toNat).map fun k => .int (i + (k : Nat))) else .no
def iR1 : List PyData → Rs (List PyData)
  | [.int j] => rangeD 0 j
  | _ => .no
def iR2 : List PyData → Rs (List PyData)
  | [.int i, .int j] => rangeD i j
  | _ => .no
def iEnumD : List PyData → Rs (List PyData)
  | [.list ds] => .ok (ds.zipIdx.map fun p => .tuple [.int (p.2 : Nat), p.1])
  | [.tuple ds] => .ok (ds.zipIdx.map fun p => .tuple [.int (p.2 : Nat), p.1])
  | _ => .no
def iZipD : List PyData → Rs (List PyData)
  | [.list ds, .list es] => .ok ((ds.zip es).map fun p => .tuple [p.1, p.2])
  | _ => .no
def iCall (f : List PyData → Rs (List PyData)) (ms : List M) : Its := fun ρ => do
  let ds ← mAll ms ρ
  f ds
section
variable {X : Cx} {W : WX} {tg e : Expr} {pos : Pos} {kp : Bool}
/-- a list or a tuple -/
theorem pi_seq {te : TE} (he : PE X e te) : PI X tg e (fun sg H R => te sg H fun v H1 => ∃ a, v = .ref a ∧ ((∃ vs, H1 a = some (.lst vs) ∧ R (Itl X.K a) H1) ∨ (∃ vs, H1 a = some (.tup vs) ∧ R (Itt X.K a) H1))) := by
  constructor
  intro pn st sg H R inv h
  refine thn (he.run pn st sg H _ inv h) ?_
  rintro u s1 ⟨v, H1, J1, rv, a, rfl, q⟩
  cases rv
  have nb : ∀ b ∈ [s1.heap.objs.size], FpOk X pn H1 b := by
    intro b hb
    rw [List.mem_singleton.mp hb]
    exact J1.fpOk (Nat.le_refl _) (J1.hok.fresh (Nat.le_refl _))
  rcases q with ⟨vs, hv, q⟩ | ⟨vs, hv, q⟩
  · obtain ⟨its, r2, pl, _⟩ := J1.list (SqL.of hv)
    exact wpAny_pyIter_list pl.isList ⟨_, _, _, _, H1, rfl, J1.kept (t' := s1.toks) (fun b o z => Heap.get?_push_of_some _ z), turn_list a _, ⟨_, Heap.get?_push_size _ rfl, rfl, rfl⟩, nb, q⟩
  · obtain ⟨its, r2, pl, _⟩ := J1.tuple (SqT.of hv)
    exact wpAny_pyIter_tuple (show s1.heap.IsTuple a its.toArray from pl) ⟨_, _, _, _, H1, rfl, J1.kept (t' := s1.toks) (fun b o z => Heap.get?_push_of_some _ z), turn_tuple a _, ⟨_, Heap.get?_push_size _ rfl, rfl, rfl⟩, nb, q⟩
theorem atL {K : PySem.W.Frag} {H : Hp} {a : Addr} {vs ws : List V} (h : H a = some (.lst vs)) (h' : SqL K H a ws) (nk : K.lookup a = none) : ws = vs := by
  rcases h' with (h' | ⟨o, h'⟩) | ⟨o, its, n, h', _⟩
  · rw [h] at h'; cases h'; rfl
  · rw [h] at h'; cases h'
  · rw [nk] at h'; cases h'
theorem walks_list {K : PySem.W.Frag} {A : List Addr} {H1 : Hp} {a : Addr} {vs : List V} {ds : List PyData} (hk : kp = true → a ∉ A) (hv : H1 a = some (.lst vs)) (r : RpAll (Hide A H1) vs ds) : Walks (relOf kp A) A H1 (Itl K a) ds := by
  intro H2 rel
  have k := rel_kept rel
  have hv2 : H2 a = some (.lst vs) := by
    cases kp with
    | false => exact rel a _ hv
    | true =>
      have z := k a _ (by rw [hide_out (hk rfl)]; exact hv)
      rw [hide_out (hk rfl)] at z
      exact z
  refine ⟨⟨vs, SqL.of hv2, by rw [r.len]; exact Nat.le_refl _⟩, fun i d hd => ?_⟩
  obtain ⟨v, h1, h2⟩ := r.get hd
  refine ⟨⟨vs, v, SqL.of hv2, h1⟩, fun w H3 ⟨e1, e2⟩ => ?_⟩
  subst e1
  have := e2 vs (SqL.of hv2)
  rw [h1] at this
  cases this
  exact ⟨Same.refl _, fun A' g _ => h2.mono (hide_grow k g)⟩
theorem walks_tup {K : PySem.W.Frag} {A : List Addr} {H1 : Hp} {a : Addr} {vs : List V} {ds : List PyData} (hk : a ∉ A) (hv : H1 a = some (.tup vs)) (r : RpAll (Hide A H1) vs ds) : Walks (relOf kp A) A H1 (Itt K a) ds := by
  intro H2 rel
  have k := rel_kept rel
  have hv2 : H2 a = some (.tup vs) := by
    have z := k a _ (by rw [hide_out hk]; exact hv)
    rw [hide_out hk] at z
    exact z
  refine ⟨⟨vs, SqT.of hv2, by rw [r.len]; exact Nat.le_refl _⟩, fun i d hd => ?_⟩
  obtain ⟨v, h1, h2⟩ := r.get hd
  refine ⟨⟨vs, v, SqT.of hv2, h1⟩, fun w H3 ⟨e1, e2⟩ => ?_⟩
  subst e1
  have := e2 vs (SqT.of hv2)
  rw [h1] at this
  cases this
  exact ⟨Same.refl _, fun A' g _ => h2.mono (hide_grow k g)⟩
theorem Vw.listK {A : List Addr} {H : Hp} {v : V} {ds : List PyData} (h : Vw A H kp v (.list ds)) : ∃ a vs, v = .ref a ∧ H a = some (.lst vs) ∧ vs.length ≤ sizeLine ∧ RpAll (Hide A H) vs ds ∧ (kp = true → a ∉ A) := by
  rcases h with h | ⟨e, a, _, rfl, h⟩
  · cases h with
    | @lst a vs _ h1 h2 h3 => exact ⟨a, vs, rfl, hide_le _ _ h1, h2, h3, fun _ m => by rw [hide_in m] at h1; cases h1⟩
  · obtain ⟨vs, h1, h2, h3⟩ := h
    exact ⟨a, vs, rfl, h1, h2, h3, fun z => by rw [e] at z; cases z⟩
theorem Vw.tupleK {A : List Addr} {H : Hp} {v : V} {ds : List PyData} (h : Vw A H kp v (.tuple ds)) : ∃ a vs, v = .ref a ∧ H a = some (.tup vs) ∧ vs.length ≤ sizeLine ∧ RpAll (Hide A H) vs ds ∧ a ∉ A := by
  have h' := h.tup_kept
  cases h' with
  | @tup a vs _ h1 h2 h3 => exact ⟨a, vs, rfl, hide_le _ _ h1, h2, h3, fun m => by rw [hide_in m] at h1; cases h1⟩
theorem soundI_seq {m : M} {fr : Bool} (he : PE X e (tvM (gm X) W m kp fr)) : PI X tg e (tvI (gm X) W kp (iSeq m)) := by
  refine piBy (pi_seq he) ?_
  rintro sg H R ⟨A0, A, ρ, hs, ho⟩
  refine ⟨A0, A, ρ, hs, ho.bind.mono fun d h1 v H1 s1 r1 => ?_⟩
  cases d with
  | list ds =>
    obtain ⟨a, vs, rfl, hv, hz, ra, nk⟩ := r1.1.listK
    exact ⟨a, rfl, .inl ⟨vs, hv, h1 _ H1 s1 (by rw [← ra.len]; exact hz) (walks_list nk hv ra)⟩⟩
  | tuple ds =>
    obtain ⟨a, vs, rfl, hv, hz, ra, nk⟩ := r1.1.tupleK
    exact ⟨a, rfl, .inr ⟨vs, hv, h1 _ H1 s1 (by rw [← ra.len]; exact hz) (walks_tup nk hv ra)⟩⟩
  | _ => exact h1.elim
theorem rangeD_ok {i j : Int} {xs : List PyData} (h : rangeD i j = .ok xs) : (-(2 ^ 62) ≤ i ∧ i < 2 ^ 62 ∧ -(2 ^ 62) ≤ j ∧ j < 2 ^ 62) ∧ xs = (List.range (j - i).toNat).map (fun k => .int (i + (k : Nat))) ∧ xs.length ≤ sizeLine := by
  unfold rangeD at h
  split at h
  · rename_i c
    cases h
    exact ⟨⟨c.1, c.2.1, c.2.2.1, c.2.2.2.1⟩, rfl, by simpa using c.2.2.2.2⟩
  · cases h
theorem walks_range {A : List Addr} {H1 : Hp} {i : Int} {n : Nat} : Walks (relOf kp A) A H1 (Itr i n) ((List.range n).map fun k => .int (i + (k : Nat))) := by
  intro H2 _
  refine ⟨by show n ≤ _; simp, fun k d hd => ?_⟩
  rw [List.getElem?_map] at hd
  cases e : (List.range n)[k]? with
  | none => rw [e] at hd; cases hd
  | some k' =>
    rw [e] at hd
    cases hd
    have hk := List.getElem?_eq_some_iff.mp e
    obtain ⟨hl, hv⟩ := hk
    rw [List.getElem_range] at hv
    subst hv
    refine ⟨show k < n by simpa using hl, fun w H3 ⟨e1, e2⟩ => ?_⟩
    subst e1 e2
    exact ⟨Same.refl _, fun A' _ _ => .int _⟩
theorem soundI_range1 {a : Expr} {ms : List M} {p : Pos} (n : noStar a = true) (gl : Gl X "range") (hm : X.mg "range" = none) (ha : PA X [a] (tvA (gm X) W ms false)) : PI X tg (.Call (.Name "range" p) [a] [] pos) (tvI (gm X) W kp (iCall iR1 ms)) := by
  refine piBy (pi_range1 gl hm ha (by rw [star_ne n]; rfl)) ?_
  rintro sg H R ⟨A0, A, ρ, hs, ho⟩
  refine ⟨A0, A, ρ, hs, ho.bind.mono fun ds h1 vs H1 s1 r1 => ?_⟩
  unfold iR1 at h1
  split at h1
  · rename_i j
    obtain ⟨v, rfl, hv⟩ := vw1 r1
    rw [hv.int]
    cases e : rangeD 0 j with
    | ok xs =>
      rw [e] at h1
      obtain ⟨c, ex, hl⟩ := rangeD_ok e
      refine ⟨j, rfl, c.2.2.1, c.2.2.2, h1 _ H1 s1 hl ?_⟩
      subst ex
      rw [Int.sub_zero]
      exact walks_range
    | exc c x => unfold rangeD at e; split at e <;> cases e
    | no => rw [e] at h1; exact h1.elim
  · exact h1.elim
theorem soundI_range2 {a b : Expr} {ms : List M} {p : Pos} (n : noStar a = true) (n2 : noStar b = true) (gl : Gl X "range") (hm : X.mg "range" = none) (ha : PA X [a, b] (tvA (gm X) W ms false)) : PI X tg (.Call (.Name "range" p) [a, b] [] pos) (tvI (gm X) W kp (iCall iR2 ms)) := by
  refine piBy (pi_range2 gl hm ha (by rw [star_ne n, star_ne n2]; rfl) (by rw [star_ne n2]; rfl)) ?_
  rintro sg H R ⟨A0, A, ρ, hs, ho⟩
  refine ⟨A0, A, ρ, hs, ho.bind.mono fun ds h1 vs H1 s1 r1 => ?_⟩
  unfold iR2 at h1
  split at h1
  · rename_i i j
    obtain ⟨v, w, rfl, hv, hw⟩ := vw2 r1
    rw [hv.int, hw.int]
    cases e : rangeD i j with
    | ok xs =>
      rw [e] at h1
      obtain ⟨c, ex, hl⟩ := rangeD_ok e
      refine ⟨i, j, rfl, c, h1 _ H1 s1 hl ?_⟩
      subst ex
      exact walks_range
    | exc c x => unfold rangeD at e; split at e <;> cases e
    | no => rw [e] at h1; exact h1.elim
  · exact h1.elim
/-- a new pair -/
theorem rp_pair {A' : List Addr} {H2 : Hp} {T : Addr} {v w : V} {d e : PyData} (dm : Dom A' H2) (nT : H2 T = none) (h1 : Rp (Hide A' H2) v d) (h2 : Rp (Hide A' H2) w e) : Rp (Hide A' (upd H2 T (.tup [v, w]))) (.ref T) (.tuple [d, e]) := by
  have r : RpAll (Hide A' H2) [v, w] [d, e] := .cons h1 (.cons h2 .nil)
  exact (Res.newT (keep := true) (fr := false) (H0 := H2) dm r (by show 2 ≤ sizeLine; decide) nT).1.kept
theorem soundI_enum {a : Expr} {ms : List M} {p tpos : Pos} {elts : List Expr} {kk : Nat} (n : noStar a = true) (gl : Gl X "enumerate") (hm : X.mg "enumerate" = none) (ha : PA X [a] (tvA (gm X) W ms kp)) :
    PI X (.Tuple elts kk tpos) (.Call (.Name "enumerate" p) [a] [] pos) (tvI (gm X) W kp (iCall iEnumD ms)) := by
  refine piBy (pi_enum2 gl hm ha (by rw [star_ne n]; rfl)) ?_
  rintro sg H R ⟨A0, A, ρ, hs, ho⟩
  refine ⟨A0, A, ρ, hs, ho.bind.mono fun ds h1 vs H1 s1 r1 => ?_⟩
  unfold iEnumD at h1
  split at h1
  · rename_i ds
    cases r1 with
    | cons r2 r3 =>
      cases r3
      obtain ⟨a, us, rfl, hv, hz, ra, nk⟩ := r2.listK
      refine .inl ⟨a, us, rfl, SqL.of hv, h1 _ H1 s1 (by simpa [← ra.len] using hz) ?_⟩
      intro H2 rel
      have k := rel_kept rel
      have hv2 : H2 a = some (.lst us) := by
        cases kp with
        | false => exact rel a _ hv
        | true =>
          have z := k a _ (by rw [hide_out (nk rfl)]; exact hv)
          rw [hide_out (nk rfl)] at z
          exact z
      refine ⟨⟨us, SqL.of hv2, by simp [ra.len]⟩, fun i d hd => ?_⟩
      rw [List.getElem?_map, List.getElem?_zipIdx] at hd
      cases e : ds[i]? with
      | none => rw [e] at hd; cases hd
      | some d' =>
        rw [e] at hd
        cases hd
        obtain ⟨v, g1, g2⟩ := ra.get e
        refine ⟨⟨us, v, SqL.of hv2, g1⟩, fun w H3 ⟨T, x, e1, e2, e3, e4⟩ => ?_⟩
        have q := e4 us (SqL.of hv2)
        rw [g1] at q
        cases q
        subst e1 e3
        refine ⟨same_new e2, fun A' g dm => rp_pair dm e2 ?_ (g2.mono (hide_grow k g))⟩
        have : ((0 + i : Nat) : Int) = (i : Nat) := by omega
        show Rp _ _ (.int ((0 + i : Nat) : Int))
        rw [this]
        exact .int _
  · rename_i ds
    cases r1 with
    | cons r2 r3 =>
      cases r3
      obtain ⟨a, us, rfl, hv, hz, ra, nk⟩ := r2.tupleK
      refine .inr ⟨a, us, rfl, (.inl (.inl hv)), h1 _ H1 s1 (by simpa [← ra.len] using hz) ?_⟩
      intro H2 rel
      have k := rel_kept rel
      have hv2 : H2 a = some (.tup us) := by
        cases kp with
        | false => exact rel a _ hv
        | true =>
          have z := k a _ (by rw [hide_out nk]; exact hv)
          rw [hide_out nk] at z
          exact z
      refine ⟨⟨us, (.inl (.inl hv2)), by simp [ra.len]⟩, fun i d hd => ?_⟩
      rw [List.getElem?_map, List.getElem?_zipIdx] at hd
      cases e : ds[i]? with
      | none => rw [e] at hd; cases hd
      | some d' =>
        rw [e] at hd
        cases hd
        obtain ⟨v, g1, g2⟩ := ra.get e
        refine ⟨⟨us, v, (.inl (.inl hv2)), g1⟩, fun w H3 ⟨T, x, e1, e2, e3, e4⟩ => ?_⟩
        have q := e4 us ((.inl (.inl hv2)))
        rw [g1] at q
        cases q
        subst e1 e3
        refine ⟨same_new e2, fun A' g dm => rp_pair dm e2 ?_ (g2.mono (hide_grow k g))⟩
        have : ((0 + i : Nat) : Int) = (i : Nat) := by omega
        show Rp _ _ (.int ((0 + i : Nat) : Int))
        rw [this]
        exact .int _
  · exact h1.elim
theorem walks_zip {K : PySem.W.Frag} {A : List Addr} {H1 : Hp} {a b : Addr} {us ws : List V} {ds es : List PyData} (hv : H1 a = some (.lst us)) (hw : H1 b = some (.lst ws)) (nk : kp = true → a ∉ A) (nkb : kp = true → b ∉ A)
    (ra : RpAll (Hide A H1) us ds) (rb : RpAll (Hide A H1) ws es) : Walks (relOf kp A) A H1 (Itz K a b) ((ds.zip es).map fun p => .tuple [p.1, p.2]) := by
  intro H2 rel
  have k := rel_kept rel
  have st : ∀ {c : Addr} {xs : List V}, (kp = true → c ∉ A) → H1 c = some (.lst xs) → H2 c = some (.lst xs) := by
    intro c xs nc hc
    cases kp with
    | false => exact rel c _ hc
    | true =>
      have z := k c _ (by rw [hide_out (nc rfl)]; exact hc)
      rw [hide_out (nc rfl)] at z
      exact z
  have hv2 := st nk hv
  have hw2 := st nkb hw
  refine ⟨⟨us, ws, SqL.of hv2, SqL.of hw2, ?_⟩, fun i d hd => ?_⟩
  · rw [List.length_map, List.length_zip, ← ra.len, ← rb.len]
    omega
  rw [List.getElem?_map] at hd
  cases e : (ds.zip es)[i]? with
  | none => rw [e] at hd; cases hd
  | some d' =>
    rw [e] at hd
    cases hd
    obtain ⟨e5, e6⟩ := List.getElem?_zip_eq_some.mp e
    obtain ⟨v, g1, g2⟩ := ra.get e5
    obtain ⟨w, g3, g4⟩ := rb.get e6
    refine ⟨⟨us, ws, v, w, SqL.of hv2, SqL.of hw2, g1, g3⟩, fun u H3 ⟨T, x, y, e1, e2, e3, e4, e7⟩ => ?_⟩
    have q := e4 us (SqL.of hv2)
    rw [g1] at q
    cases q
    have q := e7 ws (SqL.of hw2)
    rw [g3] at q
    cases q
    subst e1 e3
    exact ⟨same_new e2, fun A' g dm => rp_pair dm e2 (g2.mono (hide_grow k g)) (g4.mono (hide_grow k g))⟩
theorem soundI_zip {a b : Expr} {ms : List M} {p tpos : Pos} {elts : List Expr} {kk : Nat} (n : noStar a = true) (n2 : noStar b = true) (gl : Gl X "zip") (hm : X.mg "zip" = none) (ha : PA X [a, b] (tvA (gm X) W ms kp)) :
    PI X (.Tuple elts kk tpos) (.Call (.Name "zip" p) [a, b] [] pos) (tvI (gm X) W kp (iCall iZipD ms)) := by
  refine piBy (pi_zip gl hm ha (star_ne n) (star_plain (es := [b]) (by simp [n2]))) ?_
  rintro sg H R ⟨A0, A, ρ, hs, ho⟩
  refine ⟨A0, A, ρ, hs, ho.bind.mono fun ds h1 vs H1 s1 r1 => ?_⟩
  unfold iZipD at h1
  split at h1
  · rename_i ds es
    cases r1 with
    | cons r2 r3 =>
      cases r3 with
      | cons r3 r4 =>
        cases r4
        obtain ⟨a, us, rfl, hv, hz, ra, nk⟩ := r2.listK
        obtain ⟨b, ws, rfl, hw, hzw, rb, nkb⟩ := r3.listK
        refine ⟨a, b, us, ws, rfl, SqL.of hv, SqL.of hw, h1 _ H1 s1 ?_ (walks_zip hv hw nk nkb ra rb)⟩
        rw [List.length_map, List.length_zip, ← ra.len]
        exact Nat.le_trans (Nat.min_le_left _ _) hz
  · exact h1.elim
end

/-! ### comprehensions -/
def compL (tg : Tg) (t : Ts) (el : M) (ρ : Rho) : List PyData → Rs (List PyData)
  | [] => .ok []
  | x :: xs => do
    let ρ1 ← tg x ρ
    let b ← t ρ1
    if b then do
      let y ← (el ρ1).hush
      let ys ← compL tg t el ρ xs
      .ok (y :: ys)
    else compL tg t el ρ xs
def mComp (it : Its) (tg : Tg) (t : Ts) (el : M) (own : List Nat) : M := fun ρ => do
  let xs ← it ρ
  let ys ← (compL tg t el (wipeR ρ own) xs).hush
  .ok (.list ys)
/-- one thing more is owned -/
theorem StA.addOwn {K : PySem.W.Frag} {A0 A : List Addr} {ρ : Rho} {sg : St} {H1 H2 : Hp} {D : Addr} (hs : StA K A0 A ρ sg H1) (nD : H1 D = none) (s : Same H1 H2) (hD : ∃ o : OwO, H2 D = some o.1) : StA K A0 (D :: A) ρ sg H2 := by
  have kk : Same (Hide A H1) (Hide (D :: A) H2) := fun a o e => by
    by_cases m : a ∈ A
    · rw [hide_in m] at e; cases e
    · rw [hide_out m] at e
      have nd : a ≠ D := ne_of_none e nD
      rw [hide_out (by simp [nd, m])]
      exact s a o e
  refine ⟨hs.len, fun a m => ?_, fun a m => List.mem_cons_of_mem _ (hs.sub a m), fun i d e => ?_, fun i d e => ?_, fun i a ns e => ⟨(hs.fz i a ns e).1, (hs.fz i a ns e).2.mono fun b o u q => s _ _ q⟩, hs.inj⟩
  · rcases List.mem_cons.mp m with rfl | m
    · exact hD
    · obtain ⟨o, e⟩ := hs.dom a m
      exact ⟨o, s _ _ e⟩
  · obtain ⟨v, h1, h2⟩ := hs.sh i d e
    exact ⟨v, h1, h2.mono kk⟩
  · obtain ⟨a, h1, h2, h3, h4⟩ := hs.ow i d e
    obtain ⟨o, eo⟩ := hs.dom a h2
    exact ⟨a, h1, List.mem_cons_of_mem _ h2, h3, h4.mono kk ((s _ _ eo).trans eo.symm)⟩
theorem wipe_wipe (s : St) (vs : List Nat) : wipe (wipe s vs) vs = wipe s vs := by
  apply List.ext_getElem?
  intro i
  rw [wipe_get, wipe_get, wipe_length]
  by_cases c : i ∈ vs ∧ i < s.length
  · rw [if_pos c]
    simp [c]
  · rw [if_neg c]
theorem hush_ok {α : Type} {r : Rs α} {a : α} (h : r.hush = .ok a) : r = .ok a := by cases r <;> simp [Rs.hush] at h ⊢; exact h
/-- no wish -/
def noW : WX := fun _ _ _ _ => False
theorem comp_core {mg : Gm} {T : Tg} {t : Ts} {el : M} {S vs : List Nat} {kp fr : Bool} {sg : St} {Z : VK} {A0 A : List Addr} {ρ : Rho} {H1 : Hp} {J : It} {xs ys : List PyData} {D : Addr} (hS : ∀ i ∈ S, i ∈ vs) (hs1 : StA mg.K A0 A ρ sg H1)
    (hz : xs.length ≤ sizeLine) (wk : Walks (relOf false A) A H1 J xs) (ec' : compL T t el (wipeR ρ vs) xs = .ok ys) (fin : ∀ v H', Same H1 H' → Res A kp true H1 H' v (.list ys) → Z v H') (nD : H1 D = none) :
    ∃ W : Nat → Nat → Hp → Prop, (∃ m, W 0 m (upd H1 D (.lst []))) ∧ ∀ i m H, W i m H →
      (J.stop i H ∧ Z (.ref D) H) ∨ (J.go i H ∧ ∃ Nx : Hp → Prop, (∀ H', Nx H' → ∃ m', m' < m ∧ W (i + 1) m' H') ∧ ∀ x H', J.yld i H x H' → tvG mg.K T S x (wipe sg vs) H' fun σ2 H2 => wipe σ2 vs = wipe sg vs ∧ tvT mg noW t σ2 H2 fun b H3 =>
        if b = true then tvM mg noW el true fr σ2 H3 fun y H4 => ∃ acc, H4 D = some (.lst acc) ∧ acc.length < sizeLine ∧ Nx (upd H4 D (.lst (acc ++ [y]))) else Nx H3) := by
  have nA : D ∉ A := fun m => by obtain ⟨o, e⟩ := hs1.dom D m; rw [nD] at e; cases e
  refine ⟨fun i m H2 => m = xs.length - i ∧ i ≤ xs.length ∧ ∃ (acc : List V) (y1 y2 : List PyData), H2 D = some (.lst acc) ∧ RpAll (Hide (D :: A) H2) acc y1 ∧ compL T t el (wipeR ρ vs) (xs.drop i) = .ok y2 ∧ ys = y1 ++ y2 ∧ acc.length ≤ i ∧ Same H1 H2,
    ⟨xs.length, by simp, Nat.zero_le _, [], [], ys, upd_same, .nil, ec', rfl, Nat.le_refl _, same_new nD⟩, ?_⟩
  rintro i m H2 ⟨rfl, hi, acc, y1, y2, hD, ra, hc, ey, hl, s2⟩
  obtain ⟨w1, w2⟩ := wk H2 s2
  by_cases hlt : i < xs.length
  · have hx : xs[i]? = some xs[i] := List.getElem?_eq_getElem hlt
    have ed : xs.drop i = xs[i] :: xs.drop (i + 1) := List.drop_eq_getElem_cons hlt
    rw [ed] at hc
    unfold compL at hc
    obtain ⟨g1, g2⟩ := w2 i _ hx
    cases eT : T xs[i] (wipeR ρ vs) with
    | exc c d => rw [eT] at hc; cases hc
    | no => rw [eT] at hc; cases hc
    | ok ρ1 =>
    rw [eT] at hc
    have hc1 : (t ρ1 >>= fun b => if b = true then ((el ρ1).hush >>= fun y => compL T t el (wipeR ρ vs) (xs.drop (i + 1)) >>= fun ys => .ok (y :: ys)) else compL T t el (wipeR ρ vs) (xs.drop (i + 1))) = .ok y2 := hc
    cases eb : t ρ1 with
    | exc c d => rw [eb] at hc1; cases hc1
    | no => rw [eb] at hc1; cases hc1
    | ok b =>
    rw [eb] at hc1
    refine .inr ⟨g1, fun H3 => ∃ (acc : List V) (y1 y2 : List PyData), H3 D = some (.lst acc) ∧ RpAll (Hide (D :: A) H3) acc y1 ∧ compL T t el (wipeR ρ vs) (xs.drop (i + 1)) = .ok y2 ∧ ys = y1 ++ y2 ∧ acc.length ≤ i + 1 ∧ Same H1 H3,
      fun H3 q => ⟨xs.length - (i + 1), by omega, rfl, hlt, q⟩, fun x H3 yy => ?_⟩
    obtain ⟨s3, q3⟩ := g2 x H3 yy
    have stA : StA mg.K A0 (D :: A) (wipeR ρ vs) (wipe sg vs) H3 := (hs1.wipe vs).addOwn nD (s2.trans s3) ⟨⟨.lst acc, fun _ z => nomatch z⟩, s3 _ _ hD⟩
    have rx := q3 (D :: A) (fun a ma => by
      rcases List.mem_cons.mp ma with rfl | ma
      · exact .inr nD
      · exact .inl ma) (fun a ma => by
      rcases List.mem_cons.mp ma with rfl | ma
      · exact ⟨⟨.lst acc, fun _ z => nomatch z⟩, hD⟩
      · obtain ⟨o, e⟩ := hs1.dom a ma
        exact ⟨o, s2 _ _ e⟩)
    refine ⟨A0, D :: A, wipeR ρ vs, xs[i], ρ1, stA, rx, eT, fun sg2 st2 ag => ⟨?_, ?_⟩⟩
    · rw [wipe_agree (ag.mono hS), wipe_wipe]
    refine ⟨A0, D :: A, ρ1, st2, ?_⟩
    rw [eb]
    intro H4 s4
    cases b with
    | false =>
      have hc2 : compL T t el (wipeR ρ vs) (xs.drop (i + 1)) = .ok y2 := hc1
      exact ⟨acc, y1, y2, s4 _ _ (s3 _ _ hD), ra.mono (hide_same (s3.trans s4)), hc2, ey, by omega, s2.trans (s3.trans s4)⟩
    | true =>
      have hc2 : ((el ρ1).hush >>= fun y => compL T t el (wipeR ρ vs) (xs.drop (i + 1)) >>= fun ys => .ok (y :: ys)) = .ok y2 := hc1
      cases ee : (el ρ1).hush with
      | exc c d => rw [ee] at hc2; cases hc2
      | no => rw [ee] at hc2; cases hc2
      | ok y =>
      rw [ee] at hc2
      have ee' := hush_ok ee
      cases er : compL T t el (wipeR ρ vs) (xs.drop (i + 1)) with
      | exc c d => rw [er] at hc2; cases hc2
      | no => rw [er] at hc2; cases hc2
      | ok y3 =>
      rw [er] at hc2
      have e3 : y2 = y :: y3 := by cases hc2; rfl
      refine ⟨A0, D :: A, ρ1, st2.mono s4, ?_⟩
      rw [ee']
      intro v H5 s5 r5
      refine ⟨acc, s5 _ _ (s4 _ _ (s3 _ _ hD)), by omega, acc ++ [v], y1 ++ [y], y3, upd_same, ?_, rfl, by rw [ey, e3]; simp, by simp; omega, ?_⟩
      · rw [hide_upd List.mem_cons_self]
        exact (ra.mono (hide_same (s3.trans (s4.trans s5)))).app (.one r5.1.kept)
      · intro a o e
        have ne : a ≠ D := ne_of_none e nD
        rw [upd_ne ne]
        exact s5 _ _ (s4 _ _ (s3 _ _ (s2 _ _ e)))
  · have ei : i = xs.length := by omega
    subst ei
    refine .inl ⟨w1, fin _ _ s2 ?_⟩
    rw [List.drop_length] at hc
    have e2 : y2 = [] := by cases hc; rfl
    subst e2
    rw [List.append_nil] at ey
    subst ey
    refine ⟨.inl (.lst (by rw [hide_out nA]; exact hD) (Nat.le_trans hl hz) (ra.mono (hide_sub fun a m => List.mem_cons_of_mem _ m))), fun _ => ⟨D, rfl, nD, acc, hD, Nat.le_trans hl hz, ra⟩⟩
theorem comp_in {mg : Gm} {W : WX} {it : Its} {T : Tg} {t : Ts} {el : M} {S vs : List Nat} {kp fr : Bool} {sg : St} {H : Hp} {Z : VK} (hS : ∀ i ∈ S, i ∈ vs)
    (h : tvM mg W (mComp it T t el vs) kp true sg H Z) : tLc (tvI mg W false it) (tvG mg.K T S) (tvT mg noW t) (tvM mg noW el true fr) vs sg H Z := by
  obtain ⟨A0, A, ρ, hs, ho⟩ := h
  refine ⟨A0, A, ρ, hs, ho.bind.mono fun xs h1 J H1 s1 hz wk D nD => ?_⟩
  have h1' : Oc mg A H (fun c d H' => W c d sg H') (fun d => ∀ v H', Same H H' → Res A kp true H H' v d → Z v H') ((compL T t el (wipeR ρ vs) xs).hush >>= fun ys => .ok (.list ys)) := h1
  cases ec : (compL T t el (wipeR ρ vs) xs).hush with
  | exc c d => cases e2 : compL T t el (wipeR ρ vs) xs <;> rw [e2] at ec <;> cases ec
  | no => rw [ec] at h1'; exact h1'.elim
  | ok ys =>
  rw [ec] at h1'
  have fin : ∀ v H', Same H H' → Res A kp true H H' v (.list ys) → Z v H' := h1'
  exact comp_core hS (hs.mono s1) hz wk (hush_ok ec) (fun v H' s r => fin v H' (s1.trans s) ⟨r.1, fun q => freshUp s1 (r.2 q)⟩) nD
theorem sound_comp {X : Cx} {W : WX} {elt tg iter : Expr} {ifs : List Expr} {scope : Scope} {own : List (Str × Nat)} {pos : Pos} {it : Its} {T : Tg} {t : Ts} {el : M} {S : List Nat} {kp fr : Bool}
    (hc : X.calm = true) (nd : X.N.Nodup) (ok : BlkOk X.N X.env.scope scope own) (hS : ∀ i ∈ S, i ∈ own.map (·.2)) (hi : PI X tg iter (tvI (gm X) W false it))
    (hg : ∀ (s : Shared) (H : Hp) (C : Addr) (cl : List (Str × Addr)) (fp : List Addr), PG (X.blk s H scope (compEnvC scope cl C X.env) fp) tg (tvG X.K T S))
    (ht : ∀ (s : Shared) (H : Hp) (C : Addr) (cl : List (Str × Addr)) (fp : List Addr), PTs (X.blk s H scope (compEnvC scope cl C X.env) fp) ifs (tvT (gm X) noW t))
    (he : ∀ (s : Shared) (H : Hp) (C : Addr) (cl : List (Str × Addr)) (fp : List Addr), PE (X.blk s H scope (compEnvC scope cl C X.env) fp) elt (tvM (gm X) noW el true fr))
    (hf : ∀ x, foldedSetIterable iter X.env x = pure x) : PE X (.ListComp elt [⟨tg, iter, ifs, 0⟩] scope pos) (tvM (gm X) W (mComp it T t el (own.map (·.2))) kp true) :=
  peBy (pe_lc hc nd hi ok hg ht he hf) fun _ _ _ h => comp_in hS h
end Sm

/-! Statements: combinators and their soundness. -/
namespace Sm
open PySem PySem.Spec L2

inductive Out where
  | nx (ρ : Rho) | rt (d : PyData) | bk (ρ : Rho) | ct (ρ : Rho) | xc (ρ : Rho) (c : Str) (d : PyData) | no
abbrev Sx := Rho → Out
def lf {α : Type} (r : Rs α) (ρ : Rho) (k : α → Out) : Out := match r with
  | .ok a => k a
  | .exc c d => .xc ρ c d
  | .no => .no
def sSkip : Sx := fun ρ => .nx ρ
def sSeq (a b : Sx) : Sx := fun ρ => match a ρ with
  | .nx ρ' => b ρ'
  | o => o
def sIf (t : Ts) (a b : Sx) : Sx := fun ρ => lf (t ρ) ρ fun k => if k then a ρ else b ρ
def sExpr (m : M) : Sx := fun ρ => lf (m ρ) ρ fun _ => .nx ρ
def sSet (T : Tg) (m : M) : Sx := fun ρ => lf (m ρ) ρ fun d => match T d ρ with
  | .ok ρ' => .nx ρ'
  | _ => .no
def boxed : PyData → Bool
  | .list _ => true
  | .dict _ => true
  | _ => false
def ownC (d : PyData) : Cell := if boxed d then .ow d else .sh d
def sOwn (i : Nat) (m : M) : Sx := fun ρ => lf (m ρ) ρ fun d => .nx (ρ.set i (ownC d))
def sRet (m : M) : Sx := fun ρ => lf (m ρ) ρ fun d => .rt d
def sRetV (rf : Bool) (i : Nat) : Sx := fun ρ => match ρ[i]? with
  | some (.ow d) => .rt d
  | some (.sh d) => if rf && boxed d then .no else .rt d
  | _ => .no
def frz (i : Nat) (ρ : Rho) : Rho := match ρ[i]? with
  | some (.ow d) => ρ.set i (.sh d)
  | _ => ρ
def frzAll : List Nat → Rho → Rho
  | [], ρ => ρ
  | i :: is, ρ => frzAll is (frz i ρ)
def sFz (is : List Nat) (s : Sx) : Sx := fun ρ => s (frzAll is ρ)
def forL (T : Tg) (b : Sx) : List PyData → Rho → Out
  | [], ρ => .nx ρ
  | x :: xs, ρ => match T x ρ with
    | .ok ρ1 => (match b ρ1 with
      | .nx ρ' => forL T b xs ρ'
      | .ct ρ' => forL T b xs ρ'
      | .bk ρ' => .nx ρ'
      | o => o)
    | _ => .no
def sFor (it : Its) (T : Tg) (b : Sx) : Sx := fun ρ => lf (it ρ) ρ fun xs => forL T b xs ρ
def wh (t : Ts) (b : Sx) : Nat → Rho → Out
  | 0, _ => .no
  | n + 1, ρ => lf (t ρ) ρ fun k => if k then (match b ρ with
      | .nx ρ' => wh t b n ρ'
      | .ct ρ' => wh t b n ρ'
      | .bk ρ' => .nx ρ'
      | o => o) else .nx ρ
open Classical in
noncomputable def sWhile (t : Ts) (b : Sx) : Sx := fun ρ => if h : ∃ n, wh t b n ρ ≠ .no then wh t b h.choose ρ else .no
def owL (c : Option Cell) : Option (List PyData) := match c with
  | some (.ow (.list ds)) => some ds
  | _ => none
def sApp (i : Nat) (m : M) : Sx := fun ρ => match owL ρ[i]? with
  | some ds => lf (m ρ) ρ fun d => if ds.length < sizeLine then .nx (ρ.set i (.ow (.list (ds ++ [d])))) else .no
  | none => .no
def sExt (i : Nat) (m : M) : Sx := fun ρ => match owL ρ[i]? with
  | some ds => lf (m ρ) ρ fun d => match d with
    | .list es => if ds.length + es.length ≤ sizeLine then .nx (ρ.set i (.ow (.list (ds ++ es)))) else .no
    | _ => .no
  | none => .no
def sPut (i : Nat) (k m : M) : Sx := fun ρ => match owL ρ[i]? with
  | some ds => lf (m ρ) ρ fun d => lf (k ρ) ρ fun e => match e with
    | .int j => (match ixN ds.length j with
      | some p => .nx (ρ.set i (.ow (.list (ds.set p d))))
      | none => .no)
    | _ => .no
  | none => .no

theorem wh_up {t : Ts} {b : Sx} : ∀ {n : Nat} {ρ : Rho}, wh t b n ρ ≠ .no → wh t b (n + 1) ρ = wh t b n ρ
  | 0, _, h => absurd rfl h
  | n + 1, ρ, h => by
    unfold wh at h
    rw [wh, wh]
    cases e : t ρ with
    | exc c d => rfl
    | no => rfl
    | ok k =>
      rw [e] at h
      cases k with
      | false => rfl
      | true =>
        have h' : (match b ρ with | .nx ρ' => wh t b n ρ' | .ct ρ' => wh t b n ρ' | .bk ρ' => .nx ρ' | o => o) ≠ Out.no := h
        show (match b ρ with | .nx ρ' => wh t b (n + 1) ρ' | .ct ρ' => wh t b (n + 1) ρ' | .bk ρ' => Out.nx ρ' | o => o) = (match b ρ with | .nx ρ' => wh t b n ρ' | .ct ρ' => wh t b n ρ' | .bk ρ' => .nx ρ' | o => o)
        cases e2 : b ρ with
        | nx ρ' => rw [e2] at h'; exact wh_up h'
        | ct ρ' => rw [e2] at h'; exact wh_up h'
        | _ => rfl
theorem wh_le {t : Ts} {b : Sx} {n m : Nat} {ρ : Rho} (h : wh t b n ρ ≠ .no) (l : n ≤ m) : wh t b m ρ = wh t b n ρ := by
  induction m with
  | zero =>
    have : n = 0 := by omega
    subst this; rfl
  | succ m ih =>
    by_cases e : n = m + 1
    · subst e; rfl
    · have q := ih (by omega)
      rw [← q]
      exact wh_up (by rw [q]; exact h)
theorem sWhile_of {t : Ts} {b : Sx} {n : Nat} {ρ : Rho} (h : wh t b n ρ ≠ .no) : sWhile t b ρ = wh t b n ρ := by
  have hx : ∃ n, wh t b n ρ ≠ .no := ⟨n, h⟩
  unfold sWhile
  rw [dif_pos hx]
  have hc := hx.choose_spec
  rcases Nat.le_total n hx.choose with l | l
  · exact wh_le h l
  · exact (wh_le hc l).symm
theorem sWhile_ex {t : Ts} {b : Sx} {ρ : Rho} (h : sWhile t b ρ ≠ .no) : ∃ n, wh t b n ρ = sWhile t b ρ := by
  unfold sWhile at h ⊢
  split at h
  · rename_i hx
    rw [dif_pos hx]
    exact ⟨_, rfl⟩
  · exact absurd rfl h
/-- one turn -/
theorem sWhile_eq (t : Ts) (b : Sx) (ρ : Rho) : sWhile t b ρ = lf (t ρ) ρ fun k => if k then (match b ρ with
      | .nx ρ' => sWhile t b ρ'
      | .ct ρ' => sWhile t b ρ'
      | .bk ρ' => .nx ρ'
      | o => o) else .nx ρ := by
  have key : ∀ n, wh t b (n + 1) ρ ≠ .no → wh t b (n + 1) ρ = lf (t ρ) ρ fun k => if k then (match b ρ with
      | .nx ρ' => sWhile t b ρ'
      | .ct ρ' => sWhile t b ρ'
      | .bk ρ' => .nx ρ'
      | o => o) else .nx ρ := by
    intro n h
    unfold wh at h ⊢
    cases e : t ρ with
    | exc c d => rfl
    | no => rfl
    | ok k =>
      rw [e] at h
      cases k with
      | false => rfl
      | true =>
        have h' : (match b ρ with | .nx ρ' => wh t b n ρ' | .ct ρ' => wh t b n ρ' | .bk ρ' => .nx ρ' | o => o) ≠ Out.no := h
        show (match b ρ with | .nx ρ' => wh t b n ρ' | .ct ρ' => wh t b n ρ' | .bk ρ' => Out.nx ρ' | o => o) = (match b ρ with | .nx ρ' => sWhile t b ρ' | .ct ρ' => sWhile t b ρ' | .bk ρ' => .nx ρ' | o => o)
        cases e2 : b ρ with
        | nx ρ' => rw [e2] at h'; exact (sWhile_of h').symm
        | ct ρ' => rw [e2] at h'; exact (sWhile_of h').symm
        | _ => rfl
  by_cases h : sWhile t b ρ = .no
  · rw [h]
    refine Eq.symm ?_
    cases e : t ρ with
    | exc c d =>
      exfalso
      have : wh t b 1 ρ = .xc ρ c d := by unfold wh; rw [e]; rfl
      rw [sWhile_of (n := 1) (by rw [this]; exact fun z => nomatch z), this] at h
      cases h
    | no => rfl
    | ok k =>
      cases k with
      | false =>
        exfalso
        have : wh t b 1 ρ = .nx ρ := by unfold wh; rw [e]; rfl
        rw [sWhile_of (n := 1) (by rw [this]; exact fun z => nomatch z), this] at h
        cases h
      | true =>
        show (match b ρ with | .nx ρ' => sWhile t b ρ' | .ct ρ' => sWhile t b ρ' | .bk ρ' => Out.nx ρ' | o => o) = Out.no
        have one : ∀ n, wh t b (n + 1) ρ = (match b ρ with | .nx ρ' => wh t b n ρ' | .ct ρ' => wh t b n ρ' | .bk ρ' => Out.nx ρ' | o => o) := by
          intro n
          rw [wh, e]
          rfl
        have nono : ∀ n, wh t b (n + 1) ρ = .no := by
          intro n
          by_cases q : wh t b (n + 1) ρ = .no
          · exact q
          · rw [sWhile_of q] at h; exact absurd h q
        cases e2 : b ρ with
        | nx ρ' =>
          show sWhile t b ρ' = .no
          by_cases q : sWhile t b ρ' = .no
          · exact q
          · obtain ⟨n, hn⟩ := sWhile_ex q
            have z := nono n
            rw [one n, e2] at z
            exact absurd (hn.symm.trans z) q
        | ct ρ' =>
          show sWhile t b ρ' = .no
          by_cases q : sWhile t b ρ' = .no
          · exact q
          · obtain ⟨n, hn⟩ := sWhile_ex q
            have z := nono n
            rw [one n, e2] at z
            exact absurd (hn.symm.trans z) q
        | no => rfl
        | rt d => have z := nono 0; rw [one 0, e2] at z; cases z
        | bk d => have z := nono 0; rw [one 0, e2] at z; cases z
        | xc d c x => have z := nono 0; rw [one 0, e2] at z; cases z
  · obtain ⟨n, hn⟩ := sWhile_ex h
    have h' : wh t b n ρ ≠ .no := by rw [hn]; exact h
    have h2 := wh_up h'
    rw [← hn, ← h2]
    exact key n (by rw [h2]; exact h')

/-! ### states -/
structure Sto (K : PySem.W.Frag) (A0 : List Addr) (H0 : Hp) (A : List Addr) (ρ : Rho) (sg : St) (H : Hp) : Prop where
  st : StA K A0 A ρ sg H
  same : Same H0 H
  new : ∀ a ∈ A, a ∈ A0 ∨ H0 a = none
structure Trk (A : List Addr) (H : Hp) (A' : List Addr) (H' : Hp) : Prop where
  kept : Kept A H H'
  new : ∀ a ∈ A', a ∈ A ∨ H a = none
theorem Trk.refl (A : List Addr) (H : Hp) : Trk A H A H := ⟨Same.refl _, fun _ h => .inl h⟩
theorem Trk.trans {A B C : List Addr} {H H1 H2 : Hp} (p : Trk A H B H1) (q : Trk B H1 C H2) : Trk A H C H2 := by
  refine ⟨fun a o e => ?_, fun a m => ?_⟩
  · by_cases m : a ∈ A
    · rw [hide_in m] at e; cases e
    · have e1 := p.kept a o e
      rw [hide_out m] at e e1
      have nb : a ∉ B := fun z => by
        rcases p.new a z with y | y
        · exact m y
        · rw [y] at e; cases e
      have e2 := q.kept a o (by rw [hide_out nb]; exact e1)
      rw [hide_out nb] at e2
      rw [hide_out m]; exact e2
  · rcases q.new a m with z | z
    · exact p.new a z
    · by_cases y : a ∈ A
      · exact .inl y
      · refine .inr ?_
        cases e : H a with
        | none => rfl
        | some o =>
          have e1 := p.kept a o (by rw [hide_out y]; exact e)
          rw [hide_out y, z] at e1
          cases e1
theorem Trk.same {A : List Addr} {H H' : Hp} (s : Same H H') : Trk A H A H' := ⟨hide_same s, fun _ h => .inl h⟩
def Post (mg : Gm) (W : WX) (A0 : List Addr) (H0 : Hp) (rf : Bool) (A : List Addr) (H : Hp) (D : Ends) : Out → Prop
  | .nx ρ' => ∀ A' sg' H', Sto mg.K A0 H0 A' ρ' sg' H' → Trk A H A' H' → D.nx sg' H'
  | .rt d => ∀ v H', Same H0 H' → Res A0 true rf H0 H' v d → D.rt v H'
  | .bk ρ' => ∀ A' sg' H', Sto mg.K A0 H0 A' ρ' sg' H' → Trk A H A' H' → D.bk sg' H'
  | .ct ρ' => ∀ A' sg' H', Sto mg.K A0 H0 A' ρ' sg' H' → Trk A H A' H' → D.ct sg' H'
  | .xc ρ' c d => ∀ A' sg' H', Sto mg.K A0 H0 A' ρ' sg' H' → Trk A H A' H' → ∀ Ca dx v, mg.mg c = some (.ref Ca) → H' dx = some (.xd [(("at" : Str), v)]) → Rp (Hide A' H') v d → W (.ref Ca) (some dx) sg' H'
  | .no => False
def tvS (mg : Gm) (W : WX) (A0 : List Addr) (H0 : Hp) (rf : Bool) (s : Sx) : TS := fun D sg H => ∃ A ρ, Sto mg.K A0 H0 A ρ sg H ∧ Post mg W A0 H0 rf A H D (s ρ)
theorem psBy {X : Cx} {e : Stmt} {t t' : TS} (h : PS X e t) (i : ∀ D sg H, t' D sg H → t D sg H) : PS X e t' := ⟨fun pn st sg H D inv q => h.run pn st sg H D inv (i D sg H q)⟩
theorem pssBy {X : Cx} {e : List Stmt} {t t' : TS} (h : PSs X e t) (i : ∀ D sg H, t' D sg H → t D sg H) : PSs X e t' := ⟨fun pn st sg H D inv q => h.run pn st sg H D inv (i D sg H q)⟩
section
variable {mg : Gm} {W : WX} {A0 : List Addr} {H0 : Hp} {rf : Bool} {A : List Addr} {ρ : Rho} {sg : St} {H : Hp} {D : Ends}
theorem Sto.mono {K : PySem.W.Frag} {H' : Hp} (h : Sto K A0 H0 A ρ sg H) (s : Same H H') : Sto K A0 H0 A ρ sg H' := ⟨h.st.mono s, h.same.trans s, h.new⟩
theorem Post.on {A' : List Addr} {H' : Hp} {D : Ends} {o : Out} (t : Trk A H A' H') (p : Post mg W A0 H0 rf A H D o) : Post mg W A0 H0 rf A' H' D o := by
  cases o with
  | nx ρ' => exact fun B s2 H2 st tr => p B s2 H2 st (t.trans tr)
  | rt d => exact p
  | bk ρ' => exact fun B s2 H2 st tr => p B s2 H2 st (t.trans tr)
  | ct ρ' => exact fun B s2 H2 st tr => p B s2 H2 st (t.trans tr)
  | xc ρ' c d => exact fun B s2 H2 st tr => p B s2 H2 st (t.trans tr)
  | no => exact p
/-- an expression first -/
theorem lf_oc {α : Type} {r : Rs α} {k : α → Out} (hs : Sto mg.K A0 H0 A ρ sg H) (p : Post mg W A0 H0 rf A H D (lf r ρ k)) : Oc mg A H (fun c d H' => W c d sg H') (fun a => Post mg W A0 H0 rf A H D (k a)) r := by
  cases r with
  | ok a => exact p
  | exc c d => exact fun Ca dx v H' h1 h2 h3 h4 => p A sg H' (hs.mono h2) (Trk.same h2) Ca dx v h1 h3 h4
  | no => exact p
end

section
variable {X : Cx} {W : WX} {A0 : List Addr} {H0 : Hp} {rf : Bool} {pos : Pos} {e : Expr} {m : M}
theorem soundS_nil : PSs X [] (tvS (gm X) W A0 H0 rf sSkip) := by
  refine pssBy pss_nil ?_
  rintro D sg H ⟨A, ρ, hs, p⟩
  exact p A sg H hs (Trk.refl _ _)
theorem soundS_cons {st : Stmt} {rest : List Stmt} {a b : Sx} (h1 : PS X st (tvS (gm X) W A0 H0 rf a)) (h2 : PSs X rest (tvS (gm X) W A0 H0 rf b)) : PSs X (st :: rest) (tvS (gm X) W A0 H0 rf (sSeq a b)) := by
  refine pssBy (pss_cons h1 h2) ?_
  rintro D sg H ⟨A, ρ, hs, p⟩
  refine ⟨A, ρ, hs, ?_⟩
  unfold sSeq at p
  cases ea : a ρ with
  | nx ρ' =>
    rw [ea] at p
    exact fun A' sg' H' hs' tr => ⟨A', ρ', hs', p.on tr⟩
  | rt d => rw [ea] at p; exact p
  | bk ρ' => rw [ea] at p; exact p
  | ct ρ' => rw [ea] at p; exact p
  | xc ρ' c d => rw [ea] at p; exact p
  | no => rw [ea] at p; exact p
theorem soundS_if {c : Expr} {a b : List Stmt} {t : Ts} {sa sb : Sx} (ht : PT X c (tvT (gm X) W t)) (ha : PSs X a (tvS (gm X) W A0 H0 rf sa)) (hb : PSs X b (tvS (gm X) W A0 H0 rf sb)) : PS X (.If c a b pos) (tvS (gm X) W A0 H0 rf (sIf t sa sb)) := by
  refine psBy (ps_if ht ha hb) ?_
  rintro D sg H ⟨A, ρ, hs, p⟩
  refine ⟨A0, A, ρ, hs.st, (lf_oc hs p).mono fun k q H1 s1 => ?_⟩
  cases k with
  | true => exact ⟨A, ρ, hs.mono s1, Post.on (Trk.same s1) q⟩
  | false => exact ⟨A, ρ, hs.mono s1, Post.on (Trk.same s1) q⟩
theorem soundS_expr (hs : swapsWith e none pos.line X.env = pure false) {fr : Bool} (he : PE X e (tvM (gm X) W m false fr)) : PS X (.Expr e pos) (tvS (gm X) W A0 H0 rf (sExpr m)) := by
  refine psBy (ps_expr he hs) ?_
  rintro D sg H ⟨A, ρ, hs, p⟩
  exact ⟨A0, A, ρ, hs.st, (lf_oc hs p).mono fun k q v H1 s1 _ => q A sg H1 (hs.mono s1) (Trk.same s1)⟩
theorem soundS_set {tg : Expr} {T : Tg} {S : List Nat} {fr : Bool} (he : PE X e (tvM (gm X) W m true fr)) (hg : PG X tg (tvG X.K T S)) (hs : swapsWithSole [tg] e pos.line X.env = pure false) (hw : swappedStores [tg] e X.env = pure none) (n : noStar tg = true) :
    PS X (.Assign [tg] e pos) (tvS (gm X) W A0 H0 rf (sSet T m)) := by
  refine psBy (ps_asg he hg hs hw (by cases tg <;> first | rfl | cases n)) ?_
  rintro D sg H ⟨A, ρ, hs, p⟩
  refine ⟨A0, A, ρ, hs.st, (lf_oc hs p).mono fun d q v H1 s1 r1 => ?_⟩
  have hs1 := hs.mono s1
  cases eT : T d ρ with
  | ok ρ' =>
    rw [eT] at q
    exact ⟨A0, A, ρ, d, ρ', hs1.st, r1.1.kept, eT, fun sg' st' _ => q A sg' H1 ⟨st', hs1.same, hs1.new⟩ (Trk.same s1)⟩
  | exc c x => rw [eT] at q; exact q.elim
  | no => rw [eT] at q; exact q.elim
theorem retRes {K : PySem.W.Frag} {A A0 : List Addr} {H0 H H' : Hp} {v : V} {d : PyData} {fr : Bool} {ρ : Rho} {sg : St} (hs : Sto K A0 H0 A ρ sg H) (s : Same H H') (f : rf = true → fr = true) (r : Res A true fr H H' v d) : Res A0 true rf H0 H' v d := by
  refine ⟨.inl (r.1.kept.mono (hide_sub hs.st.sub)), fun z => ?_⟩
  have q := r.2 (f z)
  cases d with
  | list ds =>
    obtain ⟨a, h1, h2, h3⟩ := q
    exact ⟨a, h1, hs.same.free h2, OwnAt.mono (hide_sub fun b m => by
      rcases List.mem_cons.mp m with rfl | m
      · exact List.mem_cons_self
      · exact List.mem_cons_of_mem _ (hs.st.sub b m)) rfl h3⟩
  | dict ds =>
    obtain ⟨a, h1, h2, h3⟩ := q
    exact ⟨a, h1, hs.same.free h2, OwnAt.mono (hide_sub fun b m => by
      rcases List.mem_cons.mp m with rfl | m
      · exact List.mem_cons_self
      · exact List.mem_cons_of_mem _ (hs.st.sub b m)) rfl h3⟩
  | _ => exact True.intro
theorem soundS_ret {fr : Bool} (f : rf = true → fr = true) (he : PE X e (tvM (gm X) W m true fr)) : PS X (.Return (some e) pos) (tvS (gm X) W A0 H0 rf (sRet m)) := by
  refine psBy (ps_ret he) ?_
  rintro D sg H ⟨A, ρ, hs, p⟩
  exact ⟨A0, A, ρ, hs.st, (lf_oc hs p).mono fun d q v H1 s1 r1 => q v H1 (hs.same.trans s1) (retRes hs s1 f r1)⟩
theorem soundS_retN : PS X (.Return none pos) (tvS (gm X) W A0 H0 rf (sRet (mC .none))) := by
  refine psBy ps_retN ?_
  rintro D sg H ⟨A, ρ, hs, p⟩
  exact p .non H hs.same (Res.flat .non (fun _ z => nomatch z) (fun _ z => nomatch z))
theorem soundS_retV {x : Str} {i : Nat} {p1 : Pos} (hN : X.N[i]? = some x) (hv : Vis X.env.scope x) (h1 : (x == ("__debug__" : Str)) = false) (h2 : (x == ("__classdict__" : Str)) = false) : PS X (.Return (some (.Name x p1)) pos) (tvS (gm X) W A0 H0 rf (sRetV rf i)) := by
  refine psBy (ps_ret (pe_var hN hv h1 h2)) ?_
  rintro D sg H ⟨A, ρ, hs, p⟩
  unfold sRetV at p
  split at p
  · rename_i d ec
    obtain ⟨a, e1, m1, m2, ow⟩ := hs.st.ow i d ec
    refine ⟨.ref a, e1, p _ H hs.same ⟨.inl ?_, fun z => ?_⟩⟩
    · refine OwnAt.share (hide_sub hs.st.sub) (fun o eo => ?_) ow
      rw [hide_out m2]; exact eo
    · have h0 : H0 a = none := (hs.new a m1).resolve_left m2
      have ow' : OwnAt (a :: A0) H a d := ow.mono (hide_sub fun b m => by
        rcases List.mem_cons.mp m with rfl | m
        · exact m1
        · exact hs.st.sub b m) rfl
      cases d with
      | list ds => exact ⟨a, rfl, h0, ow'⟩
      | dict ds => exact ⟨a, rfl, h0, ow'⟩
      | _ => exact True.intro
  · rename_i d ec
    obtain ⟨v, e1, r⟩ := hs.st.sh i d ec
    split at p
    · exact p.elim
    · rename_i nb
      refine ⟨v, e1, p v H hs.same ⟨.inl (r.mono (hide_sub hs.st.sub)), fun z => ?_⟩⟩
      cases d with
      | list ds => exact absurd (by rw [z]; rfl) nb
      | dict ds => exact absurd (by rw [z]; rfl) nb
      | _ => exact True.intro
  · exact p.elim
theorem soundS_pass : PS X (.Pass pos) (tvS (gm X) W A0 H0 rf sSkip) := by
  refine psBy ps_pass ?_
  rintro D sg H ⟨A, ρ, hs, p⟩
  exact p A sg H hs (Trk.refl _ _)
theorem soundS_brk : PS X (.Break pos) (tvS (gm X) W A0 H0 rf fun ρ => .bk ρ) := by
  refine psBy ps_break ?_
  rintro D sg H ⟨A, ρ, hs, p⟩
  exact p A sg H hs (Trk.refl _ _)
theorem soundS_cont : PS X (.Continue pos) (tvS (gm X) W A0 H0 rf fun ρ => .ct ρ) := by
  refine psBy ps_continue ?_
  rintro D sg H ⟨A, ρ, hs, p⟩
  exact p A sg H hs (Trk.refl _ _)

/-! ### what is owned -/
theorem set_at {ρ : Rho} {i j : Nat} {c c' : Cell} (h : (ρ.set i c)[j]? = some c') : (j = i ∧ j < ρ.length ∧ c' = c) ∨ (j ≠ i ∧ ρ[j]? = some c') := by
  by_cases e : i = j
  · subst e
    by_cases hl : i < ρ.length
    · rw [List.getElem?_set_self hl] at h
      cases h
      exact .inl ⟨rfl, hl, rfl⟩
    · rw [List.getElem?_eq_none (by simp; omega)] at h
      cases h
  · rw [List.getElem?_set_ne e] at h
    exact .inr ⟨fun q => e q.symm, h⟩
/-- a new object goes to a slot that alone holds it -/
theorem StA.newOw {K : PySem.W.Frag} {A0 A : List Addr} {ρ : Rho} {s : St} {H H' : Hp} {i : Nat} {a : Addr} {d : PyData} (hs : StA K A0 A ρ s H) (sm : Same H H') (na : H a = none) (o : OwnAt (a :: A) H' a d) : StA K A0 (a :: A) (ρ.set i (.ow d)) (s.set i (some (.ref a))) H' := by
  have h1 := hs.addOwn na sm (OwnAt.there o)
  have nA : a ∉ A := fun m => by obtain ⟨u, e⟩ := hs.dom a m; rw [na] at e; cases e
  refine ⟨by simp [hs.len], h1.dom, h1.sub, fun j e h => ?_, fun j e h => ?_, fun j b ns h => ?_, fun j k e f g1 g2 g3 => ?_⟩
  · rcases set_at h with ⟨_, _, ec⟩ | ⟨ne, h⟩
    · cases ec
    · obtain ⟨w, q1, q2⟩ := h1.sh j e h
      exact ⟨w, by rw [List.getElem?_set_ne (fun q => ne q.symm)]; exact q1, q2⟩
  · rcases set_at h with ⟨rfl, hl, ec⟩ | ⟨ne, h⟩
    · cases ec
      exact ⟨a, by rw [List.getElem?_set_self (by rw [← hs.len]; exact hl)], List.mem_cons_self, fun m => nA (hs.sub a m), o⟩
    · obtain ⟨w, q1, q2⟩ := h1.ow j e h
      exact ⟨w, by rw [List.getElem?_set_ne (fun q => ne q.symm)]; exact q1, q2⟩
  · rcases set_at h with ⟨_, _, ec⟩ | ⟨ne, h⟩
    · cases ec
    · rw [List.getElem?_set_ne (fun q => ne q.symm)]
      exact h1.fz j b ns h
  · have far : ∀ (l : Nat) (g : PyData), ρ[l]? = some (.ow g) → s[l]? ≠ some (some (.ref a)) := fun l g q z => by
      obtain ⟨w, q1, q2, _⟩ := hs.ow l g q
      rw [q1] at z
      cases z
      exact nA q2
    rcases set_at g1 with ⟨e1, hl, _⟩ | ⟨ne, w1⟩
    · rcases set_at g2 with ⟨e2, _, _⟩ | ⟨ne', w2⟩
      · exact e1.trans e2.symm
      · subst e1
        rw [List.getElem?_set_self (by rw [← hs.len]; exact hl), List.getElem?_set_ne (fun q => ne' q.symm)] at g3
        exact absurd g3.symm (far k f w2)
    · rcases set_at g2 with ⟨e2, hl, _⟩ | ⟨ne', w2⟩
      · subst e2
        rw [List.getElem?_set_self (by rw [← hs.len]; exact hl), List.getElem?_set_ne (fun q => ne q.symm)] at g3
        exact absurd g3 (far j e w1)
      · rw [List.getElem?_set_ne (fun q => ne q.symm), List.getElem?_set_ne (fun q => ne' q.symm)] at g3
        exact hs.inj j k e f w1 w2 g3
/-- it changes in place -/
theorem StA.chOw {K : PySem.W.Frag} {A0 A : List Addr} {ρ : Rho} {s : St} {H : Hp} {i : Nat} {a : Addr} {d d' : PyData} {o : HO} (hs : StA K A0 A ρ s H) (hi : ρ[i]? = some (.ow d)) (ha : s[i]? = some (some (.ref a))) (m1 : a ∈ A) (m2 : a ∉ A0) (q : OwnAt A (upd H a o) a d') :
    StA K A0 A (ρ.set i (.ow d')) s (upd H a o) := by
  have e : Hide A (upd H a o) = Hide A H := hide_upd m1
  have owa : OwnAt A H a d := by
    obtain ⟨w, q1, _, _, q4⟩ := hs.ow i d hi
    rw [ha] at q1
    cases q1
    exact q4
  refine ⟨by simp [hs.len], fun b mb => ?_, hs.sub, fun j g h => ?_, fun j g h => ?_, fun j b ns h => ?_, fun j k g f g1 g2 g3 => ?_⟩
  · by_cases c : b = a
    · subst c
      obtain ⟨o', e'⟩ := OwnAt.there q
      exact ⟨o', e'⟩
    · obtain ⟨u, z⟩ := hs.dom b mb
      exact ⟨u, by rw [upd_ne c]; exact z⟩
  · rcases set_at h with ⟨_, _, ec⟩ | ⟨ne, h⟩
    · cases ec
    · obtain ⟨w, q1, q2⟩ := hs.sh j g h
      exact ⟨w, q1, by rw [e]; exact q2⟩
  · rcases set_at h with ⟨rfl, hl, ec⟩ | ⟨ne, h⟩
    · cases ec
      exact ⟨a, ha, m1, m2, q⟩
    · obtain ⟨w, q1, q2, q3, q4⟩ := hs.ow j g h
      have c : w ≠ a := fun z => ne (hs.inj j i g d h hi (by rw [q1, ha, z]))
      exact ⟨w, q1, q2, q3, q4.mono (by rw [e]; exact Same.refl _) (by rw [upd_ne c])⟩
  · rcases set_at h with ⟨_, _, ec⟩ | ⟨ne, h⟩
    · cases ec
    · exact ⟨(hs.fz j b ns h).1, (hs.fz j b ns h).2.mono (OwnAt.nofz owa)⟩
  · have old : ∀ (l : Nat) (g : PyData), (ρ.set i (.ow d'))[l]? = some (.ow g) → ∃ g', ρ[l]? = some (.ow g') := fun l g z => by
      rcases set_at z with ⟨rfl, _, _⟩ | ⟨_, z⟩
      · exact ⟨d, hi⟩
      · exact ⟨g, z⟩
    obtain ⟨x, hx⟩ := old j g g1
    obtain ⟨y, hy⟩ := old k f g2
    exact hs.inj j k x y hx hy g3
theorem Trk.put {A : List Addr} {H : Hp} {a : Addr} {o : HO} (m : a ∈ A) : Trk A H A (upd H a o) := ⟨by unfold Kept; rw [hide_upd m]; exact Same.refl _, fun _ h => .inl h⟩
theorem Sto.put {K : PySem.W.Frag} {A0 A : List Addr} {H0 H : Hp} {ρ ρ' : Rho} {sg sg' : St} {a : Addr} {o : HO} (hs : Sto K A0 H0 A ρ sg H) (m1 : a ∈ A) (m2 : a ∉ A0) (q : StA K A0 A ρ' sg' (upd H a o)) : Sto K A0 H0 A ρ' sg' (upd H a o) := by
  refine ⟨q, fun b u e => ?_, hs.new⟩
  have h0 : H0 a = none := (hs.new a m1).resolve_left m2
  rw [upd_ne (ne_of_none e h0)]
  exact hs.same b u e
/-- given up -/
theorem StA.give {K : PySem.W.Frag} {A0 A : List Addr} {ρ : Rho} {s : St} {H : Hp} {i : Nat} {d : PyData} (hs : StA K A0 A ρ s H) (hi : ρ[i]? = some (.ow d)) : ∃ A', StA K A0 A' (ρ.set i (.sh d)) s H ∧ ∀ b ∈ A', b ∈ A := by
  obtain ⟨a, ha, m1, m2, ow⟩ := hs.ow i d hi
  refine ⟨A.filter (fun b => decide (b ≠ a)), ?_, fun b m => (List.mem_filter.mp m).1⟩
  have sub : ∀ b ∈ A.filter (fun b => decide (b ≠ a)), b ∈ A := fun b m => (List.mem_filter.mp m).1
  have nA : a ∉ A.filter (fun b => decide (b ≠ a)) := fun m => by simpa using (List.mem_filter.mp m).2
  have le : Same (Hide A H) (Hide (A.filter (fun b => decide (b ≠ a))) H) := hide_sub sub
  refine ⟨by simp [hs.len], fun b m => hs.dom b (sub b m), fun b m => ?_, fun j e h => ?_, fun j e h => ?_, fun j b ns h => ?_, fun j k e f g1 g2 g3 => ?_⟩
  · exact List.mem_filter.mpr ⟨hs.sub b m, by simp; rintro rfl; exact m2 m⟩
  · rcases set_at h with ⟨rfl, hl, ec⟩ | ⟨ne, h⟩
    · cases ec
      exact ⟨.ref a, ha, OwnAt.share le (fun o eo => by rw [hide_out nA]; exact eo) ow⟩
    · obtain ⟨w, q1, q2⟩ := hs.sh j e h
      exact ⟨w, q1, q2.mono le⟩
  · rcases set_at h with ⟨_, _, ec⟩ | ⟨ne, h⟩
    · cases ec
    · obtain ⟨w, q1, q2, q3, q4⟩ := hs.ow j e h
      have c : w ≠ a := fun z => ne (hs.inj j i e d h hi (by rw [q1, ha, z]))
      exact ⟨w, q1, List.mem_filter.mpr ⟨q2, by simp [c]⟩, q3, q4.mono le rfl⟩
  · rcases set_at h with ⟨_, _, ec⟩ | ⟨ne, h⟩
    · cases ec
    · exact hs.fz j b ns h
  · rcases set_at g1 with ⟨_, _, ec⟩ | ⟨ne, g1⟩
    · cases ec
    rcases set_at g2 with ⟨_, _, ec⟩ | ⟨ne', g2⟩
    · cases ec
    exact hs.inj j k e f g1 g2 g3
theorem Sto.frz1 {K : PySem.W.Frag} {A0 A : List Addr} {H0 H : Hp} {ρ : Rho} {sg : St} (i : Nat) (hs : Sto K A0 H0 A ρ sg H) : ∃ A', Sto K A0 H0 A' (frz i ρ) sg H ∧ Trk A H A' H := by
  unfold frz
  split
  · rename_i d e
    obtain ⟨A', h1, h2⟩ := hs.st.give e
    exact ⟨A', ⟨h1, hs.same, fun a m => hs.new a (h2 a m)⟩, Same.refl _, fun a m => .inl (h2 a m)⟩
  · exact ⟨A, hs, Trk.refl _ _⟩
theorem Sto.frzAll {K : PySem.W.Frag} {A0 : List Addr} {H0 H : Hp} {sg : St} : ∀ (is : List Nat) {A : List Addr} {ρ : Rho}, Sto K A0 H0 A ρ sg H → ∃ A', Sto K A0 H0 A' (frzAll is ρ) sg H ∧ Trk A H A' H
  | [], A, ρ, hs => ⟨A, hs, Trk.refl _ _⟩
  | i :: is, A, ρ, hs => by
    obtain ⟨B, h1, t1⟩ := hs.frz1 i
    obtain ⟨C, h2, t2⟩ := Sto.frzAll is h1
    exact ⟨C, h2, t1.trans t2⟩
section
variable {mg : Gm} {W : WX} {A0 : List Addr} {H0 : Hp} {rf : Bool}
theorem fz_in {is : List Nat} {s : Sx} {D : Ends} {sg : St} {H : Hp} (h : tvS mg W A0 H0 rf (sFz is s) D sg H) : tvS mg W A0 H0 rf s D sg H := by
  obtain ⟨A, ρ, hs, p⟩ := h
  obtain ⟨B, h1, t1⟩ := Sto.frzAll is hs
  exact ⟨B, _, h1, Post.on t1 p⟩
end
/-- a test that is lent what is owned: what it gives is a Bool alone -/
def tLend (is : List Nat) (t : Ts) : Ts := fun ρ => match t (frzAll is ρ) with
  | .ok b => .ok b
  | _ => .no
theorem StA.frz1 {K : PySem.W.Frag} {A0 A : List Addr} {H : Hp} {ρ : Rho} {sg : St} (i : Nat) (hs : StA K A0 A ρ sg H) : ∃ A', StA K A0 A' (frz i ρ) sg H := by
  unfold frz
  split
  · rename_i d e
    obtain ⟨A', h1, _⟩ := hs.give e
    exact ⟨A', h1⟩
  · exact ⟨A, hs⟩
theorem StA.frzAll {K : PySem.W.Frag} {A0 : List Addr} {H : Hp} {sg : St} : ∀ (is : List Nat) {A : List Addr} {ρ : Rho}, StA K A0 A ρ sg H → ∃ A', StA K A0 A' (frzAll is ρ) sg H
  | [], A, ρ, hs => ⟨A, hs⟩
  | i :: is, A, ρ, hs => by
    obtain ⟨B, h1⟩ := hs.frz1 i
    exact StA.frzAll is h1
theorem lendT {X : Cx} {W : WX} {c : Expr} {t : Ts} {is : List Nat} (ht : PT X c (tvT (gm X) W t)) : PT X c (tvT (gm X) W (tLend is t)) := by
  refine ptBy ht ?_
  rintro sg H Z ⟨A0, A, ρ, hs, ho⟩
  obtain ⟨B, h1⟩ := StA.frzAll is hs
  refine ⟨A0, B, _, h1, ?_⟩
  unfold tLend at ho
  cases e : t (frzAll is ρ) with
  | ok b => rw [e] at ho; exact ho
  | exc c d => rw [e] at ho; exact ho.elim
  | no => rw [e] at ho; exact ho.elim
theorem own_post {mg : Gm} {W : WX} {A0 : List Addr} {H0 : Hp} {rf : Bool} {D : Ends} {A : List Addr} {ρ : Rho} {sg : St} {H H1 : Hp} {i : Nat} {d : PyData} {v : V} (hs : Sto mg.K A0 H0 A ρ sg H) (q : Post mg W A0 H0 rf A H D (.nx (ρ.set i (ownC d)))) (s1 : Same H H1) (r1 : Res A true true H H1 v d) :
    D.nx (sg.set i (some v)) H1 := by
  unfold ownC at q
  have plain : boxed d = false → D.nx (sg.set i (some v)) H1 := fun b => by
    rw [b] at q
    have hs1 := hs.mono s1
    exact q A _ H1 ⟨hs1.st.setSh r1.1.kept, hs1.same, hs1.new⟩ (Trk.same s1)
  have made : ∀ a, v = .ref a → H a = none → OwnAt (a :: A) H1 a d → boxed d = true → D.nx (sg.set i (some v)) H1 := fun a ev na ow b => by
    rw [b] at q
    subst ev
    refine q (a :: A) _ H1 ⟨hs.st.newOw s1 na ow, hs.same.trans s1, fun c m => ?_⟩ ⟨fun c o e => ?_, fun c m => ?_⟩
    · rcases List.mem_cons.mp m with rfl | m
      · exact .inr (hs.same.free na)
      · exact hs.new c m
    · exact (hide_same s1) c o e
    · rcases List.mem_cons.mp m with rfl | m
      · exact .inr na
      · exact .inl m
  cases d with
  | list ds => obtain ⟨a, h1, h2, h3⟩ := r1.2 rfl; exact made a h1 h2 h3 rfl
  | dict ds => obtain ⟨a, h1, h2, h3⟩ := r1.2 rfl; exact made a h1 h2 h3 rfl
  | _ => exact plain rfl
theorem soundS_own {x : Str} {i : Nat} {p1 : Pos} (nd : X.N.Nodup) (hi : X.N[i]? = some x) (hx : Loc X.env.scope x) (hf : X.fn x = true ∨ X.env.scope.names.lookup x = some .local) (he : PE X e (tvM (gm X) W m true true)) (hs : swapsWith e (some (.Name x p1)) pos.line X.env = pure false) :
    PS X (.Assign [.Name x p1] e pos) (tvS (gm X) W A0 H0 rf (sOwn i m)) := by
  refine psBy (ps_set nd hi hx he hs hf) ?_
  rintro D sg H ⟨A, ρ, hs, p⟩
  exact ⟨A0, A, ρ, hs.st, (lf_oc hs p).mono fun d q v H1 s1 r1 => own_post hs q s1 r1⟩

theorem owL_eq {c : Option Cell} {ds : List PyData} (h : owL c = some ds) : c = some (.ow (.list ds)) := by
  unfold owL at h
  split at h
  · cases h; rfl
  · cases h
theorem one_few {e : Expr} {env : Env} {ps : Pos} (n : noStar e = true) :
    ((backTo ps (starEach [e] env)).all (fun x => !x.1) && (backToKw ps (keywordEach [] env)).all (fun x => x.1.isSome) && decide ([e].length + ([] : List Keyword).length + (if ([] : List Keyword).isEmpty then 0 else 1) < 30)) = true := by
  rw [star_ne n]; rfl
/-- x.append(e) -/
theorem soundS_app {x : Str} {i : Nat} {p1 apos cpos : Pos} {fr : Bool} (hN : X.N[i]? = some x) (hv : Vis X.env.scope x) (h1 : (x == ("__debug__" : Str)) = false) (h2 : (x == ("__classdict__" : Str)) = false) (n : noStar e = true)
    (hl : (apos.endLine == cpos.line) = true) (he : PE X e (tvM (gm X) W m true fr)) : PS X (.Expr (.Call (.Attribute (.Name x p1) "append" apos) [e] [] cpos) pos) (tvS (gm X) W A0 H0 rf (sApp i m)) := by
  have call := pe_bm PySem.F.plainAttrs_list PySem.F.slot_list_append PySem.F.type_list_append mt_append (pe_var (pos := p1) hN hv h1 h2) (pa_cons he pa_nil (star_ne n)) (cpos := cpos) (apos := apos) rfl (one_few n) hl (star_ne n) rfl
  refine psBy (ps_expr call rfl) ?_
  rintro D sg H ⟨A, ρ, hs, p⟩
  unfold sApp at p
  cases eo : owL ρ[i]? with
  | none => rw [eo] at p; exact p.elim
  | some ds =>
    rw [eo] at p
    have ei := owL_eq eo
    obtain ⟨a, ea, m1, m2, us, hu, hz, ru⟩ := hs.st.ow i _ ei
    refine ⟨.ref a, ea, .inl ⟨rfl, us, .inl (.inl hu)⟩, A0, A, ρ, hs.st, (lf_oc hs p).mono fun d q v H2 s2 r2 => ?_⟩
    split at q
    · rename_i lt
      have hu2 : H2 a = some (.lst us) := s2 _ _ hu
      have lt' : us.length < sizeLine := by rw [ru.len]; exact lt
      refine ⟨a, us, v, rfl, rfl, hu2, lt', ?_⟩
      have hs2 := hs.mono s2
      have q1 : OwnAt A (upd H2 a (.lst (us ++ [v]))) a (.list (ds ++ [d])) := by
        refine ⟨us ++ [v], upd_same, by rw [List.length_append]; exact lt', ?_⟩
        rw [hide_upd m1]
        exact (ru.mono (hide_same s2)).app (.one r2.1.kept)
      exact q A sg _ (hs2.put m1 m2 (hs2.st.chOw ei ea m1 m2 q1)) ((Trk.same s2).trans (Trk.put m1))
    · exact q.elim
/-- x.extend(e) -/
theorem soundS_ext {x : Str} {i : Nat} {p1 apos cpos : Pos} {fr : Bool} (hN : X.N[i]? = some x) (hv : Vis X.env.scope x) (h1 : (x == ("__debug__" : Str)) = false) (h2 : (x == ("__classdict__" : Str)) = false) (n : noStar e = true)
    (hl : (apos.endLine == cpos.line) = true) (he : PE X e (tvM (gm X) W m true fr)) : PS X (.Expr (.Call (.Attribute (.Name x p1) "extend" apos) [e] [] cpos) pos) (tvS (gm X) W A0 H0 rf (sExt i m)) := by
  have call := pe_bm PySem.F.plainAttrs_list PySem.F.slot_list_extend PySem.F.type_list_extend mt_extend (pe_var (pos := p1) hN hv h1 h2) (pa_cons he pa_nil (star_ne n)) (cpos := cpos) (apos := apos) rfl (one_few n) hl (star_ne n) rfl
  refine psBy (ps_expr call rfl) ?_
  rintro D sg H ⟨A, ρ, hs, p⟩
  unfold sExt at p
  cases eo : owL ρ[i]? with
  | none => rw [eo] at p; exact p.elim
  | some ds =>
    rw [eo] at p
    have ei := owL_eq eo
    obtain ⟨a, ea, m1, m2, us, hu, hz, ru⟩ := hs.st.ow i _ ei
    refine ⟨.ref a, ea, .inl ⟨rfl, us, .inl (.inl hu)⟩, A0, A, ρ, hs.st, (lf_oc hs p).mono fun d q v H2 s2 r2 => ?_⟩
    cases d with
    | list es =>
      have q' : Post (gm X) W A0 H0 rf A H D (if ds.length + es.length ≤ sizeLine then .nx (ρ.set i (.ow (.list (ds ++ es)))) else .no) := q
      split at q'
      · rename_i le
        have hu2 : H2 a = some (.lst us) := s2 _ _ hu
        obtain ⟨b, ws, rfl, hb, zb, rb⟩ := r2.1.list
        have le' : us.length + ws.length ≤ sizeLine := by rw [ru.len, rb.len]; exact le
        refine ⟨a, b, us, ws, rfl, rfl, hu2, hb, le', ?_⟩
        have hs2 := hs.mono s2
        have q1 : OwnAt A (upd H2 a (.lst (us ++ ws))) a (.list (ds ++ es)) := by
          refine ⟨us ++ ws, upd_same, by rw [List.length_append]; exact le', ?_⟩
          rw [hide_upd m1]
          exact (ru.mono (hide_same s2)).app rb
        exact q' A sg _ (hs2.put m1 m2 (hs2.st.chOw ei ea m1 m2 q1)) ((Trk.same s2).trans (Trk.put m1))
      · exact q'.elim
    | _ => exact q.elim
/-- x[k] = e -/
theorem soundS_put {x : Str} {i : Nat} {k : Expr} {mk : M} {p1 p2 : Pos} {fr : Bool} (hN : X.N[i]? = some x) (hv : Vis X.env.scope x) (h1 : (x == ("__debug__" : Str)) = false) (h2 : (x == ("__classdict__" : Str)) = false)
    (ha : ∀ v, assign (.Subscript (.Name x p1) k p2) X.env v = (do
      let ov ← holding [v] (eval (.Name x p1) X.env); let iv ← holding [v, ov] (eval k X.env)
      standAt p2; holding [v, ov, iv] (setItem ov iv v); release [v, ov, iv] []))
    (hs : swapsWithSole [.Subscript (.Name x p1) k p2] e pos.line X.env = pure false)
    (he : PE X e (tvM (gm X) W m true fr)) (hk : PE X k (tvM (gm X) W mk false false)) : PS X (.Assign [.Subscript (.Name x p1) k p2] e pos) (tvS (gm X) W A0 H0 rf (sPut i mk m)) := by
  refine psBy (ps_asg he (pg_sub (pe_var hN hv h1 h2) hk set_list ha) hs rfl rfl) ?_
  rintro D sg H ⟨A, ρ, hs, p⟩
  unfold sPut at p
  cases eo : owL ρ[i]? with
  | none => rw [eo] at p; exact p.elim
  | some ds =>
    rw [eo] at p
    have ei := owL_eq eo
    obtain ⟨a, ea, m1, m2, us, hu, hz, ru⟩ := hs.st.ow i _ ei
    refine ⟨A0, A, ρ, hs.st, (lf_oc hs p).mono fun d q v H2 s2 r2 => ?_⟩
    refine ⟨.ref a, ea, A0, A, ρ, hs.st.mono s2, (lf_oc (hs.mono s2) (Post.on (Trk.same s2) q)).mono fun e q3 w H3 s3 r3 => ?_⟩
    cases e with
    | int j =>
      have q' : Post (gm X) W A0 H0 rf A H2 D (match ixN ds.length j with | some p => .nx (ρ.set i (.ow (.list (ds.set p d)))) | none => .no) := q3
      cases ej : ixN ds.length j with
      | none => rw [ej] at q'; exact q'.elim
      | some pl =>
        rw [ej] at q'
        have hu3 : H3 a = some (.lst us) := s3 _ _ (s2 _ _ hu)
        refine ⟨a, us, j, pl, rfl, r3.1.int, hu3, by rw [ru.len]; exact ej, ?_⟩
        have hs3 := (hs.mono s2).mono s3
        have q1 : OwnAt A (upd H3 a (.lst (us.set pl v))) a (.list (ds.set pl d)) := by
          refine ⟨us.set pl v, upd_same, by rw [List.length_set]; exact hz, ?_⟩
          rw [hide_upd m1]
          exact (ru.mono (hide_same (s2.trans s3))).set pl (r2.1.kept.mono (hide_same s3))
        exact q' A sg _ (hs3.put m1 m2 (hs3.st.chOw ei ea m1 m2 q1)) ((Trk.same s3).trans (Trk.put m1))
    | _ => exact q3.elim

/-! ### loops -/
theorem soundS_for {tg iter : Expr} {body : List Stmt} {it : Its} {T : Tg} {S : List Nat} {b : Sx} (hp : PassesOwn (model X.prog X.w) X.A X.env X.xe) (hc : X.calm = true) (hi : PI X tg iter (tvI (gm X) W true it)) (hg : PG X tg (tvG X.K T S)) (hb : PSs X body (tvS (gm X) W A0 H0 rf b))
    (hf : ∀ x, foldedSetIterable iter X.env x = pure x) : PS X (.For tg iter body [] pos) (tvS (gm X) W A0 H0 rf (sFor it T b)) := by
  refine psBy (ps_for hp hc hi hg hb hf) ?_
  rintro D sg H ⟨A, ρ, hs, p⟩
  refine ⟨A0, A, ρ, hs.st, (lf_oc hs p).mono fun xs q J H1 s1 hz wk => ?_⟩
  have q1 : Post (gm X) W A0 H0 rf A H1 D (forL T b xs ρ) := Post.on (Trk.same s1) q
  refine ⟨fun i m sg2 H2 => m = xs.length - i ∧ i ≤ xs.length ∧ ∃ A2 ρ2, Sto X.K A0 H0 A2 ρ2 sg2 H2 ∧ Trk A H1 A2 H2 ∧ Post (gm X) W A0 H0 rf A2 H2 D (forL T b (xs.drop i) ρ2),
    ⟨xs.length, by simp, Nat.zero_le _, A, ρ, hs.mono s1, Trk.refl _ _, q1⟩, ?_⟩
  rintro i m sg2 H2 ⟨rfl, hi, A2, ρ2, hs2, tr, q2⟩
  obtain ⟨w1, w2⟩ := wk H2 tr.kept
  by_cases hlt : i < xs.length
  · have hx : xs[i]? = some xs[i] := List.getElem?_eq_getElem hlt
    have ed : xs.drop i = xs[i] :: xs.drop (i + 1) := List.drop_eq_getElem_cons hlt
    rw [ed] at q2
    unfold forL at q2
    obtain ⟨g1, g2⟩ := w2 i _ hx
    cases eT : T xs[i] ρ2 with
    | exc c d => rw [eT] at q2; exact q2.elim
    | no => rw [eT] at q2; exact q2.elim
    | ok ρ3 =>
    rw [eT] at q2
    refine .inr ⟨g1, fun sg4 H4 => ∃ A4 ρ4, Sto X.K A0 H0 A4 ρ4 sg4 H4 ∧ Trk A H1 A4 H4 ∧ Post (gm X) W A0 H0 rf A4 H4 D (forL T b (xs.drop (i + 1)) ρ4), fun sg4 H4 z => ⟨xs.length - (i + 1), by omega, rfl, hlt, z⟩, fun v H3 yy => ?_⟩
    obtain ⟨s3, q3⟩ := g2 v H3 yy
    have rx := q3 A2 (fun a ma => tr.new a ma) hs2.st.dom
    have hs3 := hs2.mono s3
    refine ⟨A0, A2, ρ2, xs[i], ρ3, hs3.st, rx, eT, fun sg5 st5 _ => ?_⟩
    refine ⟨A2, ρ3, ⟨st5, hs3.same, hs3.new⟩, ?_⟩
    have q4 : Post (gm X) W A0 H0 rf A2 H3 D (match b ρ3 with | .nx ρ' => forL T b (xs.drop (i + 1)) ρ' | .ct ρ' => forL T b (xs.drop (i + 1)) ρ' | .bk ρ' => .nx ρ' | o => o) := Post.on (Trk.same s3) q2
    cases eb : b ρ3 with
    | nx ρ' =>
      rw [eb] at q4
      exact fun A6 sg6 H6 hs6 t6 => ⟨A6, ρ', hs6, tr.trans ((Trk.same s3).trans t6), Post.on t6 q4⟩
    | ct ρ' =>
      rw [eb] at q4
      exact fun A6 sg6 H6 hs6 t6 => ⟨A6, ρ', hs6, tr.trans ((Trk.same s3).trans t6), Post.on t6 q4⟩
    | bk ρ' => rw [eb] at q4; exact q4
    | rt d => rw [eb] at q4; exact q4
    | xc ρ' c d => rw [eb] at q4; exact q4
    | no => rw [eb] at q4; exact q4
  · have ei : i = xs.length := by omega
    subst ei
    rw [List.drop_length] at q2
    exact .inl ⟨w1, q2 A2 sg2 H2 hs2 (Trk.refl _ _)⟩
theorem soundS_while {c : Expr} {body : List Stmt} {t : Ts} {b : Sx} (hp : PassesOwn (model X.prog X.w) X.A X.env X.xe) (ht : PT X c (tvT (gm X) W t)) (hb : PSs X body (tvS (gm X) W A0 H0 rf b)) : PS X (.While c body [] pos) (tvS (gm X) W A0 H0 rf (sWhile t b)) := by
  refine psBy (ps_while hp ht hb) ?_
  rintro D sg H ⟨A, ρ, hs, p⟩
  have nn : sWhile t b ρ ≠ .no := fun z => by rw [z] at p; exact p
  obtain ⟨n, hn⟩ := sWhile_ex nn
  rw [← hn] at p
  refine ⟨fun m sg2 H2 => ∃ A2 ρ2, Sto X.K A0 H0 A2 ρ2 sg2 H2 ∧ Post (gm X) W A0 H0 rf A2 H2 D (wh t b m ρ2), ⟨n, A, ρ, hs, p⟩, ?_⟩
  rintro m sg2 H2 ⟨A2, ρ2, hs2, q⟩
  cases m with
  | zero => exact q.elim
  | succ m =>
    unfold wh at q
    refine ⟨A0, A2, ρ2, hs2.st, (lf_oc hs2 q).mono fun k q2 H3 s3 => ?_⟩
    have hs3 := hs2.mono s3
    have q3 := Post.on (Trk.same s3) q2
    cases k with
    | false => exact q3 A2 sg2 H3 hs3 (Trk.refl _ _)
    | true =>
      have q4 : Post (gm X) W A0 H0 rf A2 H3 D (match b ρ2 with | .nx ρ' => wh t b m ρ' | .ct ρ' => wh t b m ρ' | .bk ρ' => .nx ρ' | o => o) := q3
      refine ⟨fun sg4 H4 => ∃ A4 ρ4, Sto X.K A0 H0 A4 ρ4 sg4 H4 ∧ Post (gm X) W A0 H0 rf A4 H4 D (wh t b m ρ4), fun sg4 H4 z => ⟨m, Nat.lt_succ_self m, z⟩, A2, ρ2, hs3, ?_⟩
      cases eb : b ρ2 with
      | nx ρ' => rw [eb] at q4; exact fun A6 sg6 H6 hs6 t6 => ⟨A6, ρ', hs6, Post.on t6 q4⟩
      | ct ρ' => rw [eb] at q4; exact fun A6 sg6 H6 hs6 t6 => ⟨A6, ρ', hs6, Post.on t6 q4⟩
      | bk ρ' => rw [eb] at q4; exact q4
      | rt d => rw [eb] at q4; exact q4
      | xc ρ' c d => rw [eb] at q4; exact q4
      | no => rw [eb] at q4; exact q4
/-! ### name = [..] on one line -/
theorem soundS_lc {elt tg iter : Expr} {ifs : List Expr} {scope : Scope} {own : List (Str × Nat)} {it : Its} {T : Tg} {t : Ts} {el : M} {S : List Nat} {fr : Bool} {i : Nat} {y : Str} {py p2 : Pos}
    (hc : X.calm = true) (nd : X.N.Nodup) (hy : X.N[i]? = some y) (hyl : X.env.scope.names.lookup y = some .local) (hsw : swapsWith (.ListComp elt [⟨tg, iter, ifs, 0⟩] scope p2) (some (.Name y py)) pos.line X.env = pure true)
    (ok : BlkOk X.N X.env.scope scope own) (hS : ∀ i ∈ S, i ∈ own.map (·.2)) (hi : PI X tg iter (tvI (gm X) W false it))
    (hg : ∀ (s : Shared) (H : Hp) (C : Addr) (cl : List (Str × Addr)) (fp : List Addr), PG (X.blk s H scope (compEnvC scope cl C X.env) fp) tg (tvG X.K T S))
    (ht : ∀ (s : Shared) (H : Hp) (C : Addr) (cl : List (Str × Addr)) (fp : List Addr), PTs (X.blk s H scope (compEnvC scope cl C X.env) fp) ifs (tvT (gm X) noW t))
    (he : ∀ (s : Shared) (H : Hp) (C : Addr) (cl : List (Str × Addr)) (fp : List Addr), PE (X.blk s H scope (compEnvC scope cl C X.env) fp) elt (tvM (gm X) noW el true fr))
    (hf : ∀ x, foldedSetIterable iter X.env x = pure x) : PS X (.Assign [.Name y py] (.ListComp elt [⟨tg, iter, ifs, 0⟩] scope p2) pos) (tvS (gm X) W A0 H0 rf (sOwn i (mComp it T t el (own.map (·.2))))) := by
  refine psBy (ps_setLc hc nd hy hyl hsw hi ok hg ht he hf) ?_
  rintro D sg H ⟨A, ρ, hs, p⟩
  refine comp_in (W := W) (kp := true) hS ?_
  exact ⟨A0, A, ρ, hs.st, (lf_oc hs p).mono fun d q v H1 s1 r1 => own_post hs q s1 r1⟩
end
end Sm

/-! raise of an own class; try whose clauses bind the exception and return. -/
namespace Sm
open PySem PySem.Spec PyProof.Rows L2

/-! ### the rule: clauses 'except X as n', every one ends with a return -/
abbrev ClT := Addr → Value → Option Addr → TS
def wAsm (K : PySem.W.Frag) (i : Nat) (Wout : WX) (D : Ends) : List (Value × ClT) → WX
  | [] => Wout
  | (c, ts) :: r => fun cls d sg H => ∃ b, PySem.W.exmOne K cls c = some b ∧
      (b = true → ∀ a, H a = none → ts a cls d { nx := fun _ _ => False, rt := D.rt } (sg.set i (some (.ref a))) H) ∧ (b = false → wAsm K i Wout D r cls d sg H)
inductive ClsOk (X : Cx) (n : Str) : List ExceptHandler → List (Value × ClT) → Prop
  | nil : ClsOk X n [] []
  | cons {x : Str} {c : Value} {ts : ClT} {st : Stmt} {more : List Stmt} {np hp : Pos} {hs : List ExceptHandler} {l : List (Value × ClT)} (hc : Names X x c)
      (run : ∀ (a : Addr) (oe : Obj) (cls : Value) (d : Option Addr) (pn : List (Addr × Obj)), Zc cls d oe → (∃ vs, oe.data = .fields vs) → PSs (X.suite a ((a, oe) :: pn)) (st :: more) (ts a cls d)) (rest : ClsOk X n hs l) :
      ClsOk X n (.ExceptHandler (some (.Name x np)) (some n) (st :: more) hp :: hs) ((c, ts) :: l)
section
variable {X : Cx} {n : Str} {i : Nat} {body : List Stmt} {h0 : ExceptHandler} {hs : List ExceptHandler} {l : List (Value × ClT)} {pos : Pos} {tb : WX → TS} {Wout : WX}
/-- what is known where the exception at a has landed -/
structure Landed (X : Cx) (pn : List (Addr × Obj)) (sg : L2.St) (H : Hp) (cls : Value) (d : Option Addr) (a : Addr) (B : Heap) (sI : Shared) (st : Shared) : Prop where
  inv : Inv X pn sg H sI
  nb : ∀ b o, sI.heap.get? b = some o → b ∉ frs X.stack → B.get? b = some o
  up : sI.heap.UpToSlots st.heap
  fl : HandSPX.FlyingZ B (X.env :: X.outer) a (Zc cls d) st.heap
  na : H a = none
  os : st.os = sI.os
  bare : AllBare st.gens
theorem Landed.here {pn : List (Addr × Obj)} {sg : L2.St} {H : Hp} {cls : Value} {d : Option Addr} {a : Addr} {B : Heap} {sI st : Shared} (L : Landed X pn sg H cls d a B sI st) (hf : X.env.frame = some X.env.locals) :
    Inv X pn sg H st ∧ ∃ oe vs, st.heap.get? a = some oe ∧ Zc cls d oe ∧ oe.data = .fields vs ∧ Inv (X.suite a ((a, oe) :: (X.pn ++ pn))) [] sg H st := by
  have J := L.inv.landed L.nb L.fl.1 L.up L.os L.bare
  obtain ⟨oe, vs, q1, q2, q3⟩ := L.fl.there
  have out : a ∉ frs (X.env :: X.outer) := by
    intro m
    obtain ⟨_, o, q4, q5⟩ := L.fl.2.2.1.mem m
    rw [q1] at q4
    cases q4
    exact q5 _ q3
  have nL : a ≠ X.env.locals := by
    rintro rfl
    exact out (List.mem_filterMap.mpr ⟨X.env, List.mem_cons_self, hf⟩)
  have nF : a ∉ X.fs := by
    intro m
    obtain ⟨e, m1, m2⟩ := List.mem_filterMap.mp m
    exact out (List.mem_filterMap.mpr ⟨e, List.mem_cons_of_mem _ m1, m2⟩)
  exact ⟨J, oe, vs, q1, q2, q3, J.suite q1 q3 L.na nL nF⟩
/-- one clause after the other -/
theorem clauses_run (hst : X.stack = X.env :: X.outer) (hf : X.env.frame = some X.env.locals) (nd : X.N.Nodup) (hi : X.N[i]? = some n) (hl : X.env.kindOf n = some .local) (tk : Takes X Wout)
    {pn : List (Addr × Obj)} {sg : L2.St} {H : Hp} {cls : Value} {d : Option Addr} {a : Addr} {B : Heap} {sI st : Shared} {D : Ends} (L : Landed X pn sg H cls d a B sI st) :
    ∀ {hs : List ExceptHandler} {l : List (Value × ClT)}, ClsOk X n hs l → wAsm X.K i Wout D l cls d sg H → wpAny (model X.prog X.w) X.A (handleBy (.ref a) X.env hs) (SP X pn D) X.xe st := by
  intro hs l ok
  induction ok with
  | nil =>
    intro q
    refine wpAny_handleBy_nil ?_
    obtain ⟨_, _, _, oe, vs, T, _, _, q1, _, q3, q4, _⟩ := id L.fl
    unfold PySem.passOn
    refine wpAny_bind (wpAny_field q1 q3 q4 ?_)
    rw [if_neg (by simp)]
    have away : wpAny (model X.prog X.w) X.A (setFlight (.ref a) X.env.frame) (fun _ s4 => wpAny (model X.prog X.w) X.A (throw (.ref a) : Sem Flow) (SP X pn D) X.xe s4) X.xe st := by
      rw [hf]
      refine HandSPX.setFlight_upZ L.fl fun h4 held up4 => wpAny_throw (tk _ _ ?_)
      exact ⟨a, B, sI, pn, sg, H, cls, d, rfl, L.inv, L.nb, L.up.trans up4, .inr (.inr (by rw [hst]; exact held)), L.na, L.os, L.bare, q⟩
    first
      | exact wpAny_bind (wpAny_pure (wpAny_bind away))
      | exact wpAny_bind away
  | @cons x c ts s0 more np hp hs2 l2 hc run rest ih =>
    rintro ⟨b, q1, yes, no⟩
    obtain ⟨J, oe, vs, g1, g2, g3, S⟩ := L.here hf
    refine wpAny_handleBy_cons (codeAny_handlers_test ?_) (by intro z; cases z)
    have ty : PySem.W.Looks (model X.prog X.w) st.heap (typeOf (.ref a)) cls := fun A Q E s k q => wpAny_typeOf_ref (k _ _ g1) (by rw [g2.1]; exact q)
    have isIt := PySem.W.exm_one (M := model X.prog X.w) J.kIn ty q1
    have named : ∀ {Q : Value → Shared → Prop} {E : Value → Shared → Prop}, Q c st → wpAny (model X.prog X.w) (X.A.mark (some (.ref a))) (eval (.Name x np) X.env) Q E st := by
      intro Q E q
      rcases hc with ⟨c1, c2, c3 | ⟨c3, c4, c5⟩⟩
      · exact ld_glob (X := X.suite a ((a, oe) :: (X.pn ++ pn))) S c1 c3 q c2
      · exact ld_blt (X := X.suite a ((a, oe) :: (X.pn ++ pn))) S c1 c3 c4 q c5 c2
    refine named (isIt.here ?_)
    match b with
    | false => exact ih (no rfl)
    | true =>
      refine codeAny_handlers_suite_as ?_
      refine HandSPX.lands_againZ L.fl fun h4 fl4 up4 => ?_
      have L4 : Landed X pn sg H cls d a B sI { st with heap := h4 } := ⟨L.inv, L.nb, L.up.trans up4, fl4, L.na, L.os, L.bare⟩
      obtain ⟨_, oe4, vs4, _, e2, e3, S4⟩ := L4.here hf
      refine store_ok (X := X.suite a ((a, oe4) :: (X.pn ++ pn))) (v := .ref a) S4 nd hi (.inl hl) rfl (fun s5 S5 => ?_) (.inr hl)
      refine wpAny_mono ((run a oe4 cls d (X.pn ++ pn) e2 ⟨_, e3⟩).run [] s5 _ H _ S5 (yes rfl a L.na)) ?_ (fun _ _ z => z.elim)
      rintro (_ | u | _ | _) s6 q
      · obtain ⟨_, _, _, q⟩ := q
        exact q.elim
      · obtain ⟨_, _, _, q⟩ := q
        exact q.elim
      · obtain ⟨_, _, _, q⟩ := q
        exact q.elim
      · obtain ⟨v6, sg6, H6, S6, r6, q⟩ := q
        exact gone_ok (S6.unsuite L.inv.ok) nd hi hl fun s7 J7 => ⟨_, _, _, J7, r6, q⟩
theorem ps_tryAs (hst : X.stack = X.env :: X.outer) (hf : X.env.frame = some X.env.locals) (nd : X.N.Nodup) (hi : X.N[i]? = some n) (hl : X.env.kindOf n = some .local) (tk : Takes X Wout)
    (hb : ∀ (W : WX) (pn : List (Addr × Obj)) (xe : Value → Shared → Prop), Takes (X.tr pn xe) W → PassesOwn (model X.prog X.w) X.A X.env xe → PSs (X.tr pn xe) body (tb W)) (ok : ClsOk X n (h0 :: hs) l) :
    PS X (.Try body (h0 :: hs) [] [] pos) (fun D sg H => tb (wAsm X.K i Wout D l) D sg H) := by
  constructor
  intro pn st sg H D inv q
  have hfr : X.A.frames = some (X.env :: X.outer) := by rw [inv.ok.frames, hst]
  refine wpAny_Try_except ?_
  have tak : Takes (X.tr (X.pn ++ pn) fun e s1 => wpAny (model X.prog X.w) X.A (noteFrame e X.env) (fun _ s2 => wpAny (model X.prog X.w) X.A (setFlight e none)
      (fun _ s3 => wpAny (model X.prog X.w) X.A (handleBy e X.env (h0 :: hs)) (SP X pn D) X.xe s3) X.xe s2) X.xe s1) (wAsm X.K i Wout D l) := by
    rintro u s1 ⟨a, B, sI, pn1, sg1, H1, cls, d, rfl, J, nb, up, sky, na, os, ag, w⟩
    have sky1 : Sky B (X.env :: X.outer) a (Zc cls d) X.env.locals s1.heap := by rw [← hst]; exact sky
    show wpAny (model X.prog X.w) X.A (noteFrame (.ref a) X.env) _ _ _
    exact Sky.land Zc.steady hfr hf sky1 fun h3 fl up3 => clauses_run hst hf nd hi hl tk (st := { s1 with heap := h3 }) ⟨J.ofTry inv.ok, nb, up.trans up3, fl, na, os, ag⟩ ok w
  refine wpAny_mono ((hb _ (X.pn ++ pn) _ tak PassesOwn.looking).run [] st sg H D (inv.toTry _) q) ?_ (fun _ _ z => z)
  rintro (_ | u | _ | _) s1 z
  · obtain ⟨sg1, H1, J, z⟩ := z
    exact wpAny_execs_nil ⟨sg1, H1, J.ofTry inv.ok, z⟩
  · obtain ⟨sg1, H1, J, z⟩ := z
    exact ⟨sg1, H1, J.ofTry inv.ok, z⟩
  · obtain ⟨sg1, H1, J, z⟩ := z
    exact ⟨sg1, H1, J.ofTry inv.ok, z⟩
  · obtain ⟨v, sg1, H1, J, r, z⟩ := z
    exact ⟨v, sg1, H1, J.ofTry inv.ok, r, z⟩
end

/-! ### raise -/
def sRs (x : Str) (m : M) : Sx := fun ρ => lf (m ρ) ρ fun d => .xc ρ x d
section
variable {X : Cx} {C : Cc} {W : WX} {A0 : List Addr} {H0 : Hp} {rf : Bool} {pos : Pos}
theorem soundS_raise {x : Str} {e : Expr} {m : M} {p q : Pos} (g : Good X C W) (hx : x ∈ C.exs) (gl : Gl X x) (od : (x == ("__debug__" : Str)) = false) (ha : PA X [e] (tvA (gm X) W [m] true))
    (he : starEach [e] X.env = (false, eval e X.env) :: starEach [] X.env) : PS X (.Raise (some (.Call (.Name x p) [e] [] q)) none pos) (tvS (gm X) W A0 H0 rf (sRs x m)) := by
  rcases g.exs with z | ⟨hl, D, fI, fd, mD, rD, F, hb, tI, all⟩
  · rw [z] at hx; cases hx
  obtain ⟨nx, Ca, mC, kc⟩ := all x hx
  have S := kc.sub rD nx
  refine psBy (ps_raise g.calm g.tk (pmk_oex (CX := L2.CX X.prog X.w) (k := 0) (ds := []) (dvs := []) S.oex kc.ini tI (F _) (g.room.mono hl) hb .nil (passes_call (E := fun _ _ _ => False) g.tk (fun _ _ _ _ z => z.elim)) gl mC ha od he rfl)) ?_
  rintro Dn sg H ⟨A, ρ, hs, pq⟩
  refine ⟨A0, A, ρ, hs.st, ?_⟩
  have o := lf_oc hs pq
  show Oc _ _ _ _ _ (mAll [m] ρ)
  unfold mAll
  cases e : m ρ with
  | no => rw [e] at o; exact o.elim
  | exc c d => rw [e] at o; exact o
  | ok d =>
    rw [e] at o
    intro vs H1 s1 pr
    obtain ⟨y, rfl, hy⟩ : ∃ y, vs = [y] ∧ Vw A H1 true y d := by
      cases pr with
      | cons r1 r2 => cases r2; exact ⟨_, rfl, r1⟩
    refine ⟨by simp, fun a na => ⟨a, Ca, y, rfl, upd_same, S, fun dx ndx dne => ?_⟩⟩
    have nd1 : H1 dx = none := by rwa [upd_ne dne] at ndx
    refine ⟨rfl, dx, [("at", y)], upd_same, by rw [upd_ne dne, upd_same], nd1, ?_⟩
    have sm : Same H1 (upd (del (upd (upd (upd H1 a (exo a Ca none)) dx (exd dx [("at", y)])) a (exo a Ca (some dx))) a) dx (.xd [("at", y)])) := by
      intro b o eb
      have b1 : b ≠ dx := ne_of_none eb nd1
      have b2 : b ≠ a := ne_of_none eb na
      rw [upd_ne b1, del_ne b2, upd_ne b2, upd_ne b1, upd_ne b2]
      exact eb
    have s2 := s1.trans sm
    exact o A sg _ (hs.mono s2) (Trk.same s2) Ca dx y mC upd_same ((hy.kept).mono (hide_same sm))
end
/-! ### try -/
abbrev Cl := Str × Option Str
def gotX (w : Option Str) (d : PyData) : PyData := match w with
  | none => d
  | some s => .tuple [.str s, d]
def catchD (c : Str) (d : PyData) : List Cl → Option PyData
  | [] => none
  | (y, w) :: r => if takesX c y then some (gotX w d) else catchD c d r
def sTry (sb : Sx) (xs : List Str) (hs : List Cl) : Sx := fun ρ => match sb ρ with
  | .xc ρ' c d => if c ∈ xs ∧ boxed d = false then (match catchD c d hs with
    | some z => .rt z
    | none => .xc ρ' c d) else .no
  | .nx ρ' => .nx ρ'
  | .rt d => .rt d
  | .bk ρ' => .bk ρ'
  | .ct ρ' => .ct ρ'
  | .no => .no
/-- what the suite of a clause wishes -/
def tSu (K : PySem.W.Frag) (i : Nat) (w : Option Str) : ClT := fun a cls dd D sg H => ∃ (Ca dx : Addr) (v : V), cls = .ref Ca ∧ XfC K Ca ∧ PySem.W.findIn K (.ref Ca) "at" = some none ∧ dd = some dx ∧ H dx = some (.xd [(("at" : Str), v)]) ∧
  (∃ sg0 : L2.St, sg = sg0.set i (some (.ref a))) ∧ (w = none → D.rt v H) ∧ (∀ s, w = some s → ∀ p, H p = none → D.rt (.ref p) (upd H p (.tup [.str s, v])))
inductive HdOk (X : Cx) (n : Str) (xs : List Str) : List ExceptHandler → List Cl → Prop
  | nil : HdOk X n xs [] []
  | one {y : Str} {np hp p1 p2 p3 : Pos} {hs : List ExceptHandler} {l : List Cl} (h : y = "CountError" ∨ y ∈ xs) (gl : Gl X y) (od : (y == ("__debug__" : Str)) = false) (r : HdOk X n xs hs l) :
      HdOk X n xs (.ExceptHandler (some (.Name y np)) (some n) [.Return (some (.Attribute (.Name n p1) "at" p2)) p3] hp :: hs) ((y, none) :: l)
  | two {y s : Str} {np hp p1 p2 p3 p4 p5 : Pos} {k j : Nat} {hs : List ExceptHandler} {l : List Cl} (h : y = "CountError" ∨ y ∈ xs) (gl : Gl X y) (od : (y == ("__debug__" : Str)) = false) (r : HdOk X n xs hs l) :
      HdOk X n xs (.ExceptHandler (some (.Name y np)) (some n) [.Return (some (.Tuple [.Constant (.str s) j p4, .Attribute (.Name n p1) "at" p2] k p5)) p3] hp :: hs) ((y, some s) :: l)
section
variable {X : Cx} {C : Cc} {W : WX} {A0 : List Addr} {H0 : Hp} {rf : Bool} {pos : Pos} {n : Str} {i : Nat} {xs : List Str}
theorem su_at {a : Addr} {oe : Obj} {cls : Value} {d : Option Addr} {pn : List (Addr × Obj)} {p1 p2 : Pos} {Ca : Addr} (T : XfC X.K Ca) (no : PySem.W.findIn X.K (.ref Ca) "at" = some none) (hz : Zc cls d oe) (hf : ∃ vs, oe.data = .fields vs) (hi : X.N[i]? = some n)
    (hl : X.env.kindOf n = some .local) (n1 : (n == ("__debug__" : Str)) = false) (n2 : (n == ("__classdict__" : Str)) = false) : PE (X.suite a ((a, oe) :: pn)) (.Attribute (.Name n p1) "at" p2) (tXf a cls d Ca "at" (tVar i)) :=
  pe_xf T no hz hf (pe_var (X := X.suite a ((a, oe) :: pn)) hi (.inl hl) n1 n2) rfl
theorem su_ok (w : Option Str) {st : Stmt} (hi : X.N[i]? = some n) (hl : X.env.kindOf n = some .local) (n1 : (n == ("__debug__" : Str)) = false) (n2 : (n == ("__classdict__" : Str)) = false)
    (h : (w = none ∧ ∃ p1 p2 p3, st = .Return (some (.Attribute (.Name n p1) "at" p2)) p3) ∨ (∃ s k j p1 p2 p3 p4 p5, w = some s ∧ st = .Return (some (.Tuple [.Constant (.str s) j p4, .Attribute (.Name n p1) "at" p2] k p5)) p3)) :
    ∀ (a : Addr) (oe : Obj) (cls : Value) (d : Option Addr) (pn : List (Addr × Obj)), Zc cls d oe → (∃ vs, oe.data = .fields vs) → PSs (X.suite a ((a, oe) :: pn)) [st] (tSu X.K i w a cls d) := by
  intro a oe cls d pn hz hf
  constructor
  rintro pn1 s1 sg H D inv ⟨Ca, dx, v, q1, T, no, q2, q3, q4, q5, q6⟩
  have q4 : sg[i]? = some (some (.ref a)) := by
    obtain ⟨sg0, rfl⟩ := q4
    have l1 : (sg0.set i (some (V.ref a))).length = X.N.length := inv.len
    have l2 := (List.getElem?_eq_some_iff.mp hi).1
    rw [List.length_set] at l1
    rw [List.getElem?_set_self (by omega)]
  rcases h with ⟨rfl, p1, p2, p3, rfl⟩ | ⟨s, k, j, p1, p2, p3, p4, p5, rfl, rfl⟩
  · refine (pss_one (ps_ret (su_at T no hz hf hi hl n1 n2))).run pn1 s1 sg H D inv ?_
    exact ⟨_, q4, rfl, q1, dx, _, v, q2, q3, rfl, q5 rfl⟩
  · refine (pss_one (ps_ret (pe_tup (pa_cons pe_str (pa_cons (su_at T no hz hf hi hl n1 n2) pa_nil))))).run pn1 s1 sg H D inv ?_
    exact ⟨_, q4, rfl, q1, dx, _, v, q2, q3, rfl, by show 2 ≤ sizeLine; rw [sizeLine_eq]; omega, q6 s rfl⟩
theorem hd_cls {D : Addr} (mD : X.mg "CountError" = some (.ref D)) (all : ∀ x ∈ xs, x ≠ "CountError" ∧ ∃ Cx : Addr, X.mg x = some (.ref Cx)) (hi : X.N[i]? = some n) (hl : X.env.kindOf n = some .local) (n1 : (n == ("__debug__" : Str)) = false)
    (n2 : (n == ("__classdict__" : Str)) = false) : ∀ {hs : List ExceptHandler} {l : List Cl}, HdOk X n xs hs l →
      ∃ l' : List (Value × ClT), ClsOk X n hs l' ∧ Paired (fun (p : Cl) (q : Value × ClT) => ∃ Cy : Addr, q = (.ref Cy, tSu X.K i p.2) ∧ ((p.1 = "CountError" ∧ Cy = D) ∨ (p.1 ∈ xs ∧ X.mg p.1 = some (.ref Cy)))) l l' := by
  have key : ∀ {y : Str}, (y = "CountError" ∨ y ∈ xs) → ∃ Cy : Addr, X.mg y = some (.ref Cy) ∧ ((y = "CountError" ∧ Cy = D) ∨ (y ∈ xs ∧ X.mg y = some (.ref Cy))) := by
    rintro y (rfl | h)
    · exact ⟨D, mD, .inl ⟨rfl, rfl⟩⟩
    · obtain ⟨_, Cy, m⟩ := all y h
      exact ⟨Cy, m, .inr ⟨h, m⟩⟩
  intro hs l ok
  induction ok with
  | nil => exact ⟨[], .nil, .nil⟩
  | one h gl od r ih =>
    obtain ⟨l', a1, a2⟩ := ih
    obtain ⟨Cy, m, c⟩ := key h
    exact ⟨_ :: l', .cons ⟨gl, od, .inl m⟩ (su_ok none hi hl n1 n2 (.inl ⟨rfl, _, _, _, rfl⟩)) a1, .cons ⟨Cy, rfl, c⟩ a2⟩
  | two h gl od r ih =>
    obtain ⟨l', a1, a2⟩ := ih
    obtain ⟨Cy, m, c⟩ := key h
    exact ⟨_ :: l', .cons ⟨gl, od, .inl m⟩ (su_ok (some _) hi hl n1 n2 (.inr ⟨_, _, _, _, _, _, _, _, rfl, rfl⟩)) a1, .cons ⟨Cy, rfl, c⟩ a2⟩
theorem soundS_try {hs : List ExceptHandler} {h0 : ExceptHandler} {l : List Cl} {sb : Sx} {body : List Stmt} (g : Good X C W) (htr : C.tr = true) (hne : C.exs ≠ []) (hi : X.N[i]? = some n) (hl : X.env.kindOf n = some .local)
    (n1 : (n == ("__debug__" : Str)) = false) (n2 : (n == ("__classdict__" : Str)) = false) (ok : HdOk X n C.exs (h0 :: hs) l) (hlen : ∀ p ∈ l, ∀ s, p.2 = some s → s.length ≤ sizeLine)
    (hb : ∀ (W' : WX) (pn : List (Addr × Obj)) (xe : Value → Shared → Prop), Good (X.tr pn xe) C W' → PSs (X.tr pn xe) body (tvS (gm X) W' A0 H0 rf sb)) :
    PS X (.Try body (h0 :: hs) [] [] pos) (tvS (gm X) W A0 H0 rf (sTry sb C.exs l)) := by
  rcases g.exs with z | ⟨hlv, D, fI, fd, mD, rD, F, hbb, tI, all⟩
  · exact absurd z hne
  obtain ⟨l', ok', pr⟩ := hd_cls mD (fun x hx => ⟨(all x hx).1, (all x hx).2.imp fun _ q => q.1⟩) hi hl n1 n2 ok
  obtain ⟨hst, hf⟩ := g.tr htr
  refine psBy (ps_tryAs hst hf (by rw [g.N]; exact g.nd) hi hl g.tk (tb := fun W' => tvS (gm X) W' A0 H0 rf sb) (fun W' pn xe tk pw => hb W' pn xe ⟨g.sc, g.N, g.nd, g.calm, g.room, g.gd, g.fn, tk, pw, g.fns, g.blt, g.fzf, g.gls, g.exs, g.tr, g.gcd⟩) ok') ?_
  rintro Dn sg H ⟨A, ρ, hs1, pq⟩
  refine ⟨A, ρ, hs1, ?_⟩
  unfold sTry at pq
  cases e : sb ρ with
  | nx ρ' => rw [e] at pq; exact pq
  | rt d => rw [e] at pq; exact pq
  | bk ρ' => rw [e] at pq; exact pq
  | ct ρ' => rw [e] at pq; exact pq
  | no => rw [e] at pq; exact pq
  | xc ρ' c d =>
    rw [e] at pq
    dsimp only at pq
    split at pq
    · rename_i hc
      intro A' sg' H' st' tr' Ca dx v m hx hv
      obtain ⟨nx, Cc', mC, kc⟩ := all c hc.1
      obtain rfl : Cc' = Ca := by
        have q : X.mg c = some (.ref Ca) := m
        rw [mC] at q
        cases q; rfl
      clear ok ok' e
      induction pr with
      | nil => exact pq A' sg' H' st' tr' Cc' dx v m hx hv
      | @cons p q l1 l2 h1 h2 ih =>
        obtain ⟨Cy, rfl, hy⟩ := h1
        refine ⟨takesX c p.1, kc.one rD nx ?_ ?_, fun hb a na => ?_, fun hb => ih (fun q hq => hlen q (List.mem_cons_of_mem _ hq)) ?_⟩
        · rcases hy with ⟨a1, a2⟩ | ⟨a1, a2⟩
          · exact .inl ⟨a1, a2⟩
          · obtain ⟨a3, C2, a4, a5⟩ := all p.1 a1
            rw [a2] at a4
            cases a4
            exact .inr ⟨a3, a5⟩
        · intro e1
          rcases hy with ⟨a1, a2⟩ | ⟨a1, a2⟩
          · exact absurd (e1.trans a1) nx
          · rw [e1, a2] at mC
            cases mC
            rfl
        · obtain ⟨y, w⟩ := p
          simp only [catchD, if_pos hb] at pq
          refine ⟨Cc', dx, v, rfl, kc.xf rD nx, kc.no, rfl, hx, ⟨sg', rfl⟩, ?_, ?_⟩
          · rintro (rfl : w = none)
            have nb := hc.2
            exact pq v H' st'.same (Res.flat (hv.mono (hide_sub st'.st.sub)) (fun ds z => by have z' : d = .list ds := z; rw [z'] at nb; cases nb) (fun ds z => by have z' : d = .dict ds := z; rw [z'] at nb; cases nb))
          · rintro s (rfl : w = some s) p hp
            refine pq (.ref p) _ (st'.same.trans (same_new hp)) (Res.newT (fun b hb => st'.st.dom b (st'.st.sub b hb)) (.cons (.str s (hlen _ List.mem_cons_self s rfl)) (.cons (hv.mono (hide_sub st'.st.sub)) .nil)) (by show 2 ≤ sizeLine; rw [sizeLine_eq]; omega) hp)
        · obtain ⟨y, w⟩ := p
          rw [show catchD c d ((y, w) :: l1) = catchD c d l1 from if_neg (by rw [show takesX c y = false from hb]; decide)] at pq
          exact pq
    · exact pq.elim
end
end Sm

/-! list(range(..)). -/
namespace Sm
open PySem PySem.Spec L2

def mLr1 (a : M) : M := fun ρ => do
  let x ← a ρ
  match x with
  | .int n => (rangeD 0 n >>= fun xs => .ok (.list xs))
  | _ => .no
def mLr2 (a b : M) : M := fun ρ => do
  let x ← a ρ
  let y ← b ρ
  match x, y with
  | .int i, .int j => (rangeD i j >>= fun xs => .ok (.list xs))
  | _, _ => .no
theorem rp_rg {H : Hp} (i : Int) : ∀ l : List Nat, RpAll H (l.map fun k => V.int (i + (k : Nat))) (l.map fun k => PyData.int (i + (k : Nat)))
  | [] => .nil
  | k :: l => .cons (.int _) (rp_rg i l)
theorem rangeD_of {i j : Int} {xs : List PyData} (e : rangeD i j = .ok xs) : RgOk i j ∧ xs = (List.range (j - i).toNat).map fun k => .int (i + (k : Nat)) := by
  unfold rangeD at e
  split at e
  · rename_i h
    cases e
    obtain ⟨a, b, c, d, f⟩ := h
    refine ⟨⟨a, b, c, d, ?_⟩, rfl⟩
    rw [sizeLine_eq] at f
    omega
  · cases e
section
variable {X : Cx} {W : WX} {a b : Expr} {ma mb : M} {p q pos pos2 : Pos} {kp fa fb : Bool}
theorem lr_fin {mg : Gm} {A : List Addr} {H H1 : Hp} {Z : VK} {i j : Int} {xs : List PyData} (dm : Dom A H1) (e : rangeD i j = .ok xs) (s : Same H H1) (o : ∀ v H', Same H H' → Res A kp true H H' v (.list xs) → Z v H') :
    RgOk i j ∧ ∀ q, H1 q = none → Z (.ref q) (upd H1 q (.lst (rgV i j))) := by
  obtain ⟨ok, rfl⟩ := rangeD_of e
  refine ⟨ok, fun q nq => o _ _ (s.trans (same_new nq)) ?_⟩
  refine Res.newL dm (rp_rg i _) ?_ nq s
  rw [List.length_map, List.length_range, sizeLine_eq]
  have := ok.2.2.2.2
  omega
theorem sound_lr1 (hc : X.calm = true) (n1 : noStar a = true) (g1 : Gl X "list") (m1 : X.mg "list" = none) (g2 : Gl X "range") (m2 : X.mg "range" = none) (ha : PE X a (tvM (gm X) W ma false fa)) :
    PE X (.Call (.Name "list" p) [.Call (.Name "range" q) [a] [] pos] [] pos2) (tvM (gm X) W (mLr1 ma) kp true) := by
  refine peBy (pe_listRg hc g1 m1 (prg_1 g2 m2 ha (star_ne n1)) rfl) ?_
  rintro sg H Z ⟨A0, A, ρ, hs, ho⟩
  refine ⟨A0, A, ρ, hs, ho.bind.mono fun d h1 v H1 s1 r1 => ?_⟩
  cases d with
  | int n =>
    have h2 : Oc (gm X) A H (fun c d H' => W c d sg H') (fun d => ∀ v H', Same H H' → Res A kp true H H' v d → Z v H') (rangeD 0 n >>= fun xs => .ok (.list xs)) := h1
    cases e : rangeD 0 n with
    | ok xs =>
      rw [e] at h2
      exact ⟨n, r1.1.int, lr_fin (mg := gm X) (hs.mono s1).dom e s1 h2⟩
    | exc c x => rw [e] at h2; exact absurd e (by unfold rangeD; split <;> simp)
    | no => rw [e] at h2; exact h2.elim
  | _ => exact h1.elim
theorem sound_lr2 (hc : X.calm = true) (n1 : noStar a = true) (n2 : noStar b = true) (g1 : Gl X "list") (m1 : X.mg "list" = none) (g2 : Gl X "range") (m2 : X.mg "range" = none) (ha : PE X a (tvM (gm X) W ma false fa)) (hb : PE X b (tvM (gm X) W mb false fb)) :
    PE X (.Call (.Name "list" p) [.Call (.Name "range" q) [a, b] [] pos] [] pos2) (tvM (gm X) W (mLr2 ma mb) kp true) := by
  refine peBy (pe_listRg hc g1 m1 (prg_2 g2 m2 ha hb (star_ne n1) (star_ne n2) (star_plain (es := [b]) (by simp [n2]))) rfl) ?_
  rintro sg H Z ⟨A0, A, ρ, hs, ho⟩
  refine ⟨A0, A, ρ, hs, ho.bind.mono fun d h1 v H1 s1 r1 => ?_⟩
  refine ⟨A0, A, ρ, hs.mono s1, (h1.later s1).bind.mono fun d2 h2 v2 H2 s2 r2 => ?_⟩
  cases d with
  | int i =>
    cases d2 with
    | int j =>
      cases e : rangeD i j with
      | ok xs =>
        have h3 : Oc (gm X) A H1 (fun c d H' => W c d sg H') (fun d => ∀ v H', Same H H' → Res A kp true H H' v d → Z v H') (rangeD i j >>= fun xs => .ok (.list xs)) := h2
        rw [e] at h3
        exact ⟨i, j, (r1.1.mono s2).int, r2.1.int, lr_fin (mg := gm X) ((hs.mono s1).mono s2).dom e (s1.trans s2) h3⟩
      | exc c x => exact absurd e (by unfold rangeD; split <;> simp)
      | no =>
        have h3 : Oc (gm X) A H1 (fun c d H' => W c d sg H') (fun d => ∀ v H', Same H H' → Res A kp true H H' v d → Z v H') (rangeD i j >>= fun xs => .ok (.list xs)) := h2
        rw [e] at h3
        exact h3.elim
    | _ => exact h2.elim
  | _ => exact h2.elim
end
end Sm

/-! len(set(..)) of a list of ints. -/
namespace Sm
open PySem PySem.Spec PyProof.Rows L2
/-- the ints that are met, each once, in their order -/
def metI (ns : List Int) : List Int := PyProof.Rows.firstMet (fun i => ns.getD i 0) ns.length
def mLenSet (a : M) : M := fun ρ => do
  let x ← a ρ
  match x with
  | .list ds => (match intsOf ds with
    | some ns => if ns.length ≤ 4000 then okI (metI ns).length else .no
    | none => .no)
  | _ => .no
def tLenMet (K : PySem.W.Frag) (ta : TE) : TE := fun sg H Z => ta sg H fun x H1 => ∃ (l : Addr) (ns : List Int), x = .ref l ∧ SqL K H1 l (ns.map V.int) ∧ ns.length ≤ 4000 ∧ Z (.int ((metI ns).length : Nat)) H1
section
variable {X : Cx} {W : WX} {a : Expr} {ma : M} {p q pos pos2 : Pos} {kp fa fr : Bool} {ta : TE}
theorem metI_len (ns : List Int) : (metI ns).length ≤ ns.length := PyProof.Rows.firstMet_length_le _ _
theorem pe_lenMet (hc : X.calm = true) (g1 : Gl X "len") (m1 : X.mg "len" = none) (g2 : Gl X "set") (m2 : X.mg "set" = none) (ha : PE X a ta) (na : starEach [a] X.env = (false, eval a X.env) :: starEach [] X.env) :
    PE X (.Call (.Name "len" p) [.Call (.Name "set" q) [a] [] pos] [] pos2) (tLenMet X.K ta) := by
  constructor
  intro pn st sg H Z inv h
  refine Call_ (ld_blt inv g1 m1 boot_len (PyProof.Rows.callWith_builtin1 (PyProof.Rows.args_cons (Call_ (ld_blt inv g2 m2 boot_set (PyProof.Rows.callWith_type1 (PyProof.Rows.args_cons (thn (ha.run pn st sg H _ inv h) ?_) na) na rfl))) rfl) rfl rfl))
  rintro v s1 ⟨x, H1, I1, r1, l, ns, rfl, hq, hl, z⟩
  obtain rfl : v = Value.ref l := r1
  obtain ⟨its, r, pl, _⟩ := I1.list hq
  have hlen : its.toArray.size = ns.length := by rw [List.size_toArray, ← r.length, List.length_map]
  refine PyProof.Rows.args_nil ?_
  refine call_set_list (I1.ok.hd hc) pl.isList (by simpa using RZ.intsAre_vals r) (by rw [hlen]; unfold scanBound; omega) fun h' tk hS hk => PyProof.Rows.args_nil ?_
  rw [hlen] at hS
  obtain ⟨o, es, ep, t, ho, hex, hd, _, _, _, hf, hn⟩ := hS
  have I2 : Inv X pn sg H1 { s1 with heap := h', toks := tk } := I1.kept fun b o e => hk b o (Heap.lt_size e) e
  have ml : (PyProof.Rows.firstMet (fun i => ns.getD i 0) ns.length).length ≤ ns.length := metI_len ns
  exact call_len_set ho hex hd hf (by rw [hn]; omega) ⟨.int ((metI ns).length : Nat), H1, I2.tok _, ⟨_, by rw [hn]; rfl⟩, z⟩
theorem sound_lenSet (hc : X.calm = true) (n1 : noStar a = true) (g1 : Gl X "len") (m1 : X.mg "len" = none) (g2 : Gl X "set") (m2 : X.mg "set" = none) (ha : PE X a (tvM (gm X) W ma false fa)) :
    PE X (.Call (.Name "len" p) [.Call (.Name "set" q) [a] [] pos] [] pos2) (tvM (gm X) W (mLenSet ma) kp true) := by
  refine peBy (pe_lenMet hc g1 m1 g2 m2 ha (star_ne n1)) ?_
  rintro sg H Z ⟨A0, A, ρ, hs, ho⟩
  refine ⟨A0, A, ρ, hs, ho.bind.mono fun d h1 v H1 s1 r1 => ?_⟩
  cases d with
  | list ds =>
    have h2 : Oc (gm X) A H (fun c d H' => W c d sg H') (fun d => ∀ v H', Same H H' → Res A kp true H H' v d → Z v H') (match intsOf ds with
      | some ns => if ns.length ≤ 4000 then okI (metI ns).length else .no
      | none => .no) := h1
    cases e : intsOf ds with
    | none => rw [e] at h2; exact h2.elim
    | some ns =>
      rw [e] at h2
      dsimp only at h2
      split at h2
      · rename_i hl
        obtain ⟨l, us, rfl, hv, hz, ra⟩ := r1.1.list
        rw [intsOf_eq e] at ra
        have eu := ra.ints
        subst eu
        exact ⟨l, ns, rfl, .inl (.inl hv), hl, h2 _ _ s1 (res_int _).weak⟩
      · exact h2.elim
  | _ => exact h1.elim
end
end Sm

/-! [*a, b, ..]. -/
namespace Sm
open PySem PySem.Spec L2
def mAllS : List (Bool × M) → Rho → Rs (List PyData)
  | [], _ => .ok []
  | (false, m) :: ms, ρ => do
    let d ← m ρ
    let ds ← mAllS ms ρ
    .ok (d :: ds)
  | (true, m) :: ms, ρ => do
    let d ← m ρ
    match d with
    | .list es => (mAllS ms ρ >>= fun ds => .ok (es ++ ds))
    | .tuple es => (mAllS ms ρ >>= fun ds => .ok (es ++ ds))
    | _ => .no
def mLstS (ms : List (Bool × M)) : M := fun ρ => do
  let ds ← mAllS ms ρ
  if ds.length ≤ sizeLine then .ok (.list ds) else .no
def tvAS (mg : Gm) (W : WX) (ms : List (Bool × M)) : TA := fun sg H Z => ∃ A0 A ρ, StA mg.K A0 A ρ sg H ∧
  Oc mg A H (fun c d H' => W c d sg H') (fun ds => ∀ vs H', Same H H' → Paired (fun v d => Vw A H' true v d) vs ds → Z vs H') (mAllS ms ρ)
section
variable {X : Cx} {W : WX} {a : Expr} {es : List Expr} {ma : M} {ms : List (Bool × M)} {p pos : Pos} {kp fa : Bool}
theorem rp_paired {A : List Addr} {H : Hp} : ∀ {us : List V} {ds : List PyData}, RpAll (Hide A H) us ds → Paired (fun v d => Vw A H true v d) us ds
  | _, _, .nil => .nil
  | _, _, .cons h t => .cons (.inl h) (rp_paired t)
theorem paired_app {F : V → PyData → Prop} : ∀ {us : List V} {ds : List PyData} {vs : List V} {es : List PyData}, Paired F us ds → Paired F vs es → Paired F (us ++ vs) (ds ++ es)
  | _, _, _, _, .nil, h => h
  | _, _, _, _, .cons a t, h => .cons a (paired_app t h)
theorem soundS_nilA : PA X [] (tvAS (gm X) W []) := by
  refine paBy pa_nil ?_
  rintro sg H Z ⟨A0, A, ρ, hs, ho⟩
  exact ho [] H (Same.refl _) .nil
theorem soundS_consA (n : noStar a = true) (ha : PE X a (tvM (gm X) W ma true fa)) (hr : PA X es (tvAS (gm X) W ms)) : PA X (a :: es) (tvAS (gm X) W ((false, ma) :: ms)) := by
  refine paBy (pa_cons ha hr (star_ne n)) ?_
  rintro sg H Z ⟨A0, A, ρ, hs, ho⟩
  refine ⟨A0, A, ρ, hs, ho.bind.mono fun d h1 v H1 s1 r1 => ?_⟩
  refine ⟨A0, A, ρ, hs.mono s1, (h1.later s1).bind.mono fun ds h2 vs H2 s2 r2 => ?_⟩
  exact h2 (v :: vs) H2 (s1.trans s2) (.cons (r1.1.mono s2) r2)
theorem soundS_starA (ha : PE X a (tvM (gm X) W ma false fa)) (hr : PA X es (tvAS (gm X) W ms)) : PA X (.Starred a p :: es) (tvAS (gm X) W ((true, ma) :: ms)) := by
  refine paBy (StX.pa_star ha hr rfl) ?_
  rintro sg H Z ⟨A0, A, ρ, hs, ho⟩
  refine ⟨A0, A, ρ, hs, ho.bind.mono fun d h1 v H1 s1 r1 => ?_⟩
  cases d with
  | list es =>
    obtain ⟨l, us, rfl, hl, hz, ra⟩ := r1.1.list
    refine ⟨l, us, rfl, .inr (SqL.of hl), A0, A, ρ, hs.mono s1, (h1.later s1).bind.mono fun ds h2 vs H2 s2 r2 => ?_⟩
    exact h2 (us ++ vs) H2 (s1.trans s2) (paired_app (rp_paired (ra.mono (hide_same s2))) r2)
  | tuple es =>
    obtain ⟨l, us, rfl, hl, hz, ra⟩ := r1.1.tuple
    refine ⟨l, us, rfl, .inl (SqT.of hl), A0, A, ρ, hs.mono s1, (h1.later s1).bind.mono fun ds h2 vs H2 s2 r2 => ?_⟩
    exact h2 (us ++ vs) H2 (s1.trans s2) (paired_app (rp_paired (ra.mono (hide_same s2))) r2)
  | _ => exact h1.elim
theorem sound_lstS (h : PA X es (tvAS (gm X) W ms)) : PE X (.List es pos) (tvM (gm X) W (mLstS ms) kp true) := by
  refine peBy (pe_lst h) ?_
  rintro sg H Z ⟨A0, A, ρ, hs, ho⟩
  refine ⟨A0, A, ρ, hs, ?_⟩
  unfold mLstS at ho
  cases e : mAllS ms ρ with
  | ok ds =>
    rw [e] at ho
    have ho' : Oc (gm X) A H (fun c d H' => W c d sg H') (fun d => ∀ v H', Same H H' → Res A kp true H H' v d → Z v H') (if ds.length ≤ sizeLine then .ok (.list ds) else .no) := ho
    split at ho'
    · rename_i hl
      intro vs H1 s1 r1
      have ra := rpAll_of r1
      refine ⟨by rw [ra.len]; exact hl, fun p np => ho' _ _ (s1.trans (same_new np)) (Res.newL (hs.mono s1).dom ra (by rw [ra.len]; exact hl) np s1)⟩
    · exact ho'.elim
  | exc c x => rw [e] at ho; exact ho
  | no => rw [e] at ho; exact ho
end
end Sm

/-! range(i, j, -1). -/
namespace Sm
open PySem PySem.Spec L2
def rangeDn (i j : Int) : Rs (List PyData) :=
  if -(2 ^ 62) ≤ i ∧ i < 2 ^ 62 ∧ -(2 ^ 62) ≤ j ∧ j < 2 ^ 62 ∧ (i - j).toNat ≤ sizeLine then .ok ((List.range (i - j).toNat).map fun k => .int (i + (k : Nat) * (-1))) else .no
def iR3 : List PyData → Rs (List PyData)
  | [.int i, .int j, .int c] => if c = -1 then rangeDn i j else .no
  | _ => .no
section
variable {X : Cx} {W : WX} {tg e : Expr} {pos : Pos} {kp : Bool}
theorem walks_rangeC {R : Hp → Hp → Prop} {A : List Addr} {H1 : Hp} {i c : Int} {n : Nat} : Walks R A H1 (Itc i c n) ((List.range n).map fun k => .int (i + (k : Nat) * c)) := by
  intro H2 _
  refine ⟨by show n ≤ _; simp, fun k d hd => ?_⟩
  rw [List.getElem?_map] at hd
  cases e : (List.range n)[k]? with
  | none => rw [e] at hd; cases hd
  | some k' =>
    rw [e] at hd
    cases hd
    have hk := List.getElem?_eq_some_iff.mp e
    obtain ⟨hl, hv⟩ := hk
    rw [List.getElem_range] at hv
    subst hv
    refine ⟨show k < n by simpa using hl, fun w H3 ⟨e1, e2⟩ => ?_⟩
    subst e1 e2
    exact ⟨Same.refl _, fun A' _ _ => .int _⟩
theorem vw3 {A : List Addr} {H : Hp} {kp : Bool} {vs : List V} {d e f : PyData} (r : Paired (fun v d => Vw A H kp v d) vs [d, e, f]) : ∃ v w u, vs = [v, w, u] ∧ Vw A H kp v d ∧ Vw A H kp w e ∧ Vw A H kp u f := by
  cases r with
  | cons h t =>
    cases t with
    | cons h2 t2 =>
      cases t2 with
      | cons h3 t3 =>
        cases t3
        exact ⟨_, _, _, rfl, h, h2, h3⟩
theorem soundI_range3 {a b c : Expr} {ms : List M} {p : Pos} (n : noStar a = true) (n2 : noStar b = true) (n3 : noStar c = true) (gl : Gl X "range") (hm : X.mg "range" = none) (ha : PA X [a, b, c] (tvA (gm X) W ms false)) : PI X tg (.Call (.Name "range" p) [a, b, c] [] pos) (tvI (gm X) W kp (iCall iR3 ms)) := by
  refine piBy (pi_range3 gl hm ha (by rw [star_ne n, star_ne n2, star_ne n3]) (by rw [star_ne n2, star_ne n3]; rfl)) ?_
  rintro sg H R ⟨A0, A, ρ, hs, ho⟩
  refine ⟨A0, A, ρ, hs, ho.bind.mono fun ds h1 vs H1 s1 r1 => ?_⟩
  unfold iR3 at h1
  split at h1
  · rename_i i j k
    obtain ⟨v, w, u, rfl, hv, hw, hu⟩ := vw3 r1
    rw [hv.int, hw.int, hu.int]
    split at h1
    · rename_i hk
      subst hk
      unfold rangeDn at h1
      split at h1
      · rename_i c
        refine ⟨i, j, -1, (i - j).toNat, rfl, RgC.neg c.1 c.2.1 c.2.2.1 c.2.2.2.1, h1 _ H1 s1 ?_ walks_rangeC⟩
        rw [List.length_map, List.length_range]
        exact c.2.2.2.2
      · exact h1.elim
    · exact h1.elim
  · exact h1.elim
end
end Sm

/-! name = zip(a, b), then return [.. for .. in name]. -/
namespace Sm
open PySem PySem.Spec PyProof.Rows L2

/-- the five objects of a fresh zip of the lists a and b -/
def zH (H : Hp) (c a b : Addr) : Hp := upd (upd (upd (upd (upd H c (.ext fun h => h.IsListIter c a 0)) (c + 1) (.ext fun h => h.IsListIter (c + 1) b 0)) (c + 2) (.ext fun h => IsPair h (c + 2) (.ref c) (.ref (c + 1))))
  (c + 3) (.ext fun h => IsPair h (c + 3) .none .none)) (c + 4) (.ext fun h => IsZip h (c + 4) (c + 2) (c + 3) .none)
def tZv (K : PySem.W.Frag) (n : Nat) (ta : TA) : TE := fun sg H Z => ta sg H fun vs H1 => ∃ (a b : Addr) (xs ys : List V), vs = [.ref a, .ref b] ∧ SqL K H1 a xs ∧ SqL K H1 b ys ∧
  ∀ c, (∀ j, j < 5 → H1 (c + j) = none) → n ≤ c → a < c → b < c → Z (.ref (c + 4)) (zH H1 c a b)
def iZn (K : PySem.W.Frag) (n k : Nat) : TI := fun sg H R => ∃ (c a b : Addr) (H1 : Hp) (sg0 : L2.St), sg = sg0.set k (some (.ref (c + 4))) ∧ H = zH H1 c a b ∧ (∀ j, j < 5 → H1 (c + j) = none) ∧ n ≤ c ∧ a < c ∧ b < c ∧ R (Itz K a b) H1
section
variable {X : Cx} {pn : List (Addr × Obj)} {sg : L2.St} {H : Hp} {st : Shared} {c : Addr} {φ : Heap → Prop}
theorem inv_track (I : Inv X pn sg H st) (f : FpOk X pn H c) (young : X.s_0.heap.objs.size ≤ c) (h : φ st.heap) (e : ∃ o, st.heap.get? c = some o) (s : ∀ h1 h2 : Heap, φ h1 → (∀ o, h1.get? c = some o → h2.get? c = some o) → φ h2) :
    Inv X pn sg (upd H c (.ext φ)) st := by
  obtain ⟨f1, f2, f3, f4, f5, f6⟩ := f
  have nn : ∀ {b : Addr} {o : HO}, H b = some o → b ≠ c := fun q => ne_of_none q f1
  refine ⟨I.ok, I.os, I.bare, ⟨I.base.keep, I.base.slot, fun b o q n x => ?_, I.base.there, fun b xs q => ?_, fun b o u q => ?_, fun b ps q => ?_⟩, I.loc, I.cell, ?_, fun x d q => ?_, fun p hp => ?_, fun b o q => ?_, I.len⟩
  · rw [upd_ne (Nat.ne_of_lt (Nat.lt_of_lt_of_le (Heap.lt_size q) young))]
    exact I.base.free b o q n x
  · have z := I.base.tups b xs q
    rw [upd_ne (nn z)]; exact z
  · have z := I.base.frzs b o u q
    rw [upd_ne (nn z)]; exact z
  · obtain ⟨m, z⟩ := I.base.tbls b ps q
    exact ⟨m, by rw [upd_ne (nn z)]; exact z⟩
  · rw [upd_ne (Ne.symm f2)]; exact I.free
  · rw [upd_ne (f5 x d q)]; exact I.freeC x d q
  · obtain ⟨z1, z2, z3⟩ := I.pin p hp
    exact ⟨z1, by rw [upd_ne (f6 p hp)]; exact z2, z3⟩
  · by_cases hb : b = c
    · subst hb
      rw [upd_same] at q
      cases q
      exact ⟨h, e, s⟩
    · rw [upd_ne hb] at q
      exact (I.hok b o q).stay (fun _ _ _ z => z) (fun d z => by rw [upd_ne (nn z)]; exact z) fun d xs z => by rw [upd_ne (nn z)]; exact z
theorem fp_upd {H : Hp} {o : HO} {d : Addr} (f : FpOk X pn H d) (ne : d ≠ c) : FpOk X pn (upd H c o) d := by
  obtain ⟨f1, f2⟩ := f
  exact ⟨by rw [upd_ne ne]; exact f1, f2⟩
variable {e e2 : Expr} {ta : TA} {p pos tp : Pos} {elts : List Expr} {kk : Nat}
theorem pe_zv (hg : Gl X "zip") (hm : X.mg "zip" = none) (ha : PA X [e, e2] ta) (hs : starEach [e, e2] X.env = (false, eval e X.env) :: starEach [e2] X.env) (hpl : (backTo pos (starEach [e2] X.env)).any (·.1) = false) :
    PE X (.Call (.Name "zip" p) [e, e2] [] pos) (tZv X.K X.s_0.heap.objs.size ta) := by
  constructor
  intro pn st sg H Z inv h
  refine Call_ (ld_blt inv hg hm PyProof.Rows.boot_zip (PyProof.Rows.callWith_type1 (thn (ha.run pos pn st sg H _ inv h) ?_) hs hpl))
  rintro us s1 ⟨vs, H1, I1, r1, a, b, xs, ys, rfl, qx, qy, q⟩
  obtain ⟨rfl⟩ : us = [Value.ref a, Value.ref b] := by
    cases r1 with
    | cons r r' =>
      cases r' with
      | cons r2 r3 => cases r3; cases r; cases r2; rfl
  obtain ⟨its, _, p1, _⟩ := I1.list qx
  obtain ⟨its2, _, p2, _⟩ := I1.list qy
  refine call_zip_2 p1.isList p2.isList fun h' hz hTI hTO h1 h2 hsz hk => ?_
  have fp : ∀ j, FpOk X pn H1 (s1.heap.objs.size + j) := fun j => I1.fpOk (Nat.le_add_right _ _) (I1.hok.fresh (Nat.le_add_right _ _))
  have sz := I1.sz
  have I2 : Inv X pn sg H1 { s1 with heap := h' } := I1.kept (t' := s1.toks) hk
  have ne : ∀ {i j : Nat}, i ≠ j → s1.heap.objs.size + i ≠ s1.heap.objs.size + j := fun h z => h (Nat.add_left_cancel z)
  have J0 := inv_track I2 (fp 0) (φ := fun h => h.IsListIter s1.heap.objs.size a 0) sz h1 ⟨_, h1.choose_spec.1⟩ fun g1 g2 q k => q.at fun o => k o
  have J1 := inv_track J0 (fp_upd (fp 1) (ne (j := 0) (by decide))) (φ := fun h => h.IsListIter (s1.heap.objs.size + 1) b 0) (by omega) h2 ⟨_, h2.choose_spec.1⟩ fun g1 g2 q k => q.at fun o => k o
  have J2 := inv_track J1 (fp_upd (fp_upd (fp 2) (ne (j := 0) (by decide))) (ne (by decide))) (φ := fun h => IsPair h (s1.heap.objs.size + 2) (.ref s1.heap.objs.size) (.ref (s1.heap.objs.size + 1))) (by omega) hTI ⟨_, hTI⟩ fun g1 g2 q k => k _ q
  have J3 := inv_track J2 (fp_upd (fp_upd (fp_upd (fp 3) (ne (j := 0) (by decide))) (ne (by decide))) (ne (by decide))) (φ := fun h => IsPair h (s1.heap.objs.size + 3) .none .none) (by omega) hTO ⟨_, hTO⟩ fun g1 g2 q k => k _ q
  have J4 := inv_track J3 (fp_upd (fp_upd (fp_upd (fp_upd (fp 4) (ne (j := 0) (by decide))) (ne (by decide))) (ne (by decide))) (ne (by decide))) (φ := fun h => IsZip h (s1.heap.objs.size + 4) (s1.heap.objs.size + 2) (s1.heap.objs.size + 3) .none) (by omega) hz ⟨_, hz⟩ fun g1 g2 q k => k _ q
  exact ⟨.ref (s1.heap.objs.size + 4), _, J4, rfl, q _ (fun j _ => I1.hok.fresh (Nat.le_add_right _ _)) sz p1.lt p2.lt⟩
theorem drop_ne {H : Hp} {a b : Addr} {o : HO} (h : a ≠ b) : ItX.dropH (upd H a o) b = upd (ItX.dropH H b) a o := by
  funext d
  by_cases h1 : d = b
  · subst h1
    rw [ItX.dropH_same, upd_ne (Ne.symm h), ItX.dropH_same]
  · rw [ItX.dropH_ne h1]
    by_cases h2 : d = a
    · subst h2
      rw [upd_same, upd_same]
    · rw [upd_ne h2, upd_ne h2, ItX.dropH_ne h1]
theorem zH_get {H : Hp} {c a b : Addr} : zH H c a b c = some (.ext fun h => h.IsListIter c a 0) ∧ zH H c a b (c + 1) = some (.ext fun h => h.IsListIter (c + 1) b 0) ∧ zH H c a b (c + 2) = some (.ext fun h => IsPair h (c + 2) (.ref c) (.ref (c + 1))) ∧
    zH H c a b (c + 3) = some (.ext fun h => IsPair h (c + 3) .none .none) ∧ zH H c a b (c + 4) = some (.ext fun h => IsZip h (c + 4) (c + 2) (c + 3) .none) := by
  unfold zH upd
  refine ⟨?_, ?_, ?_, ?_, ?_⟩ <;> simp
theorem pi_zn {k : Nat} {x : Str} {p2 : Pos} (hN : X.N[k]? = some x) (hv : Vis X.env.scope x) (h1 : (x == ("__debug__" : Str)) = false) (h2 : (x == ("__classdict__" : Str)) = false) :
    PI X (.Tuple elts kk tp) (.Name x p2) (iZn X.K X.s_0.heap.objs.size k) := by
  constructor
  rintro pn st sg H R inv ⟨c, a, b, H1, sg0, rfl, rfl, fr, le, la, lb, q⟩
  have hk : (sg0.set k (some (V.ref (c + 4))))[k]? = some (some (.ref (c + 4))) := by
    have l1 : (sg0.set k (some (V.ref (c + 4)))).length = X.N.length := inv.len
    have l2 := (List.getElem?_eq_some_iff.mp hN).1
    rw [List.length_set] at l1
    rw [List.getElem?_set_self (by omega)]
  refine thn ((pe_var (pos := p2) (i := k) hN hv h1 h2).run pn st _ _ (fun v H' => v = .ref (c + 4) ∧ H' = zH H1 c a b) inv ⟨.ref (c + 4), hk, rfl, rfl⟩) ?_
  rintro u s1 ⟨v, H', I1, r1, rfl, rfl⟩
  obtain rfl : u = Value.ref (c + 4) := r1
  obtain ⟨g0, g1, g2, g3, g4⟩ := zH_get (H := H1) (c := c) (a := a) (b := b)
  have o0 : s1.heap.IsListIter c a 0 := (I1.hok _ _ g0).1
  have o1 : s1.heap.IsListIter (c + 1) b 0 := (I1.hok _ _ g1).1
  have o2 : IsPair s1.heap (c + 2) (.ref c) (.ref (c + 1)) := (I1.hok _ _ g2).1
  have o3 : IsPair s1.heap (c + 3) .none .none := (I1.hok _ _ g3).1
  have o4 : IsZip s1.heap (c + 4) (c + 2) (c + 3) .none := (I1.hok _ _ g4).1
  have up : ∀ {H : Hp} {j : Nat} {φ : Heap → Prop}, ItX.dropH (upd H (c + j) (.ext φ)) (c + j) = ItX.dropH H (c + j) := fun {H j φ} => by
    funext d
    by_cases h : d = c + j
    · subst h; rw [ItX.dropH_same, ItX.dropH_same]
    · rw [ItX.dropH_ne h, ItX.dropH_ne h, upd_ne h]
  have dn : ∀ {H : Hp} {j : Addr}, H j = none → ItX.dropH H j = H := fun {H j} h => by
    funext d
    by_cases z : d = j
    · subst z; rw [ItX.dropH_same, h]
    · rw [ItX.dropH_ne z]
  have D4 := ItX.inv_drop I1 g4
  have e4 : ItX.dropH (zH H1 c a b) (c + 4) = upd (upd (upd (upd H1 c (.ext fun h => h.IsListIter c a 0)) (c + 1) (.ext fun h => h.IsListIter (c + 1) b 0)) (c + 2) (.ext fun h => IsPair h (c + 2) (.ref c) (.ref (c + 1)))) (c + 3) (.ext fun h => IsPair h (c + 3) .none .none) := by
    unfold zH
    rw [up, dn]
    unfold upd
    simp [fr 4 (by decide)]
  rw [e4] at D4
  have D3 := ItX.inv_drop D4 (a := c + 3) upd_same
  have e3 : ItX.dropH (upd (upd (upd (upd H1 c (.ext fun h => h.IsListIter c a 0)) (c + 1) (.ext fun h => h.IsListIter (c + 1) b 0)) (c + 2) (.ext fun h => IsPair h (c + 2) (.ref c) (.ref (c + 1)))) (c + 3) (.ext fun h => IsPair h (c + 3) .none .none)) (c + 3) =
      upd (upd (upd H1 c (.ext fun h => h.IsListIter c a 0)) (c + 1) (.ext fun h => h.IsListIter (c + 1) b 0)) (c + 2) (.ext fun h => IsPair h (c + 2) (.ref c) (.ref (c + 1))) := by
    rw [up, dn]
    unfold upd
    simp [fr 3 (by decide)]
  rw [e3] at D3
  have D2 := ItX.inv_drop D3 (a := c + 2) upd_same
  have e2 : ItX.dropH (upd (upd (upd H1 c (.ext fun h => h.IsListIter c a 0)) (c + 1) (.ext fun h => h.IsListIter (c + 1) b 0)) (c + 2) (.ext fun h => IsPair h (c + 2) (.ref c) (.ref (c + 1)))) (c + 2) =
      upd (upd H1 c (.ext fun h => h.IsListIter c a 0)) (c + 1) (.ext fun h => h.IsListIter (c + 1) b 0) := by
    rw [up, dn]
    unfold upd
    simp [fr 2 (by decide)]
  rw [e2] at D2
  have D1 := ItX.inv_drop D2 (a := c + 1) upd_same
  have e1 : ItX.dropH (upd (upd H1 c (.ext fun h => h.IsListIter c a 0)) (c + 1) (.ext fun h => h.IsListIter (c + 1) b 0)) (c + 1) = upd H1 c (.ext fun h => h.IsListIter c a 0) := by
    rw [up, dn]
    unfold upd
    simp [fr 1 (by decide)]
  rw [e1] at D1
  have D0 := ItX.inv_drop D1 (a := c) upd_same
  have e0 : ItX.dropH (upd H1 c (.ext fun h => h.IsListIter c a 0)) c = H1 := ItX.dropH_upd (fr 0 (by decide))
  rw [e0] at D0
  have fp : ∀ j, j < 5 → FpOk X pn H1 (c + j) := by
    intro j hj
    have zt : ∃ u, zH H1 c a b (c + j) = some u := by
      match j, hj with
      | 0, _ => exact ⟨_, g0⟩
      | 1, _ => exact ⟨_, g1⟩
      | 2, _ => exact ⟨_, g2⟩
      | 3, _ => exact ⟨_, g3⟩
      | 4, _ => exact ⟨_, g4⟩
    obtain ⟨u, hu⟩ := zt
    obtain ⟨f1, f2⟩ := ItX.inv_fp I1 hu (by omega)
    exact ⟨fr j hj, f2⟩
  refine wpAny_pyIter_zip o4 ?_
  refine ⟨c + 4, [c + 4, c + 2, c + 3, c, c + 1], _, _, H1, rfl, D0, turn_zip (PySem.W.ktu_apart c a b la lb), ⟨o4, o2, ⟨_, _, o3⟩, o0, o1⟩, fun d hd => ?_, q⟩
  have : d = c + 4 ∨ d = c + 2 ∨ d = c + 3 ∨ d = c + 0 ∨ d = c + 1 := by simpa using hd
  rcases this with rfl | rfl | rfl | rfl | rfl
  · exact fp 4 (by decide)
  · exact fp 2 (by decide)
  · exact fp 3 (by decide)
  · exact fp 0 (by decide)
  · exact fp 1 (by decide)
end
def mCompZ (it : Its) (tg : Tg) (t : Ts) (el : M) (own : List Nat) (k : Nat) : M := fun ρ => do
  let xs ← it ρ
  let ys ← (compL tg t el (wipeR (ρ.set k .un) own) xs).hush
  .ok (.list ys)
section
variable {X : Cx} {W : WX} {A0 : List Addr} {H0 : Hp} {rf : Bool}
theorem soundS_zr {e e2 elt : Expr} {ifs : List Expr} {scope : Scope} {own : List (Str × Nat)} {ms : List M} {T : Tg} {t : Ts} {el : M} {S : List Nat} {fr : Bool} {k : Nat} {y : Str} {p pos py py2 q1 q2 p2 tp : Pos} {elts : List Expr} {kk : Nat}
    (hc : X.calm = true) (nd : X.N.Nodup) (hy : X.N[k]? = some y) (hl : X.env.scope.names.lookup y = some .local) (h1 : (y == ("__debug__" : Str)) = false) (h2 : (y == ("__classdict__" : Str)) = false) (gl : Gl X "zip") (hm : X.mg "zip" = none)
    (n1 : noStar e = true) (n2 : noStar e2 = true) (ha : PA X [e, e2] (tvA (gm X) W ms false)) (ok : BlkOk X.N X.env.scope scope own) (hS : ∀ i ∈ S, i ∈ own.map (·.2))
    (hg : ∀ (s : Shared) (H : Hp) (C : Addr) (cl : List (Str × Addr)) (fp : List Addr), PG (X.blk s H scope (compEnvC scope cl C X.env) fp) (.Tuple elts kk tp) (tvG X.K T S))
    (ht : ∀ (s : Shared) (H : Hp) (C : Addr) (cl : List (Str × Addr)) (fp : List Addr), PTs (X.blk s H scope (compEnvC scope cl C X.env) fp) ifs (tvT (gm X) noW t))
    (he : ∀ (s : Shared) (H : Hp) (C : Addr) (cl : List (Str × Addr)) (fp : List Addr), PE (X.blk s H scope (compEnvC scope cl C X.env) fp) elt (tvM (gm X) noW el true fr)) :
    PSs X [.Assign [.Name y py] (.Call (.Name "zip" p) [e, e2] [] pos) q1, .Return (some (.ListComp elt [⟨.Tuple elts kk tp, .Name y py2, ifs, 0⟩] scope p2)) q2] (tvS (gm X) W A0 H0 rf (sRet (mCompZ (iCall iZipD ms) T t el (own.map (·.2)) k))) := by
  refine pssBy (pss_cons (ps_set nd hy (.inl hl) (pe_zv gl hm ha (star_ne n1) (star_plain (es := [e2]) (by simp [n2]))) (by rfl) (.inr hl))
    (pss_one (ps_ret (pe_lc hc nd (pi_zn hy (.inl hl) h1 h2) ok hg ht he fun x => rfl)))) ?_
  rintro D sg H ⟨A, ρ, hs, pq⟩
  refine ⟨A0, A, ρ, hs.st, (Oc.bind (Oc.bind (lf_oc hs pq))).mono fun ds o vs H1 s1 r1 => ?_⟩
  unfold iZipD at o
  split at o
  · rename_i ds es
    have o' : Oc (gm X) A H (fun c d H' => W c d sg H') (fun d => Post (gm X) W A0 H0 rf A H D (.rt d)) ((compL T t el (wipeR (ρ.set k .un) (own.map (·.2))) ((ds.zip es).map fun p => .tuple [p.1, p.2])).hush >>= fun ys => .ok (.list ys)) := o
    cases ec : (compL T t el (wipeR (ρ.set k .un) (own.map (·.2))) ((ds.zip es).map fun p => .tuple [p.1, p.2])).hush with
    | exc c d => cases e2 : compL T t el (wipeR (ρ.set k .un) (own.map (·.2))) ((ds.zip es).map fun p => .tuple [p.1, p.2]) <;> rw [e2] at ec <;> cases ec
    | no => rw [ec] at o'; exact o'.elim
    | ok ys =>
      rw [ec] at o'
      cases r1 with
      | cons r2 r3 =>
        cases r3 with
        | cons r3 r4 =>
          cases r4
          obtain ⟨a, us, rfl, hv, hz, ra, nk⟩ := r2.listK
          obtain ⟨b, ws, rfl, hw, hzw, rb, nkb⟩ := r3.listK
          refine ⟨a, b, us, ws, rfl, SqL.of hv, SqL.of hw, fun c hf hn la lb => ?_⟩
          refine ⟨c, a, b, H1, sg, rfl, rfl, hf, hn, la, lb, fun Dd nD => ?_⟩
          have hs1 := hs.mono s1
          refine comp_core (kp := true) hS (hs1.st.unset (i := k) (x := some (.ref (c + 4)))) ?_ (walks_zip (kp := false) hv hw nk nkb ra rb) (hush_ok ec) (fun v H' s r => ?_) nD
          · rw [List.length_map, List.length_zip, ← ra.len]
            exact Nat.le_trans (Nat.min_le_left _ _) hz
          · have fin : ∀ v H', Same H0 H' → Res A0 true rf H0 H' v (.list ys) → D.rt v H' := o'
            exact fin v H' (hs1.same.trans s) (retRes hs1 s (fun _ => rfl) r)
  · exact o.elim
end
end Sm

/-! The sort of tuples of which the first is empty. -/
namespace Sm
open PySem PySem.Spec PyProof.Rows
open PySem.W (AllAlike Sortable dataLe dataLt EachIs SortsAt dataKind)
/-- tuples, an empty one first -/
def TupE (ds : List PyData) : Prop := ∃ rest, ds = .tuple [] :: rest ∧ ∀ d ∈ rest, ∃ xs, d = .tuple xs
section
variable {prog : Program} {w : World} {A : Around} {s : Shared} {E : Value → Shared → Prop}
theorem tup_lt {l b : Addr} {xs ys : Array Value} {e r : Nat → Bool} {Q : Value → Shared → Prop} (h1 : s.heap.IsTuple l xs) (h2 : s.heap.IsTuple b ys) (he : ∀ j (p : j < xs.size) (q : j < ys.size), PySem.SeqAt.EqAt A.in1 s xs[j] ys[j] (e j))
    (hr : ∀ j (p : j < xs.size) (q : j < ys.size), e j = false → PySem.SeqAt.RcLt A.in1 s xs[j] ys[j] (r j)) (h : Q (.bool (PySem.SeqAt.firstLt e r (decide (xs.size < ys.size)) (List.range (min xs.size ys.size)))) s) :
    wpAny (model prog w) A (call (.builtin "tuple.__lt__") [.ref l, .ref b]) Q E s := by
  obtain ⟨⟨k1, d1, t1, s1⟩, o1, c1, n1, e1⟩ := id h1
  obtain ⟨⟨k2, d2, t2, s2⟩, o2, c2, n2, e2⟩ := id h2
  simp only at c1 e1 c2 e2
  subst c1 e1 c2 e2
  exact call_meets PySem.F.slot_tuple_lt ⟨_, o1, rfl⟩ PySem.F.entry_tuple_lt (PySem.F.args_tuple_lt_2 _ _) (PySem.SeqAt.tuple_ltAt l b xs ys n1 n2 d1 d2 s1 s2 e r) ⟨o1, o2, he, hr, h⟩
theorem one_tups {xs ys : List PyData} {a b : Value} {as bs : List Addr} {Q : Bool → Shared → Prop} (ra : Reads s.heap a (.tuple xs) as) (rb : Reads s.heap b (.tuple ys) bs) (h : PySem.W.alikeAll xs ys = true)
    (hu : A.units + min (PyData.tuple xs).depth (PyData.tuple ys).depth < cLine) (hq : Q (dataLt (.tuple xs) (.tuple ys)) s) : wpAny (model prog w) A (oneLt' true a b) Q E s := by
  cases ra with
  | @tuple l o vs n _ as1 p1 p2 p3 p4 =>
    cases rb with
    | @tuple l' o' vs' n' _ bs1 q1 q2 q3 q4 =>
      have m1 : vs.size = xs.length := by simpa using PySem.SeqAt.ReadsAll.length _ _ _ p4
      have m2 : vs'.size = ys.length := by simpa using PySem.SeqAt.ReadsAll.length _ _ _ q4
      rw [PySem.W.dataLt_tuple, ← PySem.W.firstLt_toks xs ys h, ← m1, ← m2] at hq
      rw [oneLt'_eq]
      simp only [if_true]
      refine wpAny_bind (wpAny_cRoomFor (by
        have hp : 0 < min (PyData.tuple xs).depth (PyData.tuple ys).depth := by
          show 0 < min (PyData.depthAll xs + 1) (PyData.depthAll ys + 1)
          omega
        omega) ?_)
      have inR := PySem.SeqAt.room_in hu
      refine wpAny_bind (wpAny_callSpecialIfBound?_slot (T := "tuple") ⟨_, p1, p2⟩ PySem.F.slot_tuple_lt (tup_lt (e := PySem.SeqAt.pairEq xs ys) (r := fun j => dataLt (xs.getD j .none) (ys.getD j .none)) ⟨_, p1, p2, _, p3⟩ ⟨_, q1, q2, _, q3⟩ (fun j i1 i2 => ?_) (fun j i1 i2 i3 => ?_) ?_))
      · have z := PySem.W.eqAt_alikeAll xs ys A.in1 s vs.toList vs'.toList _ _ p4 q4 h inR j (by simpa using i1) (by simpa using i2)
        simpa using z
      · have z := PySem.W.rcLt_alikeAll xs ys A.in1 s vs.toList vs'.toList _ _ p4 q4 h inR j (by simpa using i1) (by simpa using i2) i3
        simpa using z
      · exact wpAny_truthy_bool hq
/-- what the first items are -/
theorem firsts_ofE : ∀ (vs : List Value) (ds : List PyData), EachIs (fun v d => ∃ as, Reads s.heap v d as) vs ds → (∀ d ∈ ds, ∃ xs, d = .tuple xs) → ∃ rs : List (Option Value), (∀ ds' : List PyData, ds = .tuple [] :: ds' → rs.head? = some none) ∧ ∀ Q : List (Option Value) → Shared → Prop, Q rs s → wpAny (model prog w) A (vs.mapM firstOfTuple') Q E s
  | _, _, .nil, _ => ⟨[], fun _ z => (by cases z), fun Q h => by rw [List.mapM_nil]; exact wpAny_pure h⟩
  | _, _, .cons (a := v) (as := vs) (b := d) (bs := ds) ⟨as, r⟩ t, ht => by
    obtain ⟨rs, _, hrs⟩ := firsts_ofE vs ds t fun d m => ht d (List.mem_cons_of_mem _ m)
    obtain ⟨xs, rfl⟩ := ht d List.mem_cons_self
    cases r with
    | @tuple l o us n _ _ p1 p2 p3 p4 =>
      refine ⟨us[0]? :: rs, fun ds' z => ?_, fun Q h => ?_⟩
      · cases z
        have : us.toList.length = 0 := PySem.SeqAt.ReadsAll.length _ _ _ p4
        have e : us.size = 0 := by simpa using this
        rw [List.head?_cons, Array.getElem?_eq_none (by omega)]
      · rw [List.mapM_cons]
        refine wpAny_bind ?_
        rw [PySem.W.kas_first_eq]
        have tl : PySem.W.Looks (model prog w) s.heap (typeOf (.ref l)) (.type "tuple") := PySem.W.looks_reads (Reads.tuple p1 p2 p3 p4)
        refine wpAny_bind (tl.here ?_)
        rw [if_neg (by simp)]
        refine wpAny_bind (listItems_at p1 p3 (wpAny_pure ?_))
        exact wpAny_bind (hrs (fun bs s' => wpAny (model prog w) A (pure (us[0]? :: bs)) Q E s') (wpAny_pure h))
theorem sortsE {vs : List Value} {ds : List PyData} (e : EachIs (fun v d => ∃ as, Reads s.heap v d as) vs ds) (hal : AllAlike ds) (ht : TupE ds) (hu : ∀ d, d ∈ ds → A.units + d.depth < cLine) : SortsAt prog w A s (dataKind s.heap ds) vs := by
  have tp : ∀ d ∈ ds, ∃ xs, d = .tuple xs := by
    obtain ⟨rest, rfl, hr⟩ := ht
    intro d m
    rcases List.mem_cons.mp m with rfl | m
    · exact ⟨[], rfl⟩
    · exact hr d m
  refine ⟨fun v hv => ?_, oneType', ?_, fun h2 E Q hq => ?_⟩
  · obtain ⟨d, hd, as, r⟩ := e.left v hv
    exact ⟨_, PySem.W.dataKind_some hal hd r⟩
  · intro E x y a b Q ha hb hq
    obtain ⟨d, as, hd, ra, rfl⟩ := PySem.W.dataKind_inv ha
    obtain ⟨d', as', hd', rb, rfl⟩ := PySem.W.dataKind_inv hb
    obtain ⟨xs, rfl⟩ := tp d hd
    obtain ⟨ys, rfl⟩ := tp d' hd'
    rw [keyLt'_oneType]
    have al : PySem.W.alikeAll xs ys = true := by simpa [PySem.W.alike] using hal _ hd _ hd'
    have u1 := hu _ hd
    exact one_tups ra rb al (by omega) hq
  · obtain ⟨rest, er, _⟩ := ht
    obtain ⟨rs, hd, hrs⟩ := firsts_ofE (prog := prog) (w := w) (A := A) (E := E) vs ds e tp
    have h0 := hd rest er
    obtain ⟨rr, rfl⟩ : ∃ rr, rs = none :: rr := by
      cases rs with
      | nil => cases h0
      | cons a rr =>
        have : a = none := by simpa using h0
        exact ⟨rr, by rw [this]⟩
    obtain ⟨v1, v2, vr, rfl⟩ : ∃ v1 v2 vr, vs = v1 :: v2 :: vr := by
      match vs, h2 with
      | [], h2 => simp at h2
      | [_], h2 => simp at h2
      | v1 :: v2 :: vr, _ => exact ⟨v1, v2, vr, rfl⟩
    have tyT : ∀ v ∈ v1 :: v2 :: vr, PySem.W.Looks (model prog w) s.heap (typeOf v) (.type "tuple") := fun v hv => by
      obtain ⟨d, hd, as, r⟩ := e.left v hv
      obtain ⟨xs, rfl⟩ := tp d hd
      exact PySem.W.looks_reads r
    rw [keyKind'_eq, List.mapM_toArray, map_eq_pure_bind]
    refine wpAny_bind (wpAny_bind (hrs _ (wpAny_pure ?_)))
    rw [if_neg (by simp), if_neg (by simp)]
    rw [oneTypeOnly'_eq, List.mapM_toArray, map_eq_pure_bind]
    refine wpAny_bind (wpAny_bind (wpAny_bind (PySem.W.kas_mapM (r := Value.type "tuple") _ (fun v hv Q' hq => (tyT v hv).here hq) (wpAny_pure ?_))))
    have all : ((List.map (fun _ => Value.type "tuple") (v1 :: v2 :: vr)).toArray.all fun x => x == Value.type "tuple") = true := by
      simp only [List.all_toArray, List.all_map, List.all_eq_true]
      intro _ _
      rfl
    have at0 : (List.map (fun _ => Value.type "tuple") (v1 :: v2 :: vr)).toArray[0]? = some (Value.type "tuple") := by simp
    rw [at0]
    simp only [all, if_true]
    exact wpAny_pure (wpAny_pure hq)
/-- xs.sort() of alike data: any that are sortable, or tuples of which the first is empty -/
theorem list_sort_dataE {β : Type} {enc : β → PyData} {R : Value → β → Prop} {vs : List Value} {bs : List β} {a : Addr} {n : Nat} {Q : Value → Shared → Prop} (ho : s.heap.get? a = some (seqObj "list" vs.toArray n)) (e : EachIs R vs bs) (er : EachIs (fun v b => ∃ as, Reads s.heap v (enc b) as ∧ a ∉ as) vs bs) (hal : AllAlike (bs.map enc)) (hk : Sortable (bs.map enc) ∨ TupE (bs.map enc)) (hL : bs.length ≤ sizeLine)
    (hu : ∀ b, b ∈ bs → A.units + 1 + (enc b).depth < cLine) (h : ∀ out, out.length = bs.length → EachIs R out (bs.mergeSort (dataLe false enc)) → Q .none { s with heap := sortedHeap s.heap a vs (List.toArray out) }) :
    wpAny (model prog w) A (call (.builtin "list.sort") [.ref a]) Q E s := by
  rcases hk with hk | hk
  · exact PySem.W.list_sort_data ho e er hal hk hL hu h
  · have r2 : EachIs (fun v b => ∃ as, Reads (PySem.W.sortingHeap s.heap a vs) v (enc b) as) vs bs :=
      PySem.W.each_keepBut (h' := PySem.W.sortingHeap s.heap a vs) (fun _ _ nb z => PySem.W.sortingHeap_old nb z) (fun o z => by rw [ho] at z; cases z; rfl) hal er
    have so : SortsAt prog w A.in1 { s with heap := PySem.W.sortingHeap s.heap a vs } (dataKind (PySem.W.sortingHeap s.heap a vs) (bs.map enc)) vs :=
      sortsE (s := { s with heap := PySem.W.sortingHeap s.heap a vs }) (PySem.W.each_map (R := fun v d => ∃ as, Reads (PySem.W.sortingHeap s.heap a vs) v d as) enc r2) hal hk (fun d m => by
        obtain ⟨b, hb, rfl⟩ := List.mem_map.mp m
        exact hu b hb)
    refine wpAny_call_entry slot_list_sort ⟨_, ho, rfl⟩ entry_list_sort ?_ (args_list_sort _)
    refine PySem.W.list_sort_vals ho so (by rw [e.length]; exact hL) ⟨.none, rfl, ?_⟩
    refine h _ ?_ (PySem.W.sortVals_data false e r2 hal)
    rw [PySem.W.sortVals_length false rfl]
    exact e.length
end
end Sm

/-! A dict's entries by values; sorted of them. -/
namespace Sm
open PySem PySem.Spec L2
open PySem.W (AllAlike Sortable dataLe EachIs)
/-- what sorted may be asked of -/
def sortsOk (ds : List PyData) : Prop := AllAlike ds ∧ Sortable ds ∧ PyData.hasDictAll ds = false ∧ (∀ d ∈ ds, d.depth ≤ 60)
/-- .. of a dict: an empty tuple may be first -/
def sortsOkE (ds : List PyData) : Prop := AllAlike ds ∧ (Sortable ds ∨ TupE ds) ∧ PyData.hasDictAll ds = false ∧ (∀ d ∈ ds, d.depth ≤ 60)
mutual
theorem reads_there {h : Heap} : ∀ (d : PyData) (v : Value) (as : List Addr), Reads h v d as → ∀ b ∈ as, ∃ o, h.get? b = some o
  | .list xs, _, _, .list (as := as) h1 _ _ r, b, m => by
    rcases List.mem_cons.mp m with rfl | m
    · exact ⟨_, h1⟩
    · exact readsAll_there xs _ _ r b m
  | .tuple xs, _, _, .tuple _ _ _ r, b, m => readsAll_there xs _ _ r b m
  | .dict kvs, _, _, .dict h1 h2 h3 r1 r2, b, m => by
    rcases List.mem_append.mp m with m | m
    · rcases List.mem_cons.mp m with rfl | m
      · exact ⟨_, h1⟩
      · exact keys_there kvs _ _ r1 b m
    · exact vals_there kvs _ _ r2 b m
  | .none, _, _, .none, _, m => (by cases m)
  | .bool _, _, _, .bool _, _, m => (by cases m)
  | .int _, _, _, .int _ _, _, m => (by cases m)
  | .str _, _, _, .str _ _, _, m => (by cases m)
theorem readsAll_there {h : Heap} : ∀ (ds : List PyData) (vs : List Value) (as : List Addr), ReadsAll h vs ds as → ∀ b ∈ as, ∃ o, h.get? b = some o
  | [], _, _, .nil, _, m => (by cases m)
  | d :: ds, _, _, .cons r1 r2, b, m => by
    rcases List.mem_append.mp m with m | m
    · exact reads_there d _ _ r1 b m
    · exact readsAll_there ds _ _ r2 b m
theorem keys_there {h : Heap} : ∀ (ds : List (PyData × PyData)) (vs : List Value) (as : List Addr), ReadsAll h vs (ds.map (·.1)) as → ∀ b ∈ as, ∃ o, h.get? b = some o
  | [], _, _, .nil, _, m => (by cases m)
  | (d, _) :: ds, _, _, .cons r1 r2, b, m => by
    rcases List.mem_append.mp m with m | m
    · exact reads_there d _ _ r1 b m
    · exact keys_there ds _ _ r2 b m
theorem vals_there {h : Heap} : ∀ (ds : List (PyData × PyData)) (vs : List Value) (as : List Addr), ReadsAll h vs (ds.map (·.2)) as → ∀ b ∈ as, ∃ o, h.get? b = some o
  | [], _, _, .nil, _, m => (by cases m)
  | (_, d) :: ds, _, _, .cons r1 r2, b, m => by
    rcases List.mem_append.mp m with m | m
    · exact reads_there d _ _ r1 b m
    · exact vals_there ds _ _ r2 b m
end
section
variable {prog : Program} {w : World}
/-- a dict's keys as list() or sorted() walk them, whatever they are -/
theorem kdl_raw {d : Addr} {es : Array DictEntry} {ep : Nat} (lo : (d == sysModules) = false) : PySem.W.KdlSrc prog w "dict" d d es.size (fun i v => ∃ e, es[i]? = some e ∧ v = e.key) (fun h => DT.Raw h d es ep) where
  type := fun _ hm => hm.typeIs
  there := fun _ hm => ⟨hm.lt, hm.lt⟩
  keep := fun _ _ hm hk => hm.at' fun o e => hk d (.inl rfl) o e
  notList := by decide
  notTuple := by decide
  hint := fun _ _ _ _ hm hq => PySem.W.kdl_hint_dict hm.typeIs hq
  iter := fun A s hh hm => by
    obtain ⟨o, ho, hx, hd⟩ := id hm
    have hne : d ≠ s.heap.objs.size := Nat.ne_of_lt hm.lt
    refine ⟨{ cls := .type "dict_keyiterator", data := .fields #[.ref d, .int 0 0, .int es.size 0, .int ep 0] }, fun i h => h.IsKeyIter s.heap.objs.size d i es.size ep ∧ DT.Raw h d es ep, fun E Q hq => iter_keys lo ho hx hd hq, ?_, ⟨⟨_, Heap.get?_push_size _ rfl, rfl, rfl⟩, hm.push _⟩⟩
    refine ⟨fun b hb => by simp at hb; simp [hb], fun _ _ _ st hk => ⟨st.1.at fun o e => hk _ (by simp) o e, st.2.at' fun o e => hk d (by simp) o e⟩, fun i s2 Q E hi st hQ => ?_, fun s2 Q E st hQ => ?_, fun _ _ _ _ st hQ => wpAny_pyIter_keyiter st.1 hQ⟩
    · obtain ⟨o2, ho2, hx2, hd2⟩ := id st.2
      refine next_key_item (en := es[i]) st.1 ho2 hd2 rfl (by rw [Array.getElem?_eq_getElem hi]) fun h' hit' hs' => ?_
      exact hQ _ h' s2.toks ⟨es[i], by rw [Array.getElem?_eq_getElem hi], rfl⟩ ⟨hit', st.2.at' fun o e => hs'.extBut d o hne e⟩ fun b o hb e => hs'.extBut b o (fun h => hb (by simp [h])) e
    · obtain ⟨o2, ho2, hx2, hd2⟩ := id st.2
      exact next_key_end hh st.1 ho2 hd2 rfl (Nat.le_refl _) fun h' he' => hQ h' s2.toks fun b o hb e => he' b o (fun h => hb (by simp [h])) e
end
def isIntD : PyData → Bool
  | .int _ => true
  | _ => false
/-- a key that is an int or a tuple of ints -/
def isKeyI : PyData → Bool
  | .int _ => true
  | .tuple ds => ds.all isIntD
  | _ => false
theorem keys_int : ∀ {k : List Key}, (k.map keyD).all isIntD = true → ∃ ns : List Int, k = ns.map Sum.inl
  | [], _ => ⟨[], rfl⟩
  | .inl i :: k, h => by
    rw [List.map_cons, List.all_cons, Bool.and_eq_true] at h
    obtain ⟨ns, rfl⟩ := keys_int (k := k) h.2
    exact ⟨i :: ns, rfl⟩
  | .inr x :: k, h => by
    rw [List.map_cons, List.all_cons, Bool.and_eq_true] at h
    exact nomatch h.1
theorem rpAll_keys {H : Hp} : ∀ ns : List Int, RpAll H ((ns.map (Sum.inl : Int → Key)).map kV) ((ns.map (Sum.inl : Int → Key)).map keyD)
  | [] => .nil
  | i :: ns => .cons (.int i) (rpAll_keys ns)
theorem RpAll.get2 {H : Hp} : ∀ {vs : List V} {ds : List PyData}, RpAll H vs ds → vs.length = ds.length
  | _, _, .nil => rfl
  | _, _, .cons _ t => by simp [RpAll.get2 t]
section
variable {X : Cx} {pn : List (Addr × Obj)} {sg : L2.St} {H : Hp} {s : Shared} {A : List Addr} {a : Addr} {kvs : List (PyData × PyData)}
theorem ksV : ∀ {ks : List (Key × V)} {kvs : List (PyData × PyData)}, RpKs H ks kvs → kvs.all (fun p => isKeyI p.1) = true → RpAll H (ks.map fun p => kV p.1) (kvs.map (·.1)) ∧ RpAll H (ks.map (·.2)) (kvs.map (·.2))
  | _, _, .nil, _ => ⟨.nil, .nil⟩
  | _, _, .cons (k := k) r t, h => by
    rw [List.all_cons, Bool.and_eq_true] at h
    obtain ⟨a, b⟩ := ksV t h.2
    cases k with
    | inl i => exact ⟨.cons (.int i) a, .cons r b⟩
    | inr x => exact nomatch h.1
theorem tsV (I : Inv X pn sg H s) (dom : Dom A H) : ∀ {ks : List (List Key × V)} {kvs : List (PyData × PyData)} {xs : List (List Key × Addr × Value)}, RpTs (Hide A H) ks kvs → KT H ks xs → kvs.all (fun p => isKeyI p.1) = true →
    RpAll (Hide A H) (xs.map fun x => V.ref x.2.1) (kvs.map (·.1)) ∧ RpAll (Hide A H) (ks.map (·.2)) (kvs.map (·.2))
  | _, _, _, .nil, .nil, _ => ⟨.nil, .nil⟩
  | _, _, _, .cons (k := k) r t, .cons h1 h2, h => by
    rw [List.all_cons, Bool.and_eq_true] at h
    obtain ⟨p, q⟩ := tsV I dom t h2 h.2
    obtain ⟨e1, e2, e3⟩ := h1
    obtain ⟨ns, rfl⟩ := keys_int (k := k) h.1
    refine ⟨.cons ?_ p, .cons r q⟩
    have nA : ∀ {b : Addr} {vs : List V}, H b = some (.tup vs) → b ∉ A := fun e m => by
      obtain ⟨⟨o, ho⟩, eo⟩ := dom _ m
      rw [e] at eo
      exact ho _ (Option.some.inj eo).symm
    have z := (I.hok _ _ e2)
    have z' : ((ns.map (Sum.inl : Int → Key)).map kV).length ≤ sizeLine := z.1
    exact .tup (by rw [hide_out (nA e2)]; exact e2) z' (rpAll_keys ns)
theorem pairs_at {prog : Program} {w : World} {K : Type} [DecidableEq K] {knd : KeyKind prog w K} : ∀ {es : List DictEntry} {kvs : List (K × Value)}, Pairs knd es kvs → ∀ (j : Nat) (e : DictEntry), es[j]? = some e → ∃ kv, kvs[j]? = some kv ∧ knd.is kv.1 e.key = true ∧ e.val = kv.2
  | _, _, .nil, j, e, h => by simp at h
  | _, _, .cons h1 h2 t, 0, e, h => by
    cases h
    exact ⟨_, rfl, h1, h2⟩
  | _, _, .cons h1 h2 t, j + 1, e, h => by
    obtain ⟨kv, a, b⟩ := pairs_at t j e (by simpa using h)
    exact ⟨kv, by simpa using a, b⟩
theorem pairs_len {prog : Program} {w : World} {K : Type} [DecidableEq K] {knd : KeyKind prog w K} : ∀ {es : List DictEntry} {kvs : List (K × Value)}, Pairs knd es kvs → es.length = kvs.length
  | _, _, .nil => rfl
  | _, _, .cons _ _ t => by simp [pairs_len t]
/-- a dict of such keys, as the heap has it -/
theorem raw_dict (I : Inv X pn sg H s) (dom : Dom A H) (h : (∃ ks, Rd H a (.dK ks) ∧ RpKs (Hide A H) ks kvs) ∨ (∃ ks, Rd H a (.dT ks) ∧ ks ≠ [] ∧ RpTs (Hide A H) ks kvs)) (ok : kvs.all (fun p => isKeyI p.1) = true) :
    ∃ (es : Array DictEntry) (ep : Nat), (a == sysModules) = false ∧ DT.Raw s.heap a es ep ∧ es.size = kvs.length ∧ kvs.length ≤ sizeLine ∧ ∃ w1 w2 : List V, RpAll (Hide A H) w1 (kvs.map (·.1)) ∧ RpAll (Hide A H) w2 (kvs.map (·.2)) ∧
      ∀ (j : Nat) (e : DictEntry), es[j]? = some e → ∃ x y, w1[j]? = some x ∧ w2[j]? = some y ∧ RelV x e.key ∧ RelV y e.val := by
  rcases h with ⟨ks, hd, r⟩ | ⟨ks, hd, _, r⟩
  · obtain ⟨z, lo, vs, rel, dd⟩ := dk_rd I.hok hd
    obtain ⟨o, es, ep, ho, hx, hdat, _, prs, _⟩ := dd
    obtain ⟨r1, r2⟩ := ksV r ok
    have l1 : es.size = vs.length := by rw [← Array.length_toList]; exact pairs_len prs
    have l2 : ks.length = vs.length := Paired.length rel
    have l3 := RpKs.len r
    refine ⟨es, ep, lo, ⟨o, ho, hx, hdat⟩, by omega, by omega, _, _, r1, r2, fun j e he => ?_⟩
    obtain ⟨kv, e1, e2, e3⟩ := pairs_at prs j e (by rw [Array.getElem?_toList]; exact he)
    have hj : j < ks.length := by
      have := (List.getElem?_eq_some_iff.mp e1).1
      omega
    obtain ⟨u, h1, h2⟩ := kv_get rel (i := j) (k := ks[j].1) (v := ks[j].2) (List.getElem?_eq_getElem hj)
    rw [e1] at h1
    cases h1
    refine ⟨kV ks[j].1, ks[j].2, by rw [List.getElem?_map, List.getElem?_eq_getElem hj]; rfl, by rw [List.getElem?_map, List.getElem?_eq_getElem hj]; rfl, relV_key e2, ?_⟩
    rw [e3]
    exact h2
  · obtain ⟨z, lo, xs, rel, o, es, ep, ho, hx, hdat, hes, his, hn⟩ := dt_rd I.hok hd
    obtain ⟨r1, r2⟩ := tsV I dom r rel ok
    have l1 : es.size = xs.length := size_of_entries hes
    have l2 : ks.length = xs.length := Paired.length rel
    have l3 := RpTs.len r
    refine ⟨es, ep, lo, ⟨o, ho, hx, hdat⟩, by omega, by omega, _, _, r1, r2, fun j e he => ?_⟩
    rw [entry_at hes j] at he
    cases hxj : xs[j]? with
    | none => rw [hxj] at he; cases he
    | some x =>
      rw [hxj] at he
      have hj : j < ks.length := by
        have := (List.getElem?_eq_some_iff.mp hxj).1
        omega
      obtain ⟨y, h1, h2, h3, h4⟩ := paired_get rel (List.getElem?_eq_getElem hj)
      rw [hxj] at h1
      cases h1
      cases he
      exact ⟨V.ref x.2.1, ks[j].2, by rw [List.getElem?_map, hxj]; rfl, by rw [List.getElem?_map, List.getElem?_eq_getElem hj]; rfl, (show RelV (V.ref x.2.1) (Value.ref x.2.1) from rfl), h4⟩
end
theorem vals_at : ∀ {ws : List V} {us : List Value}, us.length = ws.length → (∀ (j : Nat) (v : Value), us[j]? = some v → ∃ x, ws[j]? = some x ∧ RelV x v) → Vals ws us
  | [], [], _, _ => .nil
  | w :: ws, u :: us, hl, h => by
    obtain ⟨x, e, r⟩ := h 0 u rfl
    cases e
    exact .cons r (vals_at (by simpa using hl) fun j v e => by
      obtain ⟨x, a, b⟩ := h (j + 1) v (by simpa using e)
      exact ⟨x, by simpa using a, b⟩)
  | [], _ :: _, hl, _ => by simp at hl
  | _ :: _, [], hl, _ => by simp at hl
section
variable {X : Cx} {pn : List (Addr × Obj)} {sg : L2.St} {H : Hp} {A : List Addr}
theorem each_rp {hp : Hp} {st : Shared} (inv : Inv X pn sg hp st) {H : Hp} (le : Same H hp) : ∀ {ws : List V} {its : List Value} {ds : List PyData}, Vals ws its → RpAll H ws ds → PyData.hasDictAll ds = false →
    EachIs (fun (v : Value) (b : V × PyData) => RelV b.1 v ∧ Rp H b.1 b.2) its (ws.zip ds) ∧ EachIs (fun (v : Value) (b : V × PyData) => ∃ as, Reads st.heap v b.2 as) its (ws.zip ds)
  | [], _, _, r, ra, _ => by
    cases r
    cases ra
    exact ⟨.nil, .nil⟩
  | w :: ws, _, _, r, ra, nd => by
    cases ra with
    | @cons _ _ d ds h1 h2 =>
      cases r with
      | cons r1 r2 =>
        have nd' : (d.hasDict || PyData.hasDictAll ds) = false := nd
        rw [Bool.or_eq_false_iff] at nd'
        obtain ⟨a, b⟩ := each_rp inv le r2 h2 nd'.2
        exact ⟨.cons ⟨r1, h1⟩ a, .cons (Dp.reads inv d w _ (Rp.dp X.K d w (h1.mono le) nd'.1) r1) b⟩
theorem each_back {H : Hp} : ∀ {out : List Value} {l : List (V × PyData)}, EachIs (fun (v : Value) (b : V × PyData) => RelV b.1 v ∧ Rp H b.1 b.2) out l → Vals (l.map (·.1)) out ∧ RpAll H (l.map (·.1)) (l.map (·.2))
  | _, _, .nil => ⟨.nil, .nil⟩
  | _, _, .cons h t => ⟨.cons h.1 (each_back t).1, .cons h.2 (each_back t).2⟩
/-- the new list of us is sorted -/
theorem sort_tail {s : Shared} {h' : Heap} {tk : Nat} {us : List Value} {ws : List V} {ds : List PyData} {kp : Bool} {Q : VK} {E : Value → Shared → Prop} (hu : X.A.units + 65 < cLine) (I1 : Inv X pn sg H { s with heap := h', toks := tk }) (dm : Dom A H) (v : Vals ws us) (ra : RpAll (Hide A H) ws ds) (ok : sortsOkE ds) (hz : ds.length ≤ sizeLine)
    (q : ∀ v H', Same H H' → Res A kp true H H' v (.list (ds.mergeSort (dataLe false id))) → Q v H') :
    wpAny (model X.prog X.w) X.A.in1 (call (.builtin "list.sort") [.ref h'.objs.size]) (fun _ s' => EP X pn sg Q (.ref h'.objs.size) s') E { s with heap := h'.push { cls := .type "list", data := .seq us.toArray }, toks := tk } := by
  obtain ⟨o1, o2, o3, o4⟩ := ok
  obtain ⟨e1, e2⟩ := each_rp I1 hide_le v ra o3
  have hzip : (ws.zip ds).map (·.2) = ds := by
    rw [List.map_snd_zip]
    rw [ra.len]
    exact Nat.le_refl _
  have hlen : (ws.zip ds).length = ds.length := by rw [List.length_zip, ra.len, Nat.min_self]
  have ho : (h'.push { cls := .type "list", data := .seq us.toArray }).get? h'.objs.size = some (PyProof.Rows.seqObj "list" us.toArray 0) := Heap.get?_push_size _ rfl
  have er : EachIs (fun (v : Value) (b : V × PyData) => ∃ as, Reads (h'.push { cls := .type "list", data := .seq us.toArray }) v b.2 as ∧ h'.objs.size ∉ as) us (ws.zip ds) := e2.mono fun v b ⟨as, r⟩ => ⟨as, PyProof.Rows.Reads.keeps (fun _ _ z => Heap.get?_push_of_some _ z) r, fun m => by
    obtain ⟨o, z⟩ := reads_there _ _ _ r _ m
    exact Nat.lt_irrefl _ (Heap.lt_size z)⟩
  refine list_sort_dataE (A := X.A.in1) (enc := fun b : V × PyData => b.2) (s := { s with heap := h'.push { cls := .type "list", data := .seq us.toArray }, toks := tk }) ho e1 er (by rw [hzip]; exact o1) (by rw [hzip]; exact o2) (by rw [hlen]; exact hz) (fun b hb => ?_) (fun out hout eo => ?_)
  · have := o4 b.2 (by rw [← hzip]; exact List.mem_map.mpr ⟨b, hb, rfl⟩)
    show X.A.units + 1 + 1 + b.2.depth < cLine
    omega
  · obtain ⟨vo, ro⟩ := each_back eo
    have es : ((ws.zip ds).mergeSort (dataLe false fun b : V × PyData => b.2)).map (·.2) = ds.mergeSort (dataLe false id) :=
      (List.map_mergeSort (r := dataLe false fun b : V × PyData => b.2) (s := dataLe false id) (f := fun b : V × PyData => b.2) (l := ws.zip ds) (fun _ _ _ _ => rfl)).trans (by rw [hzip])
    have hl2 : (((ws.zip ds).mergeSort (dataLe false fun b : V × PyData => b.2)).map (·.1)).length ≤ sizeLine := by
      rw [List.length_map, List.length_mergeSort, hlen]
      exact hz
    obtain ⟨c, hc⟩ := PyProof.Rows.sortedHeap_at (vs := us) (out := out.toArray) ho
    have np : H h'.objs.size = none := I1.hok.fresh (Nat.le_refl _)
    have J : Inv X pn sg (upd H h'.objs.size (.lst (((ws.zip ds).mergeSort (dataLe false fun b : V × PyData => b.2)).map (·.1)))) { s with heap := PyProof.Rows.sortedHeap (h'.push { cls := .type "list", data := .seq us.toArray }) h'.objs.size us out.toArray, toks := tk } :=
      I1.laid (t' := tk) (fun b u e => by
        have hb : b < h'.objs.size := Heap.lt_size e
        rw [PyProof.Rows.sortedHeap_old (Nat.ne_of_lt hb) (Heap.lt_size (Heap.get?_push_of_some _ e))]
        exact Heap.get?_push_of_some _ e) (Nat.le_refl _) ⟨hl2, out, c, vo, hc⟩
    rw [es] at ro
    exact ⟨.ref h'.objs.size, _, J, rfl, q _ _ (same_new np) (Res.newL dm ro hl2 np (Same.refl _))⟩
/-- sorted(d) -/
theorem sorted_keys (hc : X.calm = true) (hu : X.A.units + 65 < cLine) {s : Shared} {a : Addr} {kvs : List (PyData × PyData)} {kp : Bool} {Q : VK} (I : Inv X pn sg H s) (dm : Dom A H) (h : (∃ ks, Rd H a (.dK ks) ∧ RpKs (Hide A H) ks kvs) ∨ (∃ ks, Rd H a (.dT ks) ∧ ks ≠ [] ∧ RpTs (Hide A H) ks kvs)) (ok : kvs.all (fun p => isKeyI p.1) = true)
    (so : sortsOkE (kvs.map (·.1))) (q : ∀ v H', Same H H' → Res A kp true H H' v (.list ((kvs.map (·.1)).mergeSort (dataLe false id))) → Q v H') : wpAny (model X.prog X.w) X.A (call (.builtin "sorted") [.ref a]) (EP X pn sg Q) X.xe s := by
  obtain ⟨es, ep, lo, raw, hsz, hz, w1, w2, r1, r2, ent⟩ := raw_dict I dm h ok
  refine Calls.call_function_entry PyProof.Rows.kind_sorted PyProof.Rows.plain_sorted PyProof.Rows.entry_sorted (PyProof.Rows.args_sorted1 _) ?_
  unfold Builtin.«sorted»
  refine wpAny_bind (m := checkCount "sorted" 1 1 _) (wpAny_pure ?_)
  refine wpAny_bind (PySem.W.kdu_collect (A := X.A.in1) (kdl_raw lo) (I.ok.hd hc) raw (by omega) fun h' tk acc hk hacc => ?_)
  have I1 : Inv X pn sg H { s with heap := h', toks := tk } := I.kept hk
  have l1 : w1.length = kvs.length := by rw [r1.len, List.length_map]
  have hv : Vals w1 acc.toList := vals_at (by rw [Array.length_toList, hacc.1, l1, hsz]) fun j v e => by
    obtain ⟨en, e1, rfl⟩ := hacc.2 j v (by rw [← Array.getElem?_toList]; exact e)
    obtain ⟨x, y, h1, _, h2, _⟩ := ent j en e1
    exact ⟨x, h1, h2⟩
  refine wpAny_bind (wpAny_newList ?_ (by rw [Array.length_toList, hacc.1, hsz]; exact hz))
  have hg := sort_tail (s := s) (h' := h') (tk := tk) (kp := kp) (Q := Q) (E := X.xe) hu I1 dm hv r1 so (by rw [List.length_map]; exact hz) q
  refine wpAny_bind (wpAny_holding (wpAny_mono hg (fun _ s' x => ?_) fun _ _ e => e))
  exact wpAny_pure ⟨_, rfl, x⟩
end
def dItems (kvs : List (PyData × PyData)) : List PyData := kvs.map fun p => .tuple [p.1, p.2]
section
variable {X : Cx} {pn : List (Addr × Obj)} {sg : L2.St} {H : Hp} {A : List Addr}
abbrev IsDi (A : List Addr) (H : Hp) (a : Addr) (kvs : List (PyData × PyData)) : Prop := (∃ ks, Rd H a (.dK ks) ∧ RpKs (Hide A H) ks kvs) ∨ (∃ ks, Rd H a (.dT ks) ∧ ks ≠ [] ∧ RpTs (Hide A H) ks kvs)
theorem pairs_rp {H2 : Hp} : ∀ {as : List Addr} {w1 w2 : List V} {kvs : List (PyData × PyData)}, as.length = kvs.length → RpAll H2 w1 (kvs.map (·.1)) → RpAll H2 w2 (kvs.map (·.2)) → (∀ (j : Nat) (b : Addr), as[j]? = some b → ∃ x y, w1[j]? = some x ∧ w2[j]? = some y ∧ H2 b = some (.tup [x, y])) → RpAll H2 (as.map V.ref) (dItems kvs)
  | [], _, _, [], _, _, _, _ => .nil
  | a :: as, _, _, p :: kvs, hl, .cons r1 t1, .cons r2 t2, h => by
    obtain ⟨x, y, e1, e2, e3⟩ := h 0 a rfl
    cases e1
    cases e2
    exact .cons (.tup e3 (by rw [sizeLine_eq]; show 2 ≤ 16777216; omega) (.cons r1 (.cons r2 .nil))) (pairs_rp (by simpa using hl) t1 t2 fun j b hb => h (j + 1) b (by simpa using hb))
  | [], _, _, _ :: _, hl, _, _, _ => by simp at hl
  | _ :: _, _, _, [], hl, _, _, _ => by simp at hl
theorem vals_refs : ∀ as : List Addr, Vals (as.map V.ref) (as.map Value.ref)
  | [] => .nil
  | _ :: as => .cons rfl (vals_refs as)
/-- sorted(d.items()) -/
theorem sorted_items (hc : X.calm = true) (hu : X.A.units + 65 < cLine) {s : Shared} {p a : Addr} {kvs : List (PyData × PyData)} {kp : Bool} {Q : VK} (I : Inv X pn sg H s) (dm : Dom A H) (hp : H p = some (DX.itemsO p a)) (h : IsDi A H a kvs) (ok : kvs.all (fun p => isKeyI p.1) = true)
    (so : sortsOkE (dItems kvs)) (q : ∀ v H', Same H H' → Res A kp true H H' v (.list ((dItems kvs).mergeSort (dataLe false id))) → Q v H') : wpAny (model X.prog X.w) X.A (call (.builtin "sorted") [.ref p]) (EP X pn sg Q) X.xe s := by
  obtain ⟨es, ep, lo, raw, hsz, hz, w1, w2, r1, r2, ent⟩ := raw_dict I dm h ok
  have view : s.heap.IsItemsView p a := (show ObjOk X.prog X.w H s.heap p (DX.itemsO p a) from I.hok p _ hp).1
  refine DT.sortedI (es := es) (ep := ep) (I.ok.hd hc) view raw (by omega) fun h' tk as hk hlt hl hG => ?_
  have I1 : Inv X pn sg H { s with heap := h', toks := tk } := I.kept hk
  have nd : as.Nodup := List.Pairwise.imp (fun h => Nat.ne_of_lt h) hG.rise
  obtain ⟨H2, I2, g, qt⟩ := DX.takeT (P := fun b vs => ∃ (j : Nat) (x y : V), as[j]? = some b ∧ w1[j]? = some x ∧ w2[j]? = some y ∧ vs = [x, y]) I as H I1 nd fun b hb => by
    obtain ⟨j, hj⟩ := List.mem_iff_getElem?.mp hb
    obtain ⟨e, he, hg⟩ := hG.pairs j b hj
    obtain ⟨x, y, h1, h2, h3, h4⟩ := ent j e he
    have hbl : s.heap.objs.size ≤ b := Nat.le_of_lt (hG.above b hb)
    exact ⟨hbl, I.hok.fresh hbl, [x, y], ⟨j, x, y, hj, h1, h2, rfl⟩, fun H3 => ⟨(by rw [sizeLine_eq]; show 2 ≤ 16777216; omega), [e.key, e.val], .cons h3 (.cons h4 .nil), ⟨_, hg, rfl, 0, rfl⟩⟩⟩
  have sm : Same H H2 := g
  have dm2 : Dom A H2 := fun b m => by obtain ⟨o, e⟩ := dm b m; exact ⟨o, g _ _ e⟩
  have nA : ∀ b ∈ as, b ∉ A := fun b hb m => by
    obtain ⟨o, e⟩ := dm b m
    rw [I.hok.fresh (Nat.le_of_lt (hG.above b hb))] at e
    cases e
  have ra : RpAll (Hide A H2) (as.map V.ref) (dItems kvs) := pairs_rp (by omega) (r1.mono (hide_same sm)) (r2.mono (hide_same sm)) fun j b hj => by
    obtain ⟨vs, ⟨i, x, y, j1, j2, j3, ev⟩, hH⟩ := qt b (List.mem_of_getElem? hj)
    have eij : i = j := (List.getElem?_inj (List.getElem?_eq_some_iff.mp j1).1 nd).mp (j1.trans hj.symm)
    subst eij
    subst ev
    exact ⟨x, y, j2, j3, by rw [hide_out (nA b (List.mem_of_getElem? hj))]; exact hH⟩
  exact sort_tail (s := s) (h' := h') (tk := tk) (kp := kp) hu I2 dm2 (vals_refs as) ra so (by unfold dItems; rw [List.length_map]; exact hz) fun v H' s2 r => q v H' (sm.trans s2) ⟨r.1, fun z => freshUp sm (r.2 z)⟩
theorem mt_itemsG : MtR X "dict.items" (fun x xs H Q => ∃ (a : Addr) (A : List Addr) (kvs : List (PyData × PyData)), x = .ref a ∧ xs = [] ∧ Dom A H ∧ IsDi A H a kvs ∧ kvs.all (fun p => isKeyI p.1) = true ∧ ∀ p, H p = none → Q (.ref p) (upd H p (DX.itemsO p a))) := by
  intro pins s σ H x xs v us Q I rx rxs h
  obtain ⟨a, A, kvs, rfl, rfl, dm, h, ok, q⟩ := h
  cases rx
  cases rxs
  obtain ⟨es, ep, lo, raw, _⟩ := raw_dict I dm h ok
  refine DT.callItems (es := es) (ep := ep) lo raw ?_
  have hf : H s.heap.objs.size = none := I.hok.fresh (Nat.le_refl _)
  exact ⟨.ref s.heap.objs.size, upd H s.heap.objs.size (DX.itemsO s.heap.objs.size a), I.laid (t' := s.toks) (fun b u e => Heap.get?_push_of_some _ e) (Nat.le_refl _) (DX.itemsO_ok (Heap.get?_push_size _ rfl)), rfl, q _ hf⟩
end
end Sm

/-! sorted of a list of data. -/
namespace Sm
open PySem L2
open PySem.W (AllAlike Sortable dataLe EachIs)
open Classical in
noncomputable def dSorted : List PyData → Rs PyData
  | [.list ds] => if sortsOk ds then .ok (.list (ds.mergeSort (dataLe false id))) else .no
  | [.dict kvs] => if kvs.all (fun p => isKeyI p.1) = true ∧ sortsOkE (kvs.map (·.1)) then .ok (.list ((kvs.map (·.1)).mergeSort (dataLe false id))) else .no
  | _ => .no
theorem dSorted_nx (ds : List PyData) (c : Str) (x : PyData) : dSorted ds ≠ .exc c x := by
  unfold dSorted
  split
  · split <;> simp
  · split <;> simp
  · simp
section
variable {X : Cx}
theorem callV_sorted (hc : X.calm = true) (hu : X.A.units + 65 < cLine) : CallR X (.builtin "sorted") (rCall dSorted true) := by
  intro pn st sg hp xs us Z inv r ⟨A, ds, z, dm, h, hf, q⟩
  unfold dSorted at hf
  split at hf
  · rename_i ds
    split at hf
    · rename_i ok
      cases hf
      obtain ⟨o1, o2, o3, o4⟩ := ok
      obtain ⟨v, rfl, hv⟩ := vw1 h
      obtain ⟨a, ws, rfl, ha, hz, ra⟩ := hv.list
      obtain ⟨u, rfl, ru⟩ := vals1 r
      obtain rfl : u = Value.ref a := ru
      obtain ⟨its, rv, pl, _⟩ := inv.list (SqL.of ha)
      obtain ⟨e1, e2⟩ := each_rp inv hide_le rv ra o3
      have hzip : (ws.zip ds).map (·.2) = ds := by
        rw [List.map_snd_zip]
        rw [ra.len]
        exact Nat.le_refl _
      have hlen : (ws.zip ds).length = ws.length := by rw [List.length_zip, ra.len, Nat.min_self]
      refine PySem.W.sorted_data (enc := fun b : V × PyData => b.2) pl.isList e1 e2 (by rw [hzip]; exact o1) (by rw [hzip]; exact o2) (by rw [hlen]; exact hz) (fun b hb => ?_) (fun out ho eo => ?_)
      · have := o4 b.2 (by rw [← hzip]; exact List.mem_map.mpr ⟨b, hb, rfl⟩)
        omega
      · obtain ⟨vo, ro⟩ := each_back eo
        have es : ((ws.zip ds).mergeSort (dataLe false fun b : V × PyData => b.2)).map (·.2) = ds.mergeSort (dataLe false id) :=
          (List.map_mergeSort (r := dataLe false fun b : V × PyData => b.2) (s := dataLe false id) (f := fun b : V × PyData => b.2) (l := ws.zip ds) (fun _ _ _ _ => rfl)).trans (by rw [hzip])
        have hl2 : (((ws.zip ds).mergeSort (dataLe false fun b : V × PyData => b.2)).map (·.1)).length ≤ sizeLine := by
          rw [List.length_map, List.length_mergeSort, hlen]
          exact hz
        obtain ⟨c, hc⟩ := PyProof.Rows.sortedAll_at st.heap its out.toArray
        have np : hp (st.heap.objs.size + 1) = none := inv.hok.fresh (Nat.le_succ _)
        have J : Inv X pn sg (upd hp (st.heap.objs.size + 1) (.lst (((ws.zip ds).mergeSort (dataLe false fun b : V × PyData => b.2)).map (·.1)))) { st with heap := PyProof.Rows.sortedAll st.heap its out.toArray } :=
          inv.laid (t' := st.toks) (fun b o e => PyProof.Rows.sortedAll_old e) (Nat.le_succ _) ⟨hl2, out, c, vo, hc⟩
        rw [es] at ro
        exact ⟨.ref (st.heap.objs.size + 1), _, J, rfl, q _ _ (same_new np) (Res.newL dm ro hl2 np (Same.refl _))⟩
    · cases hf
  · rename_i kvs
    split at hf
    · rename_i ok
      cases hf
      obtain ⟨v, rfl, hv⟩ := vw1 h
      obtain ⟨a, rfl, hd⟩ := hv.dict
      obtain ⟨u, rfl, ru⟩ := vals1 r
      obtain rfl : u = Value.ref a := ru
      exact sorted_keys (kp := true) hc hu inv dm hd ok.1 ok.2 q
    · cases hf
  · cases hf
end
end Sm

namespace Sm
open PySem PySem.Spec PyProof.Rows L2
/-! a op b op' c op'' d -/
def mChain3 (f g h : PyData → PyData → Rs PyData) (a b c e : M) : M := fun ρ => do
  let x ← a ρ
  let y ← b ρ
  let z ← f x y
  match z with
  | .bool true => do
    let w ← c ρ
    let z2 ← g y w
    match z2 with
    | .bool true => do
      let u ← e ρ
      h w u
    | .bool false => okB false
    | _ => .no
  | .bool false => okB false
  | _ => .no
def tChain3 (r r' r'' : R2) (ta tb tc td : TE) : TE := fun σ H Q => ta σ H fun x H1 => tb σ H1 fun y H2 => r x y H2 fun z H3 => ∃ k, z = .bl k ∧
  (if k = true then tc σ H3 fun w' H4 => r' y w' H4 fun z2 H5 => ∃ k2, z2 = .bl k2 ∧ (if k2 = true then td σ H5 fun u H6 => r'' w' u H6 Q else Q (.bl false) H5) else Q (.bl false) H3)
section
variable {X : Cx} {a b c e : Expr} {ta tb tc td : TE} {pos : Pos}
theorem pe_chain3 {op op' op'' : CmpOp} {r r' r'' : R2} (ho : OpR X (compareOp op) r) (ho' : OpR X (compareOp op') r') (ho'' : OpR X (compareOp op'') r'') (ha : PE X a ta) (hb : PE X b tb) (hc : PE X c tc) (hd : PE X e td)
    (hm : lastMarks [op, op', op''] [b, c, e] = false) : PE X (.Compare a [op, op', op''] [b, c, e] pos) (tChain3 r r' r'' ta tb tc td) := by
  refine ⟨fun pins s σ H Q I h => ?_⟩
  refine Compare_chain (thn (ha.run pins s σ H _ I h) fun v s1 ⟨x, H1, I1, r1, q1⟩ => chain_link (thn (hb.run pins s1 σ H1 _ I1 q1) fun u s2 ⟨y, H2, I2, r2, q2⟩ =>
    thn (ho pins s2 σ H2 x y v u _ I2 r1 r2 q2) fun d s3 ⟨z, H3, I3, r3, k, ek, q3⟩ => ?_)) hm
  subst ek
  cases r3
  refine wpAny_truthy_bool ?_
  cases k with
  | false => exact ite_ff ⟨.bl false, H3, I3, rfl, q3⟩
  | true =>
    refine ite_tt (chain_link (thn (hc.run pins s3 σ H3 _ I3 q3) fun w' s4 ⟨z', H4, I4, r4, q4⟩ => thn (ho' pins s4 σ H4 y z' u w' _ I4 r2 r4 q4) fun d' s5 ⟨z2, H5, I5, r5, k2, e2, q5⟩ => ?_))
    subst e2
    cases r5
    refine wpAny_truthy_bool ?_
    cases k2 with
    | false => exact ite_ff ⟨.bl false, H5, I5, rfl, q5⟩
    | true => exact ite_tt (chain_last (thn (hd.run pins s5 σ H5 _ I5 q5) fun w2 s6 ⟨z3, H6, I6, r6, q6⟩ => ho'' pins s6 σ H6 z' z3 w' w2 Q I6 r4 r6 q6))
theorem pt_chain3 {op op' op'' : CmpOp} {r r' r'' : R2} (ho : OpR X (compareOp op) r) (ho' : OpR X (compareOp op') r') (ho'' : OpR X (compareOp op'') r'') (ha : PE X a ta) (hb : PE X b tb) (hc : PE X c tc) (hd : PE X e td)
    (hm : lastMarks [op, op', op''] [b, c, e] = false) : PT X (.Compare a [op, op', op''] [b, c, e] pos) (tTest (tChain3 r r' r'' ta tb tc td)) := by
  refine ⟨fun pins s σ H Q I h => ?_⟩
  refine isTrue_chain (thn (ha.run pins s σ H _ I h) fun v s1 ⟨x, H1, I1, r1, q1⟩ => test_link (thn (hb.run pins s1 σ H1 _ I1 q1) fun u s2 ⟨y, H2, I2, r2, q2⟩ =>
    thn (ho pins s2 σ H2 x y v u _ I2 r1 r2 q2) fun d s3 ⟨z, H3, I3, r3, k, ek, q3⟩ => ?_)) hm
  subst ek
  cases r3
  refine wpAny_truthy_bool ?_
  cases k with
  | false =>
    obtain ⟨k', e', q'⟩ := q3
    cases e'
    exact ite_ff ⟨H3, I3, q'⟩
  | true =>
    refine ite_tt (test_link (thn (hc.run pins s3 σ H3 _ I3 q3) fun w' s4 ⟨z', H4, I4, r4, q4⟩ => thn (ho' pins s4 σ H4 y z' u w' _ I4 r2 r4 q4) fun d' s5 ⟨z2, H5, I5, r5, k2, e2, q5⟩ => ?_))
    subst e2
    cases r5
    refine wpAny_truthy_bool ?_
    cases k2 with
    | false =>
      obtain ⟨k', e', q'⟩ := q5
      cases e'
      exact ite_ff ⟨H5, I5, q'⟩
    | true =>
      refine ite_tt (test_last (thn (hd.run pins s5 σ H5 _ I5 q5) fun w2 s6 ⟨z3, H6, I6, r6, q6⟩ => thn (ho'' pins s6 σ H6 z' z3 w' w2 _ I6 r4 r6 q6) fun d2 s7 ⟨z4, H7, I7, r7, k3, e3, q7⟩ => ?_))
      subst e3
      cases r7
      exact wpAny_truthy_bool ⟨H7, I7, q7⟩
end
end Sm

/-! sum(xs, ys): lists put together. -/
namespace Sm
open PySem PySem.Spec L2
open Sem (wp)
theorem args_sum2 (a b : Value) : argsOk "sum" ⟨[a, b], []⟩ := by unfold argsOk; kernel_rfl
theorem sub_list_str : isSubtype (.type "list") (.type "str") = pure false := by rw [isSubtype_type]; kernel_rfl
theorem sub_list_bytes : isSubtype (.type "list") (.type "bytes") = pure false := by rw [isSubtype_type]; kernel_rfl
theorem sub_list_bytearray : isSubtype (.type "list") (.type "bytearray") = pure false := by rw [isSubtype_type]; kernel_rfl
/-- the lists from the i-th one on, put behind -/
def catA (li : Nat → Array Value) (i : Nat) : Nat → Array Value → Array Value
  | 0, acc => acc
  | k + 1, acc => catA li (i + 1) k (acc ++ li i)
def sizeA (li : Nat → Array Value) (i : Nat) : Nat → Nat
  | 0 => 0
  | k + 1 => (li i).size + sizeA li (i + 1) k
/-- a list object with these items -/
abbrev IsL0 (h : Heap) (l : Addr) (items : Array Value) (n : Nat) : Prop := h.get? l = some { cls := .type "list", dict := none, data := .seq items n, slots := #[] }
theorem far_of {h0 : Heap} {b I : Addr} {o : Obj} (e : h0.get? b = some o) (h : h0.objs.size ≤ I) : b ≠ I := fun q => by
  subst q
  exact Nat.lt_irrefl _ (Nat.lt_of_lt_of_le (Heap.lt_size e) h)
section
variable {prog : Program} {w : World} {A : Around} {R : Result → Shared → Prop}
theorem sum_lists_loop (hh : A.in1.handled = none) {h0 : Heap} {I S l : Addr} {its : Array Value} (lb : Nat → Addr) (li : Nat → Array Value) (hI0 : h0.objs.size ≤ I) (hS0 : h0.objs.size ≤ S) (hIS : I ≠ S) (hl0 : h0.IsList l its)
    (hb : ∀ j, j < its.size → its[j]? = some (.ref (lb j)) ∧ ∃ m, IsL0 h0 (lb j) (li j) m) :
    ∀ (k i : Nat) (s : Shared) (T : Addr) (acc : Array Value) (m c : Nat), its.size - i = k → i ≤ its.size → s.heap.IsListIter I l i → (∀ b o, h0.get? b = some o → s.heap.get? b = some o) → h0.objs.size ≤ s.heap.objs.size →
      s.heap.get? S = some { cls := .type "list", dict := none, data := .seq #[.ref T] c, slots := #[] } → IsL0 s.heap T acc m → T ≠ S → T ≠ I → acc.size + sizeA li i k ≤ sizeLine →
      (∀ h' tk T', (∀ b o, h0.get? b = some o → h'.get? b = some o) → (∃ m, IsL0 h' T' (catA li i k acc) m) → (k = 0 → T' = T) → (0 < k → h0.objs.size ≤ T') → R (.ok (.ret (.ref T'))) { s with heap := h', toks := tk }) →
      codeAny (model prog w) A (.builtin "sum.loop" ⟨[.ref I, .ref S, rawInt 2, rawInt 0], []⟩) R s := by
  intro k
  induction k with
  | zero =>
    intro i s T acc m c hk hi hit hkeep hsz hS hT hTS hTI hz hR
    have hin : i = its.size := by omega
    subst hin
    have hl : s.heap.IsList l its := by
      obtain ⟨o, e1, e2⟩ := hl0
      exact ⟨o, hkeep _ _ e1, e2⟩
    refine codeAny_builtin F.entry_sum_loop ?_
    rw [Around.under_plainId F.plain_sum_loop _]
    show wpAny _ A.in1 (seqItems? (.ref S) >>= _) _ _ s
    refine wpAny_bind (wpAny_seqItems hS rfl ?_)
    show wpAny _ A.in1 (tryCatch (pyNext (.ref I)) _ >>= _) _ _ s
    refine wpAny_bind (wpAny_tryCatch (wpAny_pyNext_list_end hh hit hl (by simp) fun h' he' => ?_))
    have kT : IsL0 h' T acc m := he' _ _ hTI hT
    exact wpAny_pure (hR h' s.toks T (fun b o e => he' b o (far_of e hI0) (hkeep b o e)) ⟨m, kT⟩ (fun _ => rfl) (fun h => absurd h (Nat.lt_irrefl 0)))
  | succ k ih =>
    intro i s T acc m c hk hi hit hkeep hsz hS hT hTS hTI hz hR
    have hlt : i < its.size := by omega
    obtain ⟨hv, mb, hB0⟩ := hb i hlt
    have hl : s.heap.IsList l its := by
      obtain ⟨o, e1, e2⟩ := hl0
      exact ⟨o, hkeep _ _ e1, e2⟩
    refine codeAny_builtin F.entry_sum_loop ?_
    rw [Around.under_plainId F.plain_sum_loop _]
    show wpAny _ A.in1 (seqItems? (.ref S) >>= _) _ _ s
    refine wpAny_bind (wpAny_seqItems hS rfl ?_)
    show wpAny _ A.in1 (tryCatch (pyNext (.ref I)) _ >>= _) _ _ s
    refine wpAny_bind (wpAny_tryCatch (wpAny_pyNext_list_item hit hl hv fun h' hit' hs' => ?_))
    have hS' : h'.get? S = _ := (hs'.2 S (Ne.symm hIS)).trans hS
    have hT' : IsL0 h' T acc m := (hs'.2 T hTI).trans hT
    have hkeep' : ∀ b o, h0.get? b = some o → h'.get? b = some o := fun b o e => (hs'.2 b (far_of e hI0)).trans (hkeep b o e)
    have hB' : IsL0 h' (lb i) (li i) mb := hkeep' _ _ hB0
    have hz' : acc.size + (li i).size + sizeA li (i + 1) k ≤ sizeLine := by
      have : sizeA li i (k + 1) = (li i).size + sizeA li (i + 1) k := rfl
      omega
    show wpAny _ A.in1 ((holding [Value.ref (lb i)] (binaryOp .Add (.ref T) (.ref (lb i)))).attempt >>= _) _ _ _
    refine wpAny_bind (wpAny_attempt (wpAny_holding (PySem.P.add_list hT' hB' ?_ (by omega))))
    show wpAny _ A.in1 (updateSeq S (fun _ => #[.ref h'.objs.size]) >>= _) _ _ _
    have hS1 : (h'.push { cls := .type "list", data := .seq (acc ++ li i) }).get? S = _ := Heap.get?_push_of_some _ hS'
    have hN : (h'.push { cls := .type "list", data := .seq (acc ++ li i) }).get? h'.objs.size = some { cls := .type "list", data := .seq (acc ++ li i) } := Heap.get?_push_size _ rfl
    have lS : S < h'.objs.size := Heap.lt_size hS'
    have neS : S ≠ h'.objs.size := Nat.ne_of_lt lS
    refine wpAny_bind ?_
    refine wpAny_updateSeq hS1 rfl ?_
    have hS2 := Heap.get?_update_self (Obj.mapSeq fun _ => #[Value.ref h'.objs.size]) hS1 rfl
    refine wpAny_bind (wpAny_letGo ?_)
    refine wpAny_bind ?_
    have hS3 := Heap.get?_update_self (Obj.mapSeq fun _ => #[Value.ref h'.objs.size]) hS2 rfl
    have lI : I < h'.objs.size := by
      obtain ⟨o, e, _⟩ := hit'
      exact Heap.lt_size e
    refine wpAny_updateSeq hS2 rfl (wpAny_pure ⟨plainId_quiet F.plain_sum_loop _, ih (i + 1) _ h'.objs.size (acc ++ li i) 0 _ (by omega) hlt ?_ ?_ ?_ hS3 ?_ (Ne.symm neS) (Ne.symm (Nat.ne_of_lt lI)) (by rw [Array.size_append]; exact hz') fun h'' tk T' a1 a2 a3 a4 => ?_⟩)
    · obtain ⟨o, e, e2⟩ := hit'
      exact ⟨o, ((Heap.get?_update_other _ _ (Ne.symm hIS)).trans ((Heap.get?_update_other _ _ (Ne.symm hIS)).trans (Heap.get?_push_of_some _ e))), e2⟩
    · intro b o e
      have nb : S ≠ b := Ne.symm (far_of e hS0)
      exact (Heap.get?_update_other _ _ nb).trans ((Heap.get?_update_other _ _ nb).trans (Heap.get?_push_of_some _ (hkeep' b o e)))
    · rw [Heap.size_update, Heap.size_update]
      have e1 : (h'.push { cls := .type "list", data := .seq (acc ++ li i) }).objs.size = h'.objs.size + 1 := by
        cases h'
        simp [Heap.push]
      rw [e1, hs'.1]
      omega
    · exact (Heap.get?_update_other _ _ neS).trans ((Heap.get?_update_other _ _ neS).trans hN)
    · refine hR h'' tk T' a1 a2 (fun z => by omega) fun _ => ?_
      by_cases z : k = 0
      · rw [a3 z, hs'.1]
        exact hsz
      · exact a4 (by omega)
end
section
variable {prog : Program} {w : World} {A : Around} {E : Value → Shared → Prop} {s : Shared}
theorem call_sum_lists {l b0 : Addr} {its acc : Array Value} {m : Nat} {Q : Value → Shared → Prop} (hh : A.handled = none) (lb : Nat → Addr) (li : Nat → Array Value) (hl : s.heap.IsList l its)
    (hb : ∀ j, j < its.size → its[j]? = some (.ref (lb j)) ∧ ∃ m, IsL0 s.heap (lb j) (li j) m) (hT : IsL0 s.heap b0 acc m) (hn : 0 < its.size) (hz : acc.size + sizeA li 0 its.size ≤ sizeLine)
    (hQ : ∀ h' tk T', (∀ b o, s.heap.get? b = some o → h'.get? b = some o) → (∃ m, IsL0 h' T' (catA li 0 its.size acc) m) → s.heap.objs.size ≤ T' → Q (.ref T') { s with heap := h', toks := tk }) :
    wpAny (model prog w) A (call (.builtin "sum") [.ref l, .ref b0]) Q E s := by
  have tyL : ∀ {s' : Shared} {x : Addr} {xs : Array Value} {m : Nat}, IsL0 s'.heap x xs m → s'.TypeIs (.ref x) "list" := fun h => ⟨_, h, rfl⟩
  refine call_function_tree F.kind_sum F.plain_sum F.entry_sum (args_sum2 _ _) ?_
  unfold Builtin.«sum»
  simp only [List.length_cons, List.length_nil]
  rw [if_neg (by decide)]
  refine wpAny_bind (wpAny_of_eq (show Builtin.Builtins.bindParams "sum" ["start"] 0 ⟨[.ref b0], []⟩ = pure [some (.ref b0)] from rfl) ?_)
  refine wpAny_bind (wpAny_pyIter_list hl ?_)
  have hT1 : IsL0 (s.heap.push { cls := .type "list_iterator", data := .fields #[.ref l, .int 0 0] }) b0 acc m := Heap.get?_push_of_some _ hT
  refine wpAny_bind (wpAny_pure ?_)
  simp only [List.forIn_cons, List.forIn_nil]
  refine wpAny_bind (wpAny_bind (wpAny_bind (wpAny_isInstance (T := "list") (b := false) (tyL hT1) sub_list_str ?_)))
  simp only [Bool.false_eq_true, if_false]
  refine wpAny_pure (wpAny_bind (wpAny_bind (wpAny_isInstance (T := "list") (b := false) (tyL hT1) sub_list_bytes ?_)))
  simp only [Bool.false_eq_true, if_false]
  refine wpAny_pure (wpAny_bind (wpAny_bind (wpAny_isInstance (T := "list") (b := false) (tyL hT1) sub_list_bytearray ?_)))
  simp only [Bool.false_eq_true, if_false]
  refine wpAny_pure (wpAny_pure ?_)
  refine wpAny_bind (wpAny_newObj_type ?_)
  have e1 : (s.heap.push { cls := .type "list_iterator", data := .fields #[.ref l, .int 0 0] }).objs.size = s.heap.objs.size + 1 := by
    cases s.heap
    simp [Heap.push]
  have lb0 : b0 < s.heap.objs.size := Heap.lt_size hT
  refine wpAny_pure ⟨plainId_quiet F.plain_sum_loop _, sum_lists_loop (A := A) hh (h0 := s.heap) (I := s.heap.objs.size) (l := l) (its := its) lb li (Nat.le_refl _) (by rw [e1]; exact Nat.le_succ _) (by rw [e1]; exact Nat.ne_of_lt (Nat.lt_succ_self _)) hl hb its.size 0 _ b0 acc m 0 (by omega) (Nat.zero_le _) ?_ ?_ ?_ (Heap.get?_push_size _ rfl) (Heap.get?_push_of_some _ hT1) (by rw [e1]; exact Nat.ne_of_lt (Nat.lt_succ_of_lt lb0)) (Nat.ne_of_lt lb0) hz fun h' tk T' a1 a2 a3 a4 => ?_⟩
  · exact ⟨_, Heap.get?_push_of_some _ (Heap.get?_push_size _ rfl), rfl, rfl⟩
  · exact fun b o e => Heap.get?_push_of_some _ (Heap.get?_push_of_some _ e)
  · show s.heap.objs.size ≤ ((s.heap.push _).push _).objs.size
    cases s.heap
    simp [Heap.push]
    omega
  · exact hQ h' tk T' a1 a2 (a4 hn)
end
end Sm

/-! sum(xs, ys) of lists and isinstance(x, list), as values. -/
namespace Sm
open PySem PySem.Spec L2

def listsOf : List PyData → Option (List (List PyData))
  | [] => some []
  | .list d :: ds => match listsOf ds with
    | some l => some (d :: l)
    | none => none
  | _ :: _ => none
theorem listsOf_eq : ∀ {ds : List PyData} {ls : List (List PyData)}, listsOf ds = some ls → ds = ls.map .list
  | [], ls, h => by cases h; rfl
  | d :: ds, ls, h => by
    cases d <;> simp only [listsOf, reduceCtorEq] at h
    rename_i i
    cases e : listsOf ds with
    | none => rw [e] at h; cases h
    | some ms =>
      rw [e] at h
      cases h
      rw [listsOf_eq e]
      rfl
theorem listsOf_map : ∀ ls : List (List PyData), listsOf (ls.map .list) = some ls
  | [] => rfl
  | l :: ls => by
    show (match listsOf (ls.map .list) with | some q => some (l :: q) | none => none) = some (l :: ls)
    rw [listsOf_map ls]
/-- sum(xs, acc) of lists: one at least, and what comes out fits -/
def dSum2 : List PyData → Rs PyData
  | [.list ds, .list acc] => match listsOf ds with
    | some (l :: ls) => if acc.length + (l :: ls).flatten.length ≤ sizeLine then .ok (.list (acc ++ (l :: ls).flatten)) else .no
    | _ => .no
  | _ => .no
theorem dSum2_nx (ds : List PyData) (c : Str) (x : PyData) : dSum2 ds ≠ .exc c x := by
  unfold dSum2
  split
  · split
    · split <;> simp
    · simp
  · simp
/-- a list of the outer list: where it lies, what it holds -/
abbrev Q3 := Addr × List V × List Value
def lbQ (qs : List Q3) (j : Nat) : Addr := ((qs[j]?).map (·.1)).getD 0
def liQ (qs : List Q3) (j : Nat) : Array Value := (((qs[j]?).map (·.2.2)).getD []).toArray
theorem liQ_at {qs : List Q3} {j : Nat} {q : Q3} (h : qs[j]? = some q) : liQ qs j = q.2.2.toArray := by
  unfold liQ
  rw [h]
  rfl
theorem sizeQ (qs : List Q3) : ∀ (k i : Nat), i + k = qs.length → sizeA (liQ qs) i k = (((qs.drop i).map (·.2.2)).flatten).length
  | 0, i, h => by
    rw [List.drop_eq_nil_of_le (by omega)]
    rfl
  | k + 1, i, h => by
    have hi : i < qs.length := by omega
    rw [List.drop_eq_getElem_cons hi]
    show (liQ qs i).size + sizeA (liQ qs) (i + 1) k = _
    rw [sizeQ qs k (i + 1) (by omega), liQ_at (List.getElem?_eq_getElem hi), List.map_cons, List.flatten_cons, List.length_append, List.size_toArray]
theorem catQ (qs : List Q3) : ∀ (k i : Nat) (acc : List Value), i + k = qs.length → catA (liQ qs) i k acc.toArray = (acc ++ ((qs.drop i).map (·.2.2)).flatten).toArray
  | 0, i, acc, h => by
    rw [List.drop_eq_nil_of_le (by omega)]
    show acc.toArray = _
    simp
  | k + 1, i, acc, h => by
    have hi : i < qs.length := by omega
    rw [List.drop_eq_getElem_cons hi]
    show catA (liQ qs) (i + 1) k (acc.toArray ++ liQ qs i) = _
    rw [liQ_at (List.getElem?_eq_getElem hi)]
    rw [List.append_toArray, catQ qs k (i + 1) _ (by omega), List.map_cons, List.flatten_cons, List.append_assoc]
section
variable {X : Cx}
theorem lists_in {pn : List (Addr × Obj)} {sg : L2.St} {hp : Hp} {st : Shared} (inv : Inv X pn sg hp st) {H : Hp} (le : Same H hp) : ∀ {ws : List V} {its : List Value} {ls : List (List PyData)}, Vals ws its → RpAll H ws (ls.map .list) →
    ∃ qs : List Q3, its = qs.map (fun q => Value.ref q.1) ∧ (∀ q ∈ qs, ∃ m, IsL0 st.heap q.1 q.2.2.toArray m) ∧ Vals (qs.map (·.2.1)).flatten (qs.map (·.2.2)).flatten ∧ RpAll H (qs.map (·.2.1)).flatten ls.flatten ∧ qs.length = ls.length
  | ws, its, [], r, ra => by
    have : ws = [] := by cases ra; rfl
    subst this
    cases r
    exact ⟨[], rfl, (fun q h => absurd h List.not_mem_nil), .nil, .nil, rfl⟩
  | ws, its, l :: ls, r, ra => by
    cases ra with
    | cons h1 h2 =>
      cases r with
      | cons r1 r2 =>
        cases h1 with
        | @lst a vs ds e1 z1 rv =>
          obtain ⟨qs, k1, k2, k3, k4, k5⟩ := lists_in inv le r2 h2
          obtain ⟨_, us, m, vu, _, eu⟩ := inv.lstM (le _ _ e1)
          obtain rfl := (show _ = Value.ref a from r1)
          refine ⟨(a, vs, us) :: qs, by rw [k1]; rfl, ?_, ?_, ?_, by simp [k5]⟩
          · intro q hq
            rcases List.mem_cons.mp hq with rfl | hq
            · exact ⟨m, eu⟩
            · exact k2 q hq
          · rw [List.map_cons, List.map_cons, List.flatten_cons, List.flatten_cons]
            exact vu.append k3
          · rw [List.map_cons, List.flatten_cons, List.flatten_cons]
            exact rv.app k4
theorem callV_sum2 (hc : X.calm = true) : CallR X (.builtin "sum") (rCall dSum2 true) := by
  intro pn st sg hp xs us Z inv r ⟨A, ds, z, dm, h, hf, q⟩
  unfold dSum2 at hf
  split at hf
  · rename_i ds acc
    split at hf
    · rename_i l0 ls0 he
      split at hf
      · rename_i hz
        cases hf
        obtain ⟨v, w, rfl, hv, hw⟩ := vw2 h
        obtain ⟨a, ws, rfl, ha, _, ra⟩ := hv.list
        obtain ⟨b, ts, rfl, hb, _, rb⟩ := hw.list
        rw [listsOf_eq he] at ra
        obtain ⟨u1, u2, rfl, r1, r2⟩ := vals2 r
        obtain rfl := (show u1 = Value.ref a from r1)
        obtain rfl := (show u2 = Value.ref b from r2)
        obtain ⟨_, its, n, vi, li1, ei⟩ := inv.lstM ha
        obtain ⟨_, tts, n2, vt, lt1, et⟩ := inv.lstM hb
        obtain ⟨qs, k1, k2, k3, k4, k5⟩ := lists_in inv hide_le vi ra
        have hlq : its.length = qs.length := by rw [k1, List.length_map]
        have hfl : ((qs.map (·.2.2)).flatten).length = ((l0 :: ls0).flatten).length := by rw [← k4.len, k3.length]
        have e0 : catA (liQ qs) 0 its.toArray.size tts.toArray = (tts ++ (qs.map (·.2.2)).flatten).toArray := by
          have := catQ qs qs.length 0 tts (by omega)
          rw [List.drop_zero] at this
          rw [List.size_toArray, hlq]
          exact this
        have hnew : (ts ++ (qs.map (·.2.1)).flatten).length ≤ sizeLine := by
          rw [List.length_append, rb.len, k4.len]
          exact hz
        refine call_sum_lists (inv.ok.hd hc) (l := a) (b0 := b) (its := its.toArray) (acc := tts.toArray) (m := n2) (lbQ qs) (liQ qs) ⟨_, ei, rfl, _, rfl⟩ ?_ et ?_ ?_ ?_
        · intro j hj
          have hj' : j < qs.length := by rw [List.size_toArray] at hj; omega
          have eq := List.getElem?_eq_getElem hj'
          refine ⟨?_, ?_⟩
          · rw [List.getElem?_toArray, k1, List.getElem?_map, eq]
            unfold lbQ
            rw [eq]
            rfl
          · obtain ⟨m, em⟩ := k2 _ (List.getElem_mem hj')
            refine ⟨m, ?_⟩
            have e1 : lbQ qs j = qs[j].1 := by unfold lbQ; rw [eq]; rfl
            rw [liQ_at eq, e1]
            exact em
        · rw [List.size_toArray, hlq, k5]
          simp
        · rw [List.size_toArray, List.size_toArray, hlq]
          have := sizeQ qs qs.length 0 (by omega)
          rw [List.drop_zero] at this
          rw [this, hfl, ← lt1, rb.len]
          exact hz
        · intro h' tk T' a1 a2 a3
          obtain ⟨m, a2⟩ := a2
          rw [e0] at a2
          have np : hp T' = none := inv.hok.fresh a3
          have J : Inv X pn sg (upd hp T' (.lst (ts ++ (qs.map (·.2.1)).flatten))) { st with heap := h', toks := tk } :=
            inv.laid (t' := tk) a1 a3 ⟨hnew, _, m, vt.append k3, a2⟩
          exact ⟨.ref T', _, J, rfl, q _ _ (same_new np) (Res.newL dm (rb.app k4) hnew np (Same.refl _))⟩
      · cases hf
    · cases hf
  · cases hf
end

/-! isinstance(x, list) -/
def dIsL : List PyData → Rs PyData
  | [.none] => okB false
  | [.bool _] => okB false
  | [.int _] => okB false
  | [.str _] => okB false
  | [.list _] => okB true
  | [.tuple _] => okB false
  | _ => .no
theorem dIsL_nx (ds : List PyData) (c : Str) (x : PyData) : dIsL ds ≠ .exc c x := by
  unfold dIsL
  split <;> first | exact okB_nx | simp
section
variable {X : Cx}
def rIsL (f : Bool) : List V → Hp → VK → Prop := fun xs H Q => ∃ (x : V) (xs' : List V), xs = [x, .ty "list"] ∧ rCall dIsL f [x] H Q
theorem callV_isl : CallR X (.builtin "isinstance") (rIsL true) := by
  intro pn st sg hp xs us Z inv r ⟨x, xs', hx, A, ds, z, dm, h, hf, q⟩
  subst hx
  have fin : ∀ (t : String) (b : Bool), TyX X.K hp x (.type t) → kitB t "list" = some b → z = .bool b → wpAny (model X.prog X.w) X.A (call (.builtin "isinstance") us) (EP X pn sg Z) X.xe st := by
    intro t b h1 h2 h3
    subst h3
    exact call_isi pn st sg hp _ us Z inv r ⟨x, .ty "list", .type t, .type "list", b, rfl, .ty "list", h1, kit_ty h2, q _ _ (Same.refl _) (res_bool _)⟩
  unfold dIsL at hf
  split at hf
  · obtain ⟨v, e, hv⟩ := vw1 h
    cases e
    cases hv.rp
    exact fin _ _ (.base .non) (by decide +kernel) (okB_inj hf)
  · obtain ⟨v, e, hv⟩ := vw1 h
    cases e
    cases hv.rp
    exact fin _ _ (.base (.bl _)) (by decide +kernel) (okB_inj hf)
  · obtain ⟨v, e, hv⟩ := vw1 h
    cases e
    cases hv.rp
    exact fin _ _ (.base (.int _)) (by decide +kernel) (okB_inj hf)
  · obtain ⟨v, e, hv⟩ := vw1 h
    cases e
    cases hv.rp
    exact fin _ _ (.base (.str _)) (by decide +kernel) (okB_inj hf)
  · obtain ⟨v, e, hv⟩ := vw1 h
    cases e
    obtain ⟨a, ws, rfl, ha, hz, ra⟩ := hv.list
    exact fin _ _ (.base (.lst ha)) (by decide +kernel) (okB_inj hf)
  · obtain ⟨v, e, hv⟩ := vw1 h
    cases e
    obtain ⟨a, ws, rfl, ha, hz, ra⟩ := hv.tuple
    exact fin _ _ (.base (.tup ha)) (by decide +kernel) (okB_inj hf)
  · cases hf
theorem pe_tyN {x : Str} {T : String} {pos : Pos} (hg : Gl X x) (hm : X.mg x = none) (hv : bootBuiltins x = some (.type T)) (hn : x ≠ "__name__") (hdb : (x == ("__debug__" : Str)) = false) : PE X (.Name x pos) (tC (.ty T)) :=
  ⟨fun pins s σ H Q I h => ld_blt I hg hm hv ⟨.ty T, H, I, rfl, h⟩ hn hdb⟩
theorem sound_isl {W : WX} {a : Expr} {ma : M} {x y : Str} {p q pos : Pos} {kp fa : Bool} (ha : PE X a (tvM (gm X) W ma false fa)) (na : noStar a = true) (hx : x = "isinstance") (hy : y = "list") (g1 : Gl X x) (m1 : X.mg x = none) (g2 : Gl X y) (m2 : X.mg y = none) :
    PE X (.Call (.Name x p) [a, .Name y q] [] pos) (tvM (gm X) W (mCall dIsL [ma]) kp true) := by
  subst hx hy
  refine peBy (pe_callB callV_isl g1 m1 (by decide +kernel) (pa_cons ha (pa_cons (pe_tyN (T := "list") g2 m2 (by decide +kernel) (by decide +kernel) (by decide +kernel)) pa_nil) (star_ne na)) (by decide +kernel) (by decide +kernel) (star_ne na)) ?_
  rintro sg H Z ⟨A0, A, ρ, hs, ho⟩
  refine ⟨A0, A, ρ, hs, ?_⟩
  unfold mCall mAll at ho
  cases e : ma ρ with
  | ok d =>
    rw [e] at ho
    intro v H1 s1 r1
    cases z : dIsL [d] with
    | ok z' =>
      have ho' : Oc (gm X) A H (fun c d H' => W c d sg H') (fun d => ∀ v H', Same H H' → Res A kp true H H' v d → Z v H') (dIsL [d]) := ho
      rw [z] at ho'
      exact ⟨v, [], rfl, A, [d], z', (hs.mono s1).dom, .cons r1.1 .nil, z, fun u H3 s3 r3 => ho' u H3 (s1.trans s3) ⟨.inl r3.1.kept, fun q => freshUp s1 (r3.2 q)⟩⟩
    | exc c x => exact absurd z (dIsL_nx _ c x)
    | no =>
      have ho' : Oc (gm X) A H (fun c d H' => W c d sg H') (fun d => ∀ v H', Same H H' → Res A kp true H H' v d → Z v H') (dIsL [d]) := ho
      rw [z] at ho'
      exact ho'.elim
  | exc c x => rw [e] at ho; exact ho
  | no => rw [e] at ho; exact ho
/-! isinstance(x, int) -/
def dIsI : List PyData → Rs PyData
  | [.none] => okB false
  | [.bool _] => okB true
  | [.int _] => okB true
  | [.str _] => okB false
  | [.list _] => okB false
  | [.tuple _] => okB false
  | _ => .no
theorem dIsI_nx (ds : List PyData) (c : Str) (x : PyData) : dIsI ds ≠ .exc c x := by
  unfold dIsI
  split <;> first | exact okB_nx | simp
def rIsI (f : Bool) : List V → Hp → VK → Prop := fun xs H Q => ∃ (x : V) (xs' : List V), xs = [x, .ty "int"] ∧ rCall dIsI f [x] H Q
theorem callV_isi : CallR X (.builtin "isinstance") (rIsI true) := by
  intro pn st sg hp xs us Z inv r ⟨x, xs', hx, A, ds, z, dm, h, hf, q⟩
  subst hx
  have fin : ∀ (t : String) (b : Bool), TyX X.K hp x (.type t) → kitB t "int" = some b → z = .bool b → wpAny (model X.prog X.w) X.A (call (.builtin "isinstance") us) (EP X pn sg Z) X.xe st := by
    intro t b h1 h2 h3
    subst h3
    exact call_isi pn st sg hp _ us Z inv r ⟨x, .ty "int", .type t, .type "int", b, rfl, .ty "int", h1, kit_ty h2, q _ _ (Same.refl _) (res_bool _)⟩
  unfold dIsI at hf
  split at hf
  · obtain ⟨v, e, hv⟩ := vw1 h
    cases e
    cases hv.rp
    exact fin _ _ (.base .non) (by decide +kernel) (okB_inj hf)
  · obtain ⟨v, e, hv⟩ := vw1 h
    cases e
    cases hv.rp
    exact fin _ _ (.base (.bl _)) (by decide +kernel) (okB_inj hf)
  · obtain ⟨v, e, hv⟩ := vw1 h
    cases e
    cases hv.rp
    exact fin _ _ (.base (.int _)) (by decide +kernel) (okB_inj hf)
  · obtain ⟨v, e, hv⟩ := vw1 h
    cases e
    cases hv.rp
    exact fin _ _ (.base (.str _)) (by decide +kernel) (okB_inj hf)
  · obtain ⟨v, e, hv⟩ := vw1 h
    cases e
    obtain ⟨a, ws, rfl, ha, hz, ra⟩ := hv.list
    exact fin _ _ (.base (.lst ha)) (by decide +kernel) (okB_inj hf)
  · obtain ⟨v, e, hv⟩ := vw1 h
    cases e
    obtain ⟨a, ws, rfl, ha, hz, ra⟩ := hv.tuple
    exact fin _ _ (.base (.tup ha)) (by decide +kernel) (okB_inj hf)
  · cases hf
theorem sound_isi {W : WX} {a : Expr} {ma : M} {x y : Str} {p q pos : Pos} {kp fa : Bool} (ha : PE X a (tvM (gm X) W ma false fa)) (na : noStar a = true) (hx : x = "isinstance") (hy : y = "int") (g1 : Gl X x) (m1 : X.mg x = none) (g2 : Gl X y) (m2 : X.mg y = none) :
    PE X (.Call (.Name x p) [a, .Name y q] [] pos) (tvM (gm X) W (mCall dIsI [ma]) kp true) := by
  subst hx hy
  refine peBy (pe_callB callV_isi g1 m1 (by decide +kernel) (pa_cons ha (pa_cons (pe_tyN (T := "int") g2 m2 (by decide +kernel) (by decide +kernel) (by decide +kernel)) pa_nil) (star_ne na)) (by decide +kernel) (by decide +kernel) (star_ne na)) ?_
  rintro sg H Z ⟨A0, A, ρ, hs, ho⟩
  refine ⟨A0, A, ρ, hs, ?_⟩
  unfold mCall mAll at ho
  cases e : ma ρ with
  | ok d =>
    rw [e] at ho
    intro v H1 s1 r1
    cases z : dIsI [d] with
    | ok z' =>
      have ho' : Oc (gm X) A H (fun c d H' => W c d sg H') (fun d => ∀ v H', Same H H' → Res A kp true H H' v d → Z v H') (dIsI [d]) := ho
      rw [z] at ho'
      exact ⟨v, [], rfl, A, [d], z', (hs.mono s1).dom, .cons r1.1 .nil, z, fun u H3 s3 r3 => ho' u H3 (s1.trans s3) ⟨.inl r3.1.kept, fun q => freshUp s1 (r3.2 q)⟩⟩
    | exc c x => exact absurd z (dIsI_nx _ c x)
    | no =>
      have ho' : Oc (gm X) A H (fun c d H' => W c d sg H') (fun d => ∀ v H', Same H H' → Res A kp true H H' v d → Z v H') (dIsI [d]) := ho
      rw [z] at ho'
      exact ho'.elim
  | exc c x => rw [e] at ho; exact ho
  | no => rw [e] at ho; exact ho
end
end Sm

/-! sorted(set(..)) of a list of ints. -/
namespace Sm
open PySem PySem.Spec PyProof.Rows L2
section
variable {P : Program} {w : World} {Ar : Around} {Ex : Value → Shared → Prop} {sh : Shared}
/-- a set that is new -/
def sob (w : World) : Obj := { cls := .type "set", dict := none, data := .set #[] 0 (.fresh 0 0 (!w.params.followText "set-order")) }
def withSet (w : World) (sh : Shared) : Heap := sh.heap.push (sob w)
theorem withSet_at : (withSet w sh).get? sh.heap.objs.size = some (sob w) := Heap.get?_push_size _ rfl
theorem withSet_old {b : Addr} {o : Obj} (e : sh.heap.get? b = some o) : (withSet w sh).get? b = some o := Heap.get?_push_of_some _ e
theorem withSet_size : (withSet w sh).objs.size = sh.heap.objs.size + 1 := Heap.size_push ..
set_option maxHeartbeats 3200000 in
/-- what the set of a list's areInts is, told by its members -/
theorem setOfList {l : Addr} {its : Array Value} (ns : List Int) {Z : Value → Shared → Prop} (calm : Ar.handled = none) (isl : sh.heap.IsList l its) (areInts : IntsAre its.toList ns) (few : ns.length + 1 < scanBound)
    (z : ∀ (hp : Heap) (tk c : Nat), SetR w hp sh.heap.objs.size (fun j => decide (j ∈ ns)) c → c ≤ ns.length → (∀ b o, sh.heap.get? b = some o → hp.get? b = some o) → Z (.ref sh.heap.objs.size) { sh with heap := hp, toks := tk }) :
    wpAny (model P w) Ar (call (.type "set") [.ref l]) Z Ex sh := by
  have size : its.size = ns.length := by have q := IntsAre.length areInts; rwa [Array.length_toList] at q
  obtain ⟨cl, tl, mro⟩ := PySem.F.called_set.mro
  have made := PySem.F.called_set.made; have sub := PySem.F.called_set.sub
  refine wpAny_call (codeAny_of_tree ?_); show wpAny _ _ (callAny (.type "set") _) _ _ _
  refine wpAny_pure ⟨Code.quiet_builtin _ (by decide +kernel), codeAny_builtin PySem.F.entry_type_call ?_⟩; rw [Around.under_plain (weight_type_call_type "set" [.ref l] []) rfl]
  have g1 := PySem.F.called_set.notType; have g2 := PySem.F.called_set.canCreate; have g3 := PySem.F.typeCall_set_1 (.ref l)
  repeat any_goals first | wp_step | assumption
  refine codeAny_mono (code_set_led1 (E := Ex) (Q₁ := fun ob s1 => ob = .ref sh.heap.objs.size ∧ s1 = { sh with heap := withSet w sh }) (.ref l) ⟨rfl, rfl⟩) fun r s1 made1 => ?_
  match r, made1 with
  | .ok (.ret ob), made1 =>
    obtain ⟨rfl, rfl⟩ := made1
    have newAt : (withSet w sh).get? sh.heap.objs.size = some { cls := .type "set", dict := none, data := .set #[] 0 (.fresh 0 0 (!w.params.followText "set-order")) } := withSet_at
    have ty : Shared.TypeIs { sh with heap := withSet w sh } (.ref sh.heap.objs.size) "set" := ⟨_, withSet_at, rfl⟩
    have i1 := PySem.F.called_set.init.lookup; have i2 := PySem.F.called_set.init.bind (.ref sh.heap.objs.size)
    repeat any_goals first | wp_step | assumption
    refine codeAny_mono (codeAny_call_builtin (R := wants (fun r s2 => r = .none ∧ ∃ hp tk c, s2 = { sh with heap := hp, toks := tk } ∧ SetR w hp sh.heap.objs.size (fun j => decide (j ∈ ns)) c ∧ c ≤ ns.length ∧ (∀ b o, sh.heap.get? b = some o → hp.get? b = some o)) Ex) PySem.F.called_set.init.plain PySem.F.entry_set_init (check_set_init_1 ty ?_)) fun r2 s2 done => ?_
    · obtain ⟨⟨oc, od, oda, osl⟩, there, cls, nl, dat⟩ := isl
      have cls : oc = .type "list" := cls
      have dat : oda = .seq its nl := dat
      subst cls dat
      have there2 : (withSet w sh).get? l = some { cls := .type "list", dict := od, data := .seq its nl, slots := osl } := withSet_old there
      have b1 := PySem.F.sub_list_set; have b2 := PySem.F.sub_list_frozenset
      have b3 : (Value.type "list" == Value.type "dict") = false := by decide
      have isl2 : (withSet w sh).IsList l its := ⟨_, there2, rfl, nl, rfl⟩
      unfold Builtin.«set.__init__» noKeywords Builtin.Frozenset.updateFrom; generalize hI : pyIter = It
      wp_walk
      subst hI; refine wpAny_pyIter_list isl2 ?_; refine wpAny_bind (wpAny_runValue ?_)
      have lt : l < sh.heap.objs.size := Heap.lt_size there
      have calm3 : Ar.in1.in1.in1.handled = none := by simp [calm]
      have ne : l ≠ (withSet w sh).objs.size := by rw [withSet_size]; exact fun e => absurd (e ▸ lt) (Nat.not_lt_of_le (Nat.le_succ _))
      have out : sh.heap.objs.size ∉ [(withSet w sh).objs.size, l] := by
        rw [withSet_size]
        intro m
        rcases List.mem_cons.mp m with e | m
        · exact absurd e.symm (Nat.succ_ne_self _)
        · exact absurd (List.mem_singleton.mp m).symm (Nat.ne_of_lt lt)
      refine set_update_ints ((Walks.list calm3 _ l ne its).toS) sh.heap.objs.size out ns size few (fun i v hv => ?_) (its.size - 0) 0 _ (by omega) (Nat.zero_le _) ⟨⟨_, Heap.get?_push_size _ rfl, rfl, rfl⟩, (isl2.push _)⟩ ?start ?fin
      · have hi : i < ns.length := by rw [← size]; exact (Array.getElem?_eq_some_iff.mp hv).1
        obtain ⟨t, e⟩ := PyProof.Rows.IntsAre.int_at areInts i v (by rw [Array.getElem?_toList]; exact hv)
        refine ⟨ns[i], t, List.getElem?_eq_getElem hi, ?_⟩; rw [e]; simp [hi]
      case start => exact ⟨0, Nat.le_refl 0, setR_new_at (Heap.get?_push_of_some _ withSet_at)⟩
      case fin =>
        intro sx c2 mv le st
        obtain ⟨hp, gs, dr, tk, os⟩ := sx
        obtain rfl : gs = sh.gens := mv.gens
        obtain rfl : dr = sh.drawn := mv.drawn
        obtain rfl : os = sh.os := mv.os
        show wpAny _ _ _ _ _ _
        refine wpAny_pure ?_; show wpAny _ _ (ret Value.none) _ _ _
        rw [size] at le
        refine wpAny_pure ⟨rfl, hp, tk, c2, rfl, st, le, fun b o e => mv.heap b o (fun m => ?_) (Heap.get?_push_of_some _ (withSet_old e))⟩
        have lb : b < sh.heap.objs.size := Heap.lt_size e
        rcases List.mem_cons.mp m with e1 | m
        · exact absurd e1 (Nat.ne_of_lt lb)
        · have e2 := List.mem_singleton.mp m
          rw [show b = (withSet w sh).objs.size from e2, withSet_size] at lb
          exact absurd lb (Nat.not_lt_of_le (Nat.le_succ _))
    · match r2, done with
      | .ok (.ret _), done =>
        obtain ⟨rfl, hp, tk, c2, rfl, st, le, kept⟩ := done
        repeat any_goals first | wp_step | assumption
        exact z _ _ _ st le kept
      | .error _, done => exact done
      | .ok .next, done => exact done.elim
      | .ok .brk, done => exact done.elim
      | .ok .cont, done => exact done.elim
  | .error _, made1 => exact made1
  | .ok .next, made1 => exact made1.elim
  | .ok .brk, made1 => exact made1.elim
  | .ok .cont, made1 => exact made1.elim
end
end Sm

/-! sorted(set(..)): the rule. -/
namespace Sm
open PySem PySem.Spec PyProof.Rows L2
/-- the ints of a list, ascending, each once -/
def ascI (ns : List Int) : List Int := (metI ns).mergeSort fun a b => decide (a ≤ b)
def mSortSet (a : M) : M := fun ρ => do
  let x ← a ρ
  match x with
  | .list ds => (match intsOf ds with
    | some ns => if ns.length ≤ 4000 ∧ (metI ns).length < 64 then .ok (.list ((ascI ns).map .int)) else .no
    | none => .no)
  | _ => .no
theorem metI_dups (l : List Int) : metI l = l.eraseDups := by
  unfold metI
  rw [PySem.W.oss_met]
  exact PySem.W.oss_dups l
theorem metI_has (l : List Int) (x : Int) : x ∈ metI l ↔ x ∈ l := by
  unfold metI
  rw [PySem.W.oss_met]
  exact PySem.W.oss_has
theorem metI_nd (l : List Int) : (metI l).Nodup := by
  have key : ∀ (l ks : List Int), ks.Nodup → (l.foldl PyProof.Rows.step_dedup ks).Nodup := by
    intro l
    induction l with
    | nil => intro ks h; exact h
    | cons a l ih =>
      intro ks h
      rw [List.foldl_cons, PySem.W.oss_step]
      by_cases m : a ∈ ks
      · rw [if_pos m]; exact ih _ h
      · rw [if_neg m]
        refine ih _ (List.nodup_append.mpr ⟨h, by simp, fun x hx y hy e => ?_⟩)
        rw [List.mem_singleton.mp hy] at e
        exact m (e ▸ hx)
  unfold metI
  rw [PySem.W.oss_met]
  exact key l [] .nil
theorem ascI_has (l : List Int) (x : Int) : x ∈ ascI l ↔ x ∈ l := ((List.mergeSort_perm _ _).mem_iff).trans (metI_has l x)
theorem ascI_lt (l : List Int) : (ascI l).Pairwise (· < ·) := by
  have nd : (ascI l).Nodup := (List.mergeSort_perm _ _).nodup_iff.mpr (metI_nd l)
  have q := List.pairwise_mergeSort (le := fun a b : Int => decide (a ≤ b)) (fun a b c h k => decide_eq_true (Int.le_trans (of_decide_eq_true h) (of_decide_eq_true k))) (fun a b => by
    rcases Int.le_total a b with h | h <;> simp [h]) (metI l)
  have q2 : (ascI l).Pairwise fun a b => a ≤ b := q.imp fun h => of_decide_eq_true h
  exact q2.imp₂ (fun a b h1 h2 => by omega) nd
/-- ascending lists with the same members are the same -/
theorem asc_same : ∀ {a b : List Int}, a.Pairwise (· < ·) → b.Pairwise (· < ·) → (∀ x, x ∈ a ↔ x ∈ b) → a = b
  | [], [], _, _, _ => rfl
  | [], y :: b, _, _, h => by have := (h y).mpr (by simp); cases this
  | x :: a, [], _, _, h => by have := (h x).mp (by simp); cases this
  | x :: a, y :: b, ha, hb, h => by
    obtain ⟨a1, a2⟩ := List.pairwise_cons.mp ha
    obtain ⟨b1, b2⟩ := List.pairwise_cons.mp hb
    have e : x = y := by
      rcases List.mem_cons.mp ((h x).mp (by simp)) with e | m
      · exact e
      · rcases List.mem_cons.mp ((h y).mpr (by simp)) with e | m2
        · exact e.symm
        · have := b1 x m
          have := a1 y m2
          omega
    subst e
    rw [asc_same a2 b2 fun z => ?_]
    constructor
    · intro m
      rcases List.mem_cons.mp ((h z).mp (List.mem_cons_of_mem _ m)) with e | m2
      · have := a1 z m; omega
      · exact m2
    · intro m
      rcases List.mem_cons.mp ((h z).mpr (List.mem_cons_of_mem _ m)) with e | m2
      · have := b1 z m; omega
      · exact m2
theorem ascI_is {l ns : List Int} (h : ns.Pairwise (· < ·)) (k : ∀ x, x ∈ ns ↔ x ∈ l) : ns = ascI l := asc_same h (ascI_lt l) fun x => (k x).trans (ascI_has l x).symm
def tSortMet (K : PySem.W.Frag) (ta : TE) : TE := fun sg H Z => ta sg H fun x H1 => ∃ (l : Addr) (ns : List Int), x = .ref l ∧ SqL K H1 l (ns.map V.int) ∧ ns.length ≤ 4000 ∧ (metI ns).length < 64 ∧
  ∀ (q p : Addr) (o : HO), H1 q = none → q ≠ p → upd H1 q o p = none → Z (.ref p) (upd (upd H1 q o) p (.lst ((ascI ns).map V.int)))
section
variable {X : Cx} {W : WX} {a : Expr} {ma : M} {p q pos pos2 : Pos} {kp fa fr : Bool} {ta : TE}
theorem pe_sortMet (hc : X.calm = true) (g1 : Gl X "sorted") (m1 : X.mg "sorted" = none) (g2 : Gl X "set") (m2 : X.mg "set" = none) (ha : PE X a ta) (na : starEach [a] X.env = (false, eval a X.env) :: starEach [] X.env) :
    PE X (.Call (.Name "sorted" p) [.Call (.Name "set" q) [a] [] pos] [] pos2) (tSortMet X.K ta) := by
  constructor
  intro pn st sg H Z inv h
  refine Call_ (ld_blt inv g1 m1 boot_sorted (PyProof.Rows.callWith_builtin1 (PyProof.Rows.args_cons (Call_ (ld_blt inv g2 m2 boot_set (PyProof.Rows.callWith_type1 (PyProof.Rows.args_cons (thn (ha.run pn st sg H _ inv h) ?_) na) na rfl))) rfl) rfl rfl))
  rintro v s1 ⟨x, H1, I1, r1, l, ns, rfl, hq, hl, h64, z⟩
  obtain rfl : v = Value.ref l := r1
  obtain ⟨its, r, pl, _⟩ := I1.list hq
  refine PyProof.Rows.args_nil ?_
  refine setOfList ns (I1.ok.hd hc) pl.isList (by simpa using RZ.intsAre_vals r) (by unfold scanBound; omega) fun h' tk c hS hle hk => PyProof.Rows.args_nil ?_
  have hn : H1 s1.heap.objs.size = none := I1.hok.fresh (Nat.le_refl _)
  have I2 : Inv X pn sg (upd H1 s1.heap.objs.size (SetO X.w s1.heap.objs.size (fun j => decide (j ∈ ns)) c)) { s1 with heap := h', toks := tk } := I1.laid (fun b u e => hk b u e) (Nat.le_refl _) (setO_new hS)
  have hc' : c = (metI ns).length := by
    obtain ⟨o, es, ep, t, _, _, _, _, nd, mem, _, _, sz, _, _⟩ := hS
    have pm : (es.toList.map keyOf).Perm (metI ns) := (List.perm_ext_iff_of_nodup nd (metI_nd ns)).mpr fun k => by
      rw [← mem k, metI_has, decide_eq_true_eq]
    have := pm.length_eq
    rw [List.length_map, Array.length_toList] at this
    omega
  refine (cr_sortedSet hc) pn _ sg _ [.ref s1.heap.objs.size] _ _ I2 (.cons rfl .nil) ⟨_, _, c, rfl, upd_same, by omega, fun out p pw mem len np => ?_⟩
  have ne : s1.heap.objs.size ≠ p := fun e => by rw [← e, upd_same] at np; cases np
  have eo : out = ascI ns := ascI_is pw fun k => by rw [mem k, decide_eq_true_eq]
  rw [eo]
  exact z _ p _ hn ne np
theorem sound_sortSet (hc : X.calm = true) (n1 : noStar a = true) (g1 : Gl X "sorted") (m1 : X.mg "sorted" = none) (g2 : Gl X "set") (m2 : X.mg "set" = none) (ha : PE X a (tvM (gm X) W ma false fa)) :
    PE X (.Call (.Name "sorted" p) [.Call (.Name "set" q) [a] [] pos] [] pos2) (tvM (gm X) W (mSortSet ma) kp true) := by
  refine peBy (pe_sortMet hc g1 m1 g2 m2 ha (star_ne n1)) ?_
  rintro sg H Z ⟨A0, A, ρ, hs, ho⟩
  refine ⟨A0, A, ρ, hs, ho.bind.mono fun d h1 v H1 s1 r1 => ?_⟩
  cases d with
  | list ds =>
    have h2 : Oc (gm X) A H (fun c d H' => W c d sg H') (fun d => ∀ v H', Same H H' → Res A kp true H H' v d → Z v H') (match intsOf ds with
      | some ns => if ns.length ≤ 4000 ∧ (metI ns).length < 64 then .ok (.list ((ascI ns).map .int)) else .no
      | none => .no) := h1
    cases e : intsOf ds with
    | none => rw [e] at h2; exact h2.elim
    | some ns =>
      rw [e] at h2
      dsimp only at h2
      split at h2
      · rename_i hl
        obtain ⟨l, us, rfl, hv, hz, ra⟩ := r1.1.list
        rw [intsOf_eq e] at ra
        have eu := ra.ints
        subst eu
        refine ⟨l, ns, rfl, .inl (.inl hv), hl.1, hl.2, fun q p o nq ne np => ?_⟩
        have sm := same_new (o := o) nq
        have la : (ascI ns).length ≤ sizeLine := by
          rw [sizeLine_eq]
          have : (ascI ns).length = (metI ns).length := (List.mergeSort_perm _ _).length_eq
          omega
        exact h2 _ _ (s1.trans (sm.trans (same_new np))) (Res.newL ((hs.mono s1).mono sm).dom (rpAll_ints _ _) (by rw [List.length_map]; exact la) np (s1.trans sm))
      · exact h2.elim
  | _ => exact h1.elim
end
end Sm

/-! sorted({.. for ..}) of ints. -/
namespace Sm
open PySem PySem.Spec PyProof.Rows L2
section
variable {X : Cx}
/-- an int put into the set at D -/
theorem putSet {pins : List (Addr × Obj)} {sg : L2.St} {H : Hp} {s : Shared} {Ex : Value → Shared → Prop} {D : Addr} {S : Int → Bool} {n : Nat} {k : Int} {tk : Tok} {Z : Value → Shared → Prop} (inv : Inv X pins sg H s) (at' : H D = some (SetO X.w D S n)) (few : n + 1 < scanBound)
    (z : ∀ s', Inv X pins sg (upd H D (SetO X.w D (fun j => S j || decide (j = k)) (if S k = true then n else n + 1))) s' → Z .none s') : wpAny (model X.prog X.w) X.A (call (.builtin "set.add") [.ref D, .int k tk]) Z Ex s := by
  refine setR_add (setO_get inv at') few fun hp but new => z _ ?_
  have ex : ∃ u, hp.get? D = some u := by obtain ⟨o, _, _, _, q, _⟩ := id new; exact ⟨o, q⟩
  exact inv.write (e := D) (t' := s.toks + 1) (by rw [at']; trivial) (.inl rfl) (fun b u ne q => (but.2 b ne).trans q) ex (setO_new new)
/-- what the display asks; at its end the set at D -/
def tScI (w : World) (wi : TI) (g : TG) (tt : TT) (te : TE) (vs : List Nat) : TE := fun sg H Z => wi sg H fun J H1 => ∀ D, H1 D = none → ∃ W : Nat → Nat → Hp → Prop, (∃ m, W 0 m (upd H1 D (SetO w D (fun _ => false) 0))) ∧ ∀ i m H, W i m H →
  (J.stop i H ∧ Z (.ref D) H) ∨ (J.go i H ∧ ∃ Nx : Hp → Prop, (∀ H', Nx H' → ∃ m', m' < m ∧ W (i + 1) m' H') ∧ ∀ x H', J.yld i H x H' → g x (wipe sg vs) H' fun sg2 H2 => wipe sg2 vs = wipe sg vs ∧ tt sg2 H2 fun b H3 =>
    if b = true then te sg2 H3 fun y H4 => ∃ (k : Int) (S : Int → Bool) (n : Nat), y = .int k ∧ H4 D = some (SetO w D S n) ∧ n + 1 < scanBound ∧ Nx (upd H4 D (SetO w D (fun j => S j || decide (j = k)) (if S k = true then n else n + 1))) else Nx H3)
abbrev BlkP (X : Cx) (scope : Scope) (P : Cx → Prop) : Prop := ∀ (s : Shared) (H : Hp) (C : Addr) (cl : List (PySem.Str × Addr)) (fp : List Addr), P (X.blk s H scope (compEnvC scope cl C X.env) fp)
set_option maxHeartbeats 1600000 in
theorem pe_scI {elt tg iter : Expr} {ifs : List Expr} {scope : Scope} {own : List (PySem.Str × Nat)} {pos : Pos} {wi : TI} {g : TG} {tt : TT} {te : TE} (hc : X.calm = true) (nd : X.N.Nodup) (hi : PI X tg iter wi) (ok : BlkOk X.N X.env.scope scope own)
    (hg : BlkP X scope fun Y => PG Y tg g) (ht : BlkP X scope fun Y => PTs Y ifs tt) (he : BlkP X scope fun Y => PE Y elt te) (hs : ∀ x, foldedSetIterable iter X.env x = pure x) : PE X (.SetComp elt [⟨tg, iter, ifs, 0⟩] scope pos) (tScI X.w wi g tt te (own.map (·.2))) := by
  refine ⟨fun pins s sg H Z I h => ?_⟩
  rw [PpSet.eval_SetComp]
  have free : ∀ y ∈ scope.names, y.2 = .free → ∃ c, X.env.cells.lookup y.1 = some c := fun y hy e => (ok.free y hy e).elim (fun k => I.ok.has _ (.inl k)) fun k => I.ok.has _ (.inr k)
  refine wpAny_comprehension_free rfl hs (closure_ok free) ok.kind (fun y hy e => by rw [ok.uniq y hy, e]) (thn (hi.run pins s sg H _ I h) fun xv s1 hx => thn hx fun itv s2 h2 => ?_)
  obtain ⟨it, fp, tn, J, H2, rfl, I2, T, st2, f2, q⟩ := h2
  refine PpSet.newSet_ok (newEnv_comp ?_)
  obtain ⟨D, hD⟩ : ∃ D, s2.heap.objs.size = D := ⟨_, rfl⟩
  rw [hD]
  obtain ⟨W, ⟨m0, w0⟩, turn⟩ := q D (I2.hok.fresh (Nat.le_of_eq hD))
  obtain ⟨s3, hs3⟩ : ∃ s3 : Shared, ({ s2 with heap := s2.heap.push (sob X.w) } : Shared) = s3 := ⟨_, rfl⟩
  obtain ⟨H3, hH3⟩ : ∃ H3, upd H2 D (SetO X.w D (fun _ => false) 0) = H3 := ⟨_, rfl⟩
  have h3 : s3.heap = s2.heap.push (sob X.w) := by rw [← hs3]
  have I3 : Inv X pins sg H3 s3 := by
    rw [← hs3, ← hH3]
    exact I2.laid (t' := s2.toks) (fun b o e => Heap.get?_push_of_some _ e) (Nat.le_of_eq hD) (by rw [← hD]; exact setO_new (setR_fresh X.w))
  have f3 : ∀ b ∈ fp, FpOk X pins H3 b ∧ b < s3.heap.objs.size := fun b hb => by
    have lt : b < s2.heap.objs.size := by obtain ⟨o, e, _⟩ := T.obj _ _ st2 b hb; exact Heap.lt_size e
    refine ⟨⟨?_, (f2 b hb).2⟩, by rw [h3, Heap.size_push]; exact Nat.lt_succ_of_lt lt⟩
    rw [← hH3, upd_ne (by rw [← hD]; exact Nat.ne_of_lt lt)]
    exact (f2 b hb).1
  have st3 : tn 0 s3.heap := T.keep _ _ _ st2 fun b _ o e => by rw [h3]; exact Heap.get?_push_of_some _ e
  have I4 := block_start I3 ok nd f3
  obtain ⟨ce, hce⟩ : ∃ ce, compEnvC scope (cellsFrom (s3.heap.objs.size + 1) scope.names (cloFrom X.env.cells scope.names [])) s3.heap.objs.size X.env = ce := ⟨_, rfl⟩
  have pg := hg s3 H3 s3.heap.objs.size (cellsFrom (s3.heap.objs.size + 1) scope.names (cloFrom X.env.cells scope.names [])) fp
  have pt := ht s3 H3 s3.heap.objs.size (cellsFrom (s3.heap.objs.size + 1) scope.names (cloFrom X.env.cells scope.names [])) fp
  have pe := he s3 H3 s3.heap.objs.size (cellsFrom (s3.heap.objs.size + 1) scope.names (cloFrom X.env.cells scope.names [])) fp
  have goal : ({ s2 with heap := s2.heap.push { cls := .type "set", dict := none, data := .set #[] 0 (.fresh 0 0 (!X.w.params.followText "set-order")) } } : Shared) = s3 := hs3
  rw [goal]
  show codeAny _ _ (.compStart (.SetComp elt [⟨tg, iter, ifs, 0⟩] scope pos) 0 (.ref it) (.ref D) (compEnvC scope (cellsFrom (s3.heap.objs.size + 1) scope.names (cloFrom X.env.cells scope.names [])) s3.heap.objs.size X.env)) _ { s3 with heap := pushCells (s3.heap.push { cls := .type "dict", data := .dict #[] }) scope.names }
  rw [hce] at I4 pg pt pe ⊢
  rw [hH3] at w0
  have cL : ce.locals = s3.heap.objs.size := by rw [← hce]; rfl
  obtain ⟨s4, hs4⟩ : ∃ s4 : Shared, ({ s3 with heap := pushCells (s3.heap.push { cls := .type "dict", data := .dict #[] }) scope.names } : Shared) = s4 := ⟨_, rfl⟩
  rw [hs4] at I4 ⊢
  have st4 : tn 0 s4.heap := T.keep _ _ _ st3 fun b _ o e => by rw [← hs4]; exact pushCells_keeps _ _ _ _ (Heap.get?_push_of_some _ e)
  have stat : ∀ {sg' : L2.St} {H' : Hp} {s' : Shared}, Inv (X.blk s3 H3 scope ce fp) [] sg' H' s' → (∀ b ∈ fp, H' b = none) → ∀ b ∈ fp, FpOk (X.blk s3 H3 scope ce fp) [] H' b := fun {sg' H' s'} I' hn b hb =>
    ⟨hn b hb, (I'.ok.exf b hb).1, I'.ok.exfs b hb, .inl hb, fun x c e => (I'.ok.exf b hb).2 x c e, fun p hp => absurd (show p ∈ ([] : List (Addr × Obj)) ++ [] from hp) (by simp)⟩
  refine PpSet.codeAny_compStart_set ?loop (T.self X.A 0 _ _ _ st4 ?loop)
  refine PpSet.compLoopS_any (fun n s' => ∃ i H', Inv (X.blk s3 H3 scope ce fp) [] (wipe sg (own.map (·.2))) H' s' ∧ tn i s'.heap ∧ (∀ b ∈ fp, H' b = none) ∧ W i n H') ?_ m0 ⟨0, H3, I4, st4, fun b hb => (f3 b hb).1.1, w0⟩
  rintro n s5 ⟨i, H5, I5, st5, n5, w5⟩
  rcases turn i n H5 w5 with ⟨stop, fin⟩ | ⟨go, Nx, hNx, step⟩
  · refine thnF (T.done (X.blk s3 H3 scope ce fp) rfl rfl rfl hc i [] s5 _ H5 (fun _ _ => False) I5 (stat I5 n5) st5 stop) fun r s6 ⟨hr, I6⟩ => ?_
    subst hr
    have I7 : Inv X pins sg H5 s6 := I3.call' (ch := fp) I6.os I6.base I6.hok I6.bare fun b hb => ⟨(f3 b hb).1.2.2.2.1, (f3 b hb).1.2.1, (f3 b hb).1.2.2.2.2.1, (f3 b hb).1.2.2.2.2.2⟩
    have nC : H5 s3.heap.objs.size = none := by rw [← cL]; exact I6.free
    obtain ⟨m, hn, _⟩ := I6.loc
    have hn : s6.heap.Ns ce.locals m := hn
    rw [cL] at hn
    obtain ⟨g0, g1, g2, g3, g4, g5⟩ := I3.fpOk (Nat.le_refl _) nC
    exact ⟨m, hn, fun h'' sb => ⟨.ref D, H5, I7.turned (t' := s6.toks) (fun b o hb e => (sb.2 b hb).trans e) g0 g1 g3 g4 g5, rfl, fin⟩⟩
  · refine thnF (T.item (X.blk s3 H3 scope ce fp) rfl rfl rfl hc i [] s5 _ H5 (fun _ _ => False) I5 (stat I5 n5) st5 go) fun r s6 ⟨u, hr, h6⟩ => ?_
    subst hr
    refine thnF h6 fun _ s7 ⟨x, H7, I7, r7, y7, st7, n7⟩ => thnF (pg.run _ s7 _ H7 x u _ (I7.pinned (stat I7 n7) (T.obj _ _ st7)) r7 (step x H7 y7)) fun _ s8 ⟨sg8, H8, I8, hw8, q8⟩ => thnF (pt.run _ s8 sg8 H8 _ I8 q8) fun b s9 ⟨H9, I9, q9⟩ => ?_
    have next : ∀ {s' : Shared} {H' : Hp}, Inv (X.blk s3 H3 scope ce fp) ([] ++ pinsAt fp s7.heap) sg8 H' s' → Nx H' → ∃ m, m < n ∧ ∃ i H', Inv (X.blk s3 H3 scope ce fp) [] (wipe sg (own.map (·.2))) H' s' ∧ tn i s'.heap ∧ (∀ b ∈ fp, H' b = none) ∧ W i m H' := fun {s' H'} I' nx => by
      obtain ⟨m', lt, w'⟩ := hNx H' nx
      have pinned : ∀ b ∈ fp, ∀ o, s7.heap.get? b = some o → s'.heap.get? b = some o ∧ H' b = none := fun b hb o e => ⟨(I'.pin (b, o) (List.mem_append_right _ (List.mem_append_right _ (mem_pinsAt hb e)))).1, (I'.pin (b, o) (List.mem_append_right _ (List.mem_append_right _ (mem_pinsAt hb e)))).2.1⟩
      refine ⟨m', lt, i + 1, H', (I'.unpinned (pins := [])).weak (by rw [← hw8, wipe_length]) (fun j v e => ?_), T.keep _ _ _ st7 fun b hb o e => (pinned b hb o e).1, fun b hb => ?_, w'⟩
      · rw [← hw8] at e; exact (wipe_some e).1
      · obtain ⟨o, e, _⟩ := T.obj _ _ st7 b hb; exact (pinned b hb o e).2
    match b, q9 with
    | false, q9 => exact next I9 q9
    | true, q9 =>
      refine thnF (pe.run _ s9 sg8 H9 _ I9 q9) fun z s10 ⟨yv, H10, I10, r10, k, S0, n0, ey, at10, few, nx⟩ => ?_
      subst ey
      obtain ⟨tk, rfl⟩ : ∃ tk, z = Value.int k tk := r10
      exact putSet (X := X.blk s3 H3 scope ce fp) I10 at10 few fun s11 I11 => next I11 nx
end
end Sm

/-! sorted({.. for ..}): the value. -/
namespace Sm
open PySem PySem.Spec PyProof.Rows L2
theorem metI_snoc (l : List Int) (k : Int) : (metI (l ++ [k])).length = if k ∈ l then (metI l).length else (metI l).length + 1 := by
  have e : ∀ l, metI l = PySem.W.ossOf l := fun l => by unfold metI; exact PySem.W.oss_met l
  have m := metI_has l k
  rw [e] at m
  rw [e, e, PySem.W.oss_next]
  by_cases c : k ∈ l
  · rw [if_pos (m.mpr c), if_pos c]
  · rw [if_neg fun z => c (m.mp z), if_neg c, List.length_append]
    rfl
theorem ints_app {ns : List Int} {a b : List PyData} (h : a ++ b = ns.map .int) : ∃ n1 n2, ns = n1 ++ n2 ∧ a = n1.map .int ∧ b = n2.map .int := by
  obtain ⟨n1, n2, e, e1, e2⟩ := List.map_eq_append_iff.mp h.symm
  exact ⟨n1, n2, e, e1.symm, e2.symm⟩
def tSortSc (w : World) (ts : TE) : TE := fun sg H Z => ts sg H fun x H1 => rSortedSet w [x] H1 Z
theorem sc_in {mg : Gm} {w : World} {W : WX} {it : Its} {T : Tg} {t : Ts} {el : M} {S vs : List Nat} {kp fr : Bool} {sg : L2.St} {H : Hp} {Z : VK} (hS : ∀ i ∈ S, i ∈ vs)
    (h : tvM mg W (mSortSet (mComp it T t el vs)) kp true sg H Z) : tSortSc w (tScI w (tvI mg W false it) (tvG mg.K T S) (tvT mg noW t) (tvM mg noW el true fr) vs) sg H Z := by
  obtain ⟨A0, A, ρ, hs, ho⟩ := h
  have ho' : Oc mg A H (fun c d H' => W c d sg H') (fun d => ∀ v H', Same H H' → Res A kp true H H' v d → Z v H') (it ρ >>= fun xs => (compL T t el (wipeR ρ vs) xs).hush >>= fun ys => match intsOf ys with
      | some ns => if ns.length ≤ 4000 ∧ (metI ns).length < 64 then .ok (.list ((ascI ns).map .int)) else .no
      | none => .no) := by
    have e : mSortSet (mComp it T t el vs) ρ = (it ρ >>= fun xs => (compL T t el (wipeR ρ vs) xs).hush >>= fun ys => match intsOf ys with
      | some ns => if ns.length ≤ 4000 ∧ (metI ns).length < 64 then .ok (.list ((ascI ns).map .int)) else .no
      | none => .no) := by
      show (mComp it T t el vs ρ >>= _) = _
      unfold mComp
      cases it ρ with
      | exc c d => rfl
      | no => rfl
      | ok xs =>
        simp only [Rs.bind_ok]
        cases (compL T t el (wipeR ρ vs) xs).hush <;> rfl
    rw [e] at ho
    exact ho
  refine ⟨A0, A, ρ, hs, ho'.bind.mono fun xs h1 J H1 s1 hz wk D nD => ?_⟩
  cases ec : (compL T t el (wipeR ρ vs) xs).hush with
  | exc c d => cases e2 : compL T t el (wipeR ρ vs) xs <;> rw [e2] at ec <;> cases ec
  | no => rw [ec] at h1; exact h1.elim
  | ok ys =>
  rw [ec, Rs.bind_ok] at h1
  cases ei : intsOf ys with
  | none => rw [ei] at h1; exact h1.elim
  | some ns =>
  rw [ei] at h1
  dsimp only at h1
  split at h1
  case isFalse => exact h1.elim
  rename_i hl
  have fin : ∀ v H', Same H H' → Res A kp true H H' v (.list ((ascI ns).map .int)) → Z v H' := h1
  have ec' := hush_ok ec
  obtain rfl := intsOf_eq ei
  have hs1 := hs.mono s1
  have nA : D ∉ A := fun m => by obtain ⟨o, e⟩ := hs1.dom D m; rw [nD] at e; cases e
  have scan : (4001 : Nat) < scanBound := by unfold scanBound; decide
  refine ⟨fun i m H2 => m = xs.length - i ∧ i ≤ xs.length ∧ ∃ (n1 n2 : List Int), H2 D = some (SetO w D (fun j => decide (j ∈ n1)) (metI n1).length) ∧ compL T t el (wipeR ρ vs) (xs.drop i) = .ok (n2.map .int) ∧ ns = n1 ++ n2 ∧ Same H1 H2,
    ⟨xs.length, by simp, Nat.zero_le _, [], ns, upd_same, ec', rfl, same_new nD⟩, ?_⟩
  rintro i m H2 ⟨rfl, hi, n1, n2, hD, hc, en, s2⟩
  obtain ⟨w1, w2⟩ := wk H2 s2
  by_cases hlt : i < xs.length
  · have hx : xs[i]? = some xs[i] := List.getElem?_eq_getElem hlt
    have ed : xs.drop i = xs[i] :: xs.drop (i + 1) := List.drop_eq_getElem_cons hlt
    rw [ed] at hc
    unfold compL at hc
    obtain ⟨g1, g2⟩ := w2 i _ hx
    cases eT : T xs[i] (wipeR ρ vs) with
    | exc c d => rw [eT] at hc; cases hc
    | no => rw [eT] at hc; cases hc
    | ok ρ1 =>
    rw [eT] at hc
    have hc1 : (t ρ1 >>= fun b => if b = true then ((el ρ1).hush >>= fun y => compL T t el (wipeR ρ vs) (xs.drop (i + 1)) >>= fun ys => .ok (y :: ys)) else compL T t el (wipeR ρ vs) (xs.drop (i + 1))) = .ok (n2.map .int) := hc
    cases eb : t ρ1 with
    | exc c d => rw [eb] at hc1; cases hc1
    | no => rw [eb] at hc1; cases hc1
    | ok b =>
    rw [eb] at hc1
    refine .inr ⟨g1, fun H3 => ∃ (n1 n2 : List Int), H3 D = some (SetO w D (fun j => decide (j ∈ n1)) (metI n1).length) ∧ compL T t el (wipeR ρ vs) (xs.drop (i + 1)) = .ok (n2.map .int) ∧ ns = n1 ++ n2 ∧ Same H1 H3,
      fun H3 q => ⟨xs.length - (i + 1), by omega, rfl, hlt, q⟩, fun x H3 yy => ?_⟩
    obtain ⟨s3, q3⟩ := g2 x H3 yy
    have stA : StA mg.K A0 (D :: A) (wipeR ρ vs) (wipe sg vs) H3 := (hs1.wipe vs).addOwn nD (s2.trans s3) ⟨⟨SetO w D (fun j => decide (j ∈ n1)) (metI n1).length, fun _ z => nomatch z⟩, s3 _ _ hD⟩
    have rx := q3 (D :: A) (fun a ma => by
      rcases List.mem_cons.mp ma with rfl | ma
      · exact .inr nD
      · exact .inl ma) (fun a ma => by
      rcases List.mem_cons.mp ma with rfl | ma
      · exact ⟨⟨SetO w a (fun j => decide (j ∈ n1)) (metI n1).length, fun _ z => nomatch z⟩, hD⟩
      · obtain ⟨o, e⟩ := hs1.dom a ma
        exact ⟨o, s2 _ _ e⟩)
    refine ⟨A0, D :: A, wipeR ρ vs, xs[i], ρ1, stA, rx, eT, fun sg2 st2 ag => ⟨?_, ?_⟩⟩
    · rw [wipe_agree (ag.mono hS), wipe_wipe]
    refine ⟨A0, D :: A, ρ1, st2, ?_⟩
    rw [eb]
    intro H4 s4
    cases b with
    | false =>
      have hc2 : compL T t el (wipeR ρ vs) (xs.drop (i + 1)) = .ok (n2.map .int) := hc1
      exact ⟨n1, n2, s4 _ _ (s3 _ _ hD), hc2, en, s2.trans (s3.trans s4)⟩
    | true =>
      have hc2 : ((el ρ1).hush >>= fun y => compL T t el (wipeR ρ vs) (xs.drop (i + 1)) >>= fun ys => .ok (y :: ys)) = .ok (n2.map .int) := hc1
      cases ee : (el ρ1).hush with
      | exc c d => rw [ee] at hc2; cases hc2
      | no => rw [ee] at hc2; cases hc2
      | ok y =>
      rw [ee] at hc2
      have ee' := hush_ok ee
      cases er : compL T t el (wipeR ρ vs) (xs.drop (i + 1)) with
      | exc c d => rw [er] at hc2; cases hc2
      | no => rw [er] at hc2; cases hc2
      | ok y3 =>
      rw [er] at hc2
      have e3 : y :: y3 = n2.map .int := by injection hc2
      cases n2 with
      | nil => cases e3
      | cons k n3 =>
      injection e3 with e4 e5
      subst e4
      refine ⟨A0, D :: A, ρ1, st2.mono s4, ?_⟩
      rw [ee']
      intro v H5 s5 r5
      have len : n1.length + (n3.length + 1) ≤ 4000 := by
        have := hl.1
        rw [en, List.length_append] at this
        exact this
      have lm := metI_len n1
      refine ⟨k, fun j => decide (j ∈ n1), (metI n1).length, r5.1.kept |> fun z => (by cases z; rfl), s5 _ _ (s4 _ _ (s3 _ _ hD)), by omega, n1 ++ [k], n3, ?_, by rw [e5], by rw [en]; simp, ?_⟩
      · rw [upd_same]
        have ef : (fun j => decide (j ∈ n1) || decide (j = k)) = fun j => decide (j ∈ n1 ++ [k]) := by
          funext j
          simp
        rw [ef, metI_snoc]
        simp
      · intro a o e
        rw [upd_ne (ne_of_none e nD)]
        exact s5 _ _ (s4 _ _ (s3 _ _ (s2 _ _ e)))
  · have ei' : i = xs.length := by omega
    subst ei'
    refine .inl ⟨w1, D, _, _, rfl, hD, ?_, fun out p pw mem len np => ?_⟩
    · have : (metI n1).length ≤ (metI ns).length := by
        rw [en]
        refine (metI_nd n1).length_le_of_subset fun x m => ?_
        rw [metI_has] at m ⊢
        exact List.mem_append_left _ m
      omega
    · rw [List.drop_length] at hc
      have e2 : n2 = [] := by
        cases n2 with
        | nil => rfl
        | cons k n3 => cases hc
      subst e2
      rw [List.append_nil] at en
      subst en
      have eo : out = ascI ns := ascI_is pw fun k => by rw [mem k, decide_eq_true_eq]
      rw [eo]
      have s12 : Same H1 H2 := s2
      have la : (ascI ns).length ≤ sizeLine := by
        rw [sizeLine_eq]
        have : (ascI ns).length = (metI ns).length := (List.mergeSort_perm _ _).length_eq
        omega
      exact fin _ _ (s1.trans (s2.trans (same_new np))) (Res.newL (hs1.mono s2).dom (rpAll_ints _ _) (by rw [List.length_map]; exact la) np (s1.trans s2))
theorem sound_sortSC {X : Cx} {W : WX} {elt tg iter : Expr} {ifs : List Expr} {scope : Scope} {own : List (Str × Nat)} {p pos pos2 : Pos} {it : Its} {T : Tg} {t : Ts} {el : M} {S : List Nat} {kp fr : Bool}
    (hc : X.calm = true) (g1 : Gl X "sorted") (m1 : X.mg "sorted" = none) (nd : X.N.Nodup) (ok : BlkOk X.N X.env.scope scope own) (hS : ∀ i ∈ S, i ∈ own.map (·.2)) (hi : PI X tg iter (tvI (gm X) W false it))
    (hg : BlkP X scope fun Y => PG Y tg (tvG X.K T S)) (ht : BlkP X scope fun Y => PTs Y ifs (tvT (gm X) noW t)) (he : BlkP X scope fun Y => PE Y elt (tvM (gm X) noW el true fr))
    (hf : ∀ x, foldedSetIterable iter X.env x = pure x) : PE X (.Call (.Name "sorted" p) [.SetComp elt [⟨tg, iter, ifs, 0⟩] scope pos] [] pos2) (tvM (gm X) W (mSortSet (mComp it T t el (own.map (·.2)))) kp true) := by
  refine peBy (pe_callB (cr_sortedSet hc) g1 m1 boot_sorted (pa_cons (pe_scI hc nd hi ok hg ht he hf) pa_nil) (by decide) rfl rfl rfl) fun sg H Z h => ?_
  exact sc_in (w := X.w) (fr := fr) hS h
end Sm

/-! A comprehension over the items of an owned dict of int keys; the dict stands locked meanwhile. -/
namespace Sm
open PySem PySem.Spec L2
def isIk : PyData × PyData → Bool
  | (.int _, _) => true
  | _ => false
def itemsD (kvs : List (PyData × PyData)) : List PyData := kvs.map fun p => .tuple [p.1, p.2]
def mCompI (i : Nat) (T : Tg) (t : Ts) (el : M) (vs : List Nat) : M := fun ρ => match ρ[i]? with
  | some (.ow (.dict kvs)) => if kvs.all isIk = true ∧ kvs.length ≤ 100000 then (compL T t el (wipeR (ρ.set i .un) vs) (itemsD kvs)).hush >>= fun ys => .ok (.list ys) else .no
  | _ => .no
theorem RpKs.at {H : Hp} : ∀ {ks : List (Key × V)} {kvs : List (PyData × PyData)}, RpKs H ks kvs → ks.length = kvs.length ∧ ∀ (i : Nat) (p : PyData × PyData), kvs[i]? = some p → ∃ k w, ks[i]? = some (k, w) ∧ p.1 = keyD k ∧ Rp H w p.2
  | _, _, .nil => ⟨rfl, fun i p h => by simp at h⟩
  | _, _, .cons (k := k) (v := v) a b => by
    obtain ⟨e, f⟩ := RpKs.at b
    refine ⟨by simp [e], fun i p h => ?_⟩
    cases i with
    | zero =>
      simp only [List.getElem?_cons_zero, Option.some.injEq] at h
      subst h
      exact ⟨k, v, rfl, rfl, a⟩
    | succ i =>
      simp only [List.getElem?_cons_succ] at h
      exact f i p h
/-- the cell's dict is locked -/
theorem StA.lock {K : PySem.W.Frag} {A0 A : List Addr} {ρ : Rho} {sg : St} {H : Hp} {i : Nat} {kvs : List (PyData × PyData)} {a : Addr} {od : Obj} {ks : List (Key × V)} (hs : StA K A0 A ρ sg H) (hi : ρ[i]? = some (.ow (.dict kvs))) (h1 : sg[i]? = some (some (.ref a))) (h2 : a ∈ A) (h3 : H a = some (.dK ks)) :
    StA K A0 A (ρ.set i .un) sg (upd H a (.frz od (.dK ks))) := by
  have other : ∀ (j : Nat) (c : Cell), (ρ.set i .un)[j]? = some c → c = .un ∨ (j ≠ i ∧ ρ[j]? = some c) := by
    intro j c h
    by_cases e : i = j
    · subst e
      by_cases hl : i < ρ.length
      · rw [List.getElem?_set_self hl] at h
        cases h
        exact .inl rfl
      · rw [List.getElem?_eq_none (by simp; omega)] at h
        cases h
    · rw [List.getElem?_set_ne e] at h
      exact .inr ⟨fun q => e q.symm, h⟩
  refine ⟨by simp [hs.len], fun b m => ?_, hs.sub, fun j d e => ?_, fun j d e => ?_, fun j b ns e => ?_, fun j k d e q1 q2 q3 => ?_⟩
  · by_cases q : b = a
    · rw [q, upd_same]; exact ⟨⟨.frz od (.dK ks), fun _ z => nomatch z⟩, rfl⟩
    · rw [upd_ne q]; exact hs.dom b m
  · rcases other j _ e with z | ⟨_, z⟩
    · cases z
    · rw [hide_upd h2]; exact hs.sh j d z
  · rcases other j _ e with z | ⟨ne, z⟩
    · cases z
    · obtain ⟨b, g1, g2, g3, g4⟩ := hs.ow j d z
      have nb : b ≠ a := fun q => ne (hs.inj j i d _ z hi (by rw [g1, h1, q]))
      exact ⟨b, g1, g2, g3, OwnAt.mono (by rw [hide_upd h2]; exact Same.refl _) (upd_ne nb) g4⟩
  · rcases other j _ e with z | ⟨_, z⟩
    · cases z
    · obtain ⟨g1, g2⟩ := hs.fz j b ns z
      refine ⟨g1, g2.mono fun c o u q => ?_⟩
      have nc : c ≠ a := fun w => by rw [w, h3] at q; cases q
      rw [upd_ne nc]; exact q
  · rcases other j _ q1 with z | ⟨n1, z1⟩
    · cases z
    · rcases other k _ q2 with z | ⟨n2, z2⟩
      · cases z
      · exact hs.inj j k d e z1 z2 q3
theorem walks_items {A : List Addr} {Hf : Hp} {a : Addr} {od : Obj} {ks : List (Key × V)} {kvs : List (PyData × PyData)} (ha : Hf a = some (.frz od (.dK ks))) (r : RpKs (Hide A Hf) ks kvs) (ok : kvs.all isIk = true) : Walks (relOf false A) A Hf (Iti a od ks) (itemsD kvs) := by
  obtain ⟨el, at'⟩ := RpKs.at r
  intro H2 rel
  have s : Same Hf H2 := rel
  have h2 := s _ _ ha
  refine ⟨⟨h2, by simp [itemsD, el]⟩, fun i d hd => ?_⟩
  unfold itemsD at hd
  rw [List.getElem?_map] at hd
  cases e : kvs[i]? with
  | none => rw [e] at hd; cases hd
  | some p =>
    rw [e] at hd
    cases hd
    obtain ⟨k, w, g1, g2, g3⟩ := at' i p e
    have il : i < ks.length := by
      rcases Nat.lt_or_ge i ks.length with z | z
      · exact z
      · rw [List.getElem?_eq_none z] at g1; cases g1
    refine ⟨⟨h2, il⟩, fun v H3 ⟨T, k', v', q1, q2, q3, q4⟩ => ?_⟩
    rw [g1] at q1
    cases q1
    subst q2 q4
    have ip := List.all_eq_true.mp ok p (List.mem_of_getElem? e)
    refine ⟨same_new q3, fun A' g dm => rp_pair dm q3 ?_ (g3.mono (hide_grow (rel_kept rel) g))⟩
    rw [g2]
    cases k with
    | inl j => exact .int j
    | inr x =>
      obtain ⟨p1, p2⟩ := p
      have z : p1 = .str x := g2
      rw [z] at ip
      cases ip
/-- back from the lock -/
theorem res_unlock {A : List Addr} {H H' : Hp} {a : Addr} {u fr : HO} {v : V} {ys : List PyData} {kp : Bool} (ma : a ∈ A) (h3 : H a = some u) (nl : ∀ vs, H' a ≠ some (.lst vs)) (r : Res A kp true (upd H a fr) H' v (.list ys)) : Res A kp true H (upd H' a u) v (.list ys) := by
  have own : ∀ (B : List Addr) (b : Addr), a ∈ B → OwnAt B H' b (.list ys) → OwnAt B (upd H' a u) b (.list ys) := fun B b mb o => by
    have nb : b ≠ a := fun q => by
      obtain ⟨vs, e, _⟩ := o
      exact nl vs (by rw [← q]; exact e)
    exact OwnAt.mono (by rw [hide_upd mb]; exact Same.refl _) (upd_ne nb) o
  refine ⟨?_, fun e => ?_⟩
  · rcases r.1 with z | ⟨e, b, mb, ev, o⟩
    · exact .inl (by rw [hide_upd ma]; exact z)
    · exact .inr ⟨e, b, mb, ev, own A b ma o⟩
  · obtain ⟨b, ev, nb, o⟩ := r.2 e
    have ne : b ≠ a := fun q => by rw [q, upd_same] at nb; cases nb
    rw [upd_ne ne] at nb
    exact ⟨b, ev, nb, own (b :: A) b (List.mem_cons_of_mem _ ma) o⟩
theorem compI_in {mg : Gm} {W : WX} {i : Nat} {T : Tg} {t : Ts} {el : M} {S vs : List Nat} {kp fr : Bool} {sg : St} {H : Hp} {Z : VK} (hS : ∀ i ∈ S, i ∈ vs)
    (h : tvM mg W (mCompI i T t el vs) kp true sg H Z) : tLockE (tLc (iItems (tVar i)) (tvG mg.K T S) (tvT mg noW t) (tvM mg noW el true fr) vs) sg H Z := by
  obtain ⟨A0, A, ρ, hs, ho⟩ := h
  unfold mCompI at ho
  split at ho
  · rename_i kvs hi
    split at ho
    · rename_i ok
      obtain ⟨a, h1, h2, h3, h4⟩ := hs.ow i _ hi
      have hk : ∃ ks, H a = some (.dK ks) ∧ RpKs (Hide A H) ks kvs := by
        rcases h4 with z | ⟨ks, e, ne, rt⟩
        · exact z
        · cases rt with
          | nil => exact absurd rfl ne
          | cons _ _ =>
            have := ok.1
            simp [isIk] at this
      obtain ⟨ks, hd, rk⟩ := hk
      cases ec : (compL T t el (wipeR (ρ.set i .un) vs) (itemsD kvs)).hush with
      | exc c d => cases e2 : compL T t el (wipeR (ρ.set i .un) vs) (itemsD kvs) <;> rw [e2] at ec <;> cases ec
      | no => rw [ec] at ho; exact ho.elim
      | ok ys =>
        rw [ec] at ho
        have fin : ∀ v H', Same H H' → Res A kp true H H' v (.list ys) → Z v H' := ho
        refine ⟨a, .dK ks, hd, trivial, fun od => ?_⟩
        have hs1 := hs.lock (od := od) hi h1 h2 hd
        refine ⟨.ref a, h1, a, od, ks, rfl, upd_same, fun D nD => ?_⟩
        refine comp_core (mg := mg) (fr := fr) (Z := fun v H' => H' a = some (.frz od (.dK ks)) ∧ Z v (upd H' a (.dK ks))) (kp := kp) hS hs1 (by simp [itemsD]; have := ok.2; rw [sizeLine_eq]; omega) (walks_items upd_same (by rw [hide_upd h2]; exact rk) ok.1) (hush_ok ec) (fun v H' s r => ?_) nD
        have ha := s _ _ (upd_same (H := H) (a := a) (o := .frz od (.dK ks)))
        refine ⟨ha, fin v _ (fun b o e => ?_) (res_unlock h2 hd (fun vs z => by rw [ha] at z; cases z) r)⟩
        by_cases q : b = a
        · rw [q] at e ⊢
          rw [upd_same, ← e, hd]
        · rw [upd_ne q]
          exact s _ _ (by rw [upd_ne q]; exact e)
    · exact ho.elim
  · exact ho.elim
theorem sound_compI {X : Cx} {W : WX} {elt d : Expr} {elts : List Expr} {kk : Nat} {tpos apos cpos : Pos} {ifs : List Expr} {scope : Scope} {own : List (Str × Nat)} {pos : Pos} {i : Nat} {T : Tg} {t : Ts} {el : M} {S : List Nat} {kp fr : Bool}
    (hc : X.calm = true) (nd : X.N.Nodup) (ok : BlkOk X.N X.env.scope scope own) (hS : ∀ i ∈ S, i ∈ own.map (·.2)) (hd : PE X d (tVar i)) (hb : attributeBase d "items" X.env (eval d X.env) = eval d X.env) (hl : (apos.endLine == cpos.line) = true)
    (hg : ∀ (s : Shared) (H : Hp) (C : Addr) (cl : List (Str × Addr)) (fp : List Addr), PG (X.blk s H scope (compEnvC scope cl C X.env) fp) (.Tuple elts kk tpos) (tvG X.K T S))
    (ht : ∀ (s : Shared) (H : Hp) (C : Addr) (cl : List (Str × Addr)) (fp : List Addr), PTs (X.blk s H scope (compEnvC scope cl C X.env) fp) ifs (tvT (gm X) noW t))
    (he : ∀ (s : Shared) (H : Hp) (C : Addr) (cl : List (Str × Addr)) (fp : List Addr), PE (X.blk s H scope (compEnvC scope cl C X.env) fp) elt (tvM (gm X) noW el true fr)) :
    PE X (.ListComp elt [⟨.Tuple elts kk tpos, .Call (.Attribute d "items" apos) [] [] cpos, ifs, 0⟩] scope pos) (tvM (gm X) W (mCompI i T t el (own.map (·.2))) kp true) :=
  peBy (pe_lock (pe_lc hc nd (pi_items hd hb hl) ok hg ht he (fun _ => rfl))) fun _ _ _ h => compI_in hS h
end Sm

/-! x.remove(e), x an owned list of ints. -/
namespace Sm
open PySem PySem.Spec L2
def sRem (i : Nat) (m : M) : Sx := fun ρ => match owL ρ[i]? with
  | some ds => lf (m ρ) ρ fun d => match intsOf ds, d with
    | some ns, .int k => if k ∈ ns then .nx (ρ.set i (.ow (.list ((ns.erase k).map .int)))) else .no
    | _, _ => .no
  | none => .no
section
variable {X : Cx} {W : WX} {A0 : List Addr} {H0 : Hp} {rf : Bool} {e : Expr} {m : M} {pos : Pos}
theorem rp_intsL {H : Hp} : ∀ ns : List Int, RpAll H (ns.map V.int) (ns.map .int)
  | [] => .nil
  | n :: ns => .cons (.int n) (rp_intsL ns)
theorem soundS_rem {x : Str} {i : Nat} {p1 apos cpos : Pos} {fr : Bool} (hc : X.calm = true) (tk : Takes X W) (hN : X.N[i]? = some x) (hv : Vis X.env.scope x) (h1 : (x == ("__debug__" : Str)) = false) (h2 : (x == ("__classdict__" : Str)) = false) (n : noStar e = true)
    (hl : (apos.endLine == cpos.line) = true) (he : PE X e (tvM (gm X) W m false fr)) : PS X (.Expr (.Call (.Attribute (.Name x p1) "remove" apos) [e] [] cpos) pos) (tvS (gm X) W A0 H0 rf (sRem i m)) := by
  have call := L2.pe_remX hc tk (pe_var (pos := p1) hN hv h1 h2) he (apos := apos) (cpos := cpos) rfl (one_few n) hl (star_ne n) rfl
  refine psBy (ps_expr call rfl) ?_
  rintro D sg H ⟨A, ρ, hs, p⟩
  unfold sRem at p
  cases eo : owL ρ[i]? with
  | none => rw [eo] at p; exact p.elim
  | some ds =>
    rw [eo] at p
    have ei := owL_eq eo
    obtain ⟨a, ea, m1, m2, us, hu, hz, ru⟩ := hs.st.ow i _ ei
    refine ⟨.ref a, ea, .inl ⟨rfl, us, .inl (.inl hu)⟩, A0, A, ρ, hs.st, (lf_oc hs p).mono fun d q v H2 s2 r2 => ?_⟩
    split at q
    · rename_i ns k eis
      split at q
      · rename_i hk
        have hu2 : H2 a = some (.lst us) := s2 _ _ hu
        have hs2 := hs.mono s2
        have ru2 := ru
        rw [intsOf_eq eis] at ru2
        have eu := ru2.ints
        subst eu
        have q1 : OwnAt A (upd H2 a (.lst ((ns.erase k).map V.int))) a (.list ((ns.erase k).map .int)) := by
          refine ⟨_, upd_same, ?_, ?_⟩
          · rw [List.length_map] at hz ⊢
            have := List.length_erase_le (a := k) (l := ns)
            omega
          · rw [hide_upd m1]
            exact rp_intsL _
        refine ⟨a, ns, k, rfl, r2.1.int, hu2, fun _ => ?_, fun z => absurd hk z⟩
        exact q A sg _ (hs2.put m1 m2 (hs2.st.chOw ei ea m1 m2 q1)) ((Trk.same s2).trans (Trk.put m1))
      · exact q.elim
    · exact q.elim
end
end Sm

/-! Dicts: displays, get, a store into an owned one. -/
namespace Sm
open PySem PySem.Spec L2

/-! ### d.get(k, x) -/
def dGet2 : PyData → PyData → PyData → Rs PyData
  | .dict kvs, q, z => if kindB kvs q then .ok ((lookD kvs q).getD z) else .no
  | _, _, _ => .no
def mGet2 (a b c : M) : M := fun ρ => do
  let x ← a ρ
  match x with
  | .dict kvs => do
    let y ← b ρ
    let z ← c ρ
    dGet2 (.dict kvs) y z
  | _ => .no
def tDG2 (td ty tx : TE) : TE := fun σ H Q => td σ H fun x H1 => ∃ a, x = .ref a ∧ IsD H1 a ∧ ty σ H1 fun y H2 => tx σ H2 fun z H3 => ∃ o, DG H3 a y o ∧ Q (o.getD z) H3
section
variable {X : Cx} {o e f : Expr} {apos cpos : Pos} {td ty tx : TE}
theorem pe_dg2 (hu : X.A.units + 1 < cLine) (ho : PE X o td) (he : PE X e ty) (hf : PE X f tx) (m : M2 X o "get" apos e f cpos) : PE X (.Call (.Attribute o "get" apos) [e, f] [] cpos) (tDG2 td ty tx) := by
  constructor
  intro pn st sg H Q inv h
  refine wpAny_Call_method m.base m.few m.line PySem.F.plainAttrs_dict PySem.F.slot_dict_get PySem.F.type_dict_get (thn (ho.run pn st sg H _ inv h) ?_)
  rintro u s1 ⟨x, H1, i1, rx, a, ex, isd, q1⟩
  subst ex
  cases (show u = Value.ref a from rx)
  obtain ⟨t1, t2, _⟩ := isD_at i1 isd
  refine ⟨t1, t2, ?_⟩
  rw [m.trees]
  refine Calls.callWith_builtin rfl (Calls.evalArgs_plain (Calls.spliced_cons (thn (he.run pn s1 sg H1 _ i1 q1) ?_)))
  rintro iv s2 ⟨y, H2, i2, ry, q2⟩
  refine Calls.spliced_cons (thn (hf.run pn s2 sg H2 _ i2 q2) ?_)
  rintro fv s3 ⟨z, H3, i3, rz, ov, g, q3⟩
  refine Calls.spliced_nil ?_
  exact dg_get2 hu i3 g ry rz fun w' s4 i4 rw' => ⟨_, H3, i4, rw', q3⟩
end
theorem two_few {e f : Expr} {env : Env} {ps : Pos} (n : noStar e = true) (m : noStar f = true) :
    ((backTo ps (starEach [e, f] env)).all (fun x => !x.1) && (backToKw ps (keywordEach [] env)).all (fun x => x.1.isSome) && decide ([e, f].length + ([] : List Keyword).length + (if ([] : List Keyword).isEmpty then 0 else 1) < 30)) = true := by
  rw [star_ne n, star_ne m]; rfl
theorem two_trees {e f : Expr} {env : Env} {ps : Pos} (n : noStar e = true) (m : noStar f = true) : backTo ps (starEach [e, f] env) = [(false, eval e env), (false, eval f env)] := by
  rw [star_ne n, star_ne m]; rfl
section
variable {X : Cx} {W : WX} {a e f : Expr} {ma me mf : M} {apos cpos : Pos} {kp fa fe ff : Bool}
theorem sound_get2 (hu : X.A.units + 65 < cLine) (hb : attributeBase a "get" X.env (eval a X.env) = eval a X.env) (n : noStar e = true) (n2 : noStar f = true) (hl : (apos.endLine == cpos.line) = true) (ha : PE X a (tvM (gm X) W ma false fa)) (he : PE X e (tvM (gm X) W me false fe)) (hf : PE X f (tvM (gm X) W mf true ff)) :
    PE X (.Call (.Attribute a "get" apos) [e, f] [] cpos) (tvM (gm X) W (mGet2 ma me mf) kp false) := by
  refine peBy (pe_dg2 (by omega) ha he hf ⟨hb, two_few n n2, hl, two_trees n n2⟩) ?_
  rintro sg H Z ⟨A0, A, ρ, hs, ho⟩
  refine ⟨A0, A, ρ, hs, ho.bind.mono fun d h1 v H1 s1 r1 => ?_⟩
  cases d with
  | dict kvs =>
    have hs1 := hs.mono s1
    obtain ⟨a, rfl, hd⟩ := r1.1.dict
    have isd : IsD H1 a := by
      rcases hd with ⟨ks, e, _⟩ | ⟨ks, e, _, _⟩
      · exact .inl ⟨ks, e⟩
      · exact .inr ⟨ks, e⟩
    refine ⟨a, rfl, isd, A0, A, ρ, hs1, (h1.later s1).bind.mono fun q h2 y H2 s2 r2 => ?_⟩
    refine ⟨A0, A, ρ, hs1.mono s2, (Oc.later s2 h2).bind.mono fun z h3 w H3 s3 r3 => ?_⟩
    by_cases k : kindB kvs q = true
    · rw [show dGet2 (.dict kvs) q z = .ok ((lookD kvs q).getD z) from if_pos k] at h3
      obtain ⟨a', o, ea, _, g, ro⟩ := vw_dg ((r1.1.mono s2).mono s3) (r2.1.mono s3) k
      cases ea
      refine ⟨o, g, ?_⟩
      have h3' : ∀ v H', Same H H' → Res A kp false H H' v ((lookD kvs q).getD z) → Z v H' := h3
      refine h3' _ H3 (s1.trans (s2.trans s3)) (Res.ofKeep ?_)
      cases o with
      | none =>
        cases e : lookD kvs q with
        | none => exact r3.1.kept
        | some d => rw [e] at ro; exact ro.elim
      | some v =>
        cases e : lookD kvs q with
        | none => rw [e] at ro; exact ro.elim
        | some d => rw [e] at ro; exact ro
    · rw [show dGet2 (.dict kvs) q z = .no from if_neg k] at h3; exact h3.elim
  | _ => exact h1.elim
end

/-! ### displays -/
/-- the pairs are stored, from the left -/
inductive StAll (p : Addr) : Hp → List (V × V) → Hp → Prop
  | nil {H : Hp} : StAll p H [] H
  | cons {H H1 H2 : Hp} {y v : V} {r : List (V × V)} : DP H p y v H1 → StAll p H1 r H2 → StAll p H ((y, v) :: r) H2
section
variable {X : Cx} {pn : List (Addr × Obj)} {sg : L2.St} {H : Hp} {s : Shared} {a : Addr} {y v : V} {u r : Value} {E : Value → Shared → Prop}
theorem dp_dictSet {H' : Hp} {Q : Unit → Shared → Prop} (hu : X.A.units + 1 < cLine) (inv : Inv X pn sg H s) (g : DP H a y v H') (ry : RelV y u) (rv : RelV v r) (h : ∀ s', Inv X pn sg H' s' → Q () s') :
    wpAny (model X.prog X.w) X.A (dictSet a u r) Q E s := by
  have tcase : ∀ {H : Hp} {s : Shared} {kvs : List (List Key × V)} {k : List Key} {b : Addr} {Q : Unit → Shared → Prop}, Inv X pn sg H s → H a = some (.dT kvs) → RelV (.ref b) u → H b = some (.tup (k.map kV)) → kvs.length < sizeLine → (∀ s', Inv X pn sg (upd H a (.dT (putK kvs k v))) s' → Q () s') →
      wpAny (model X.prog X.w) X.A (dictSet a u r) Q E s := by
    intro H s kvs k b Q inv e ry eb l h
    cases (show u = Value.ref b from ry)
    obtain ⟨z, hd, xs, rel, dd⟩ := dt_of inv.hok e
    have lx : xs.length ≤ sizeLine := by rw [← Paired.length rel]; exact z
    have lk : (putK kvs k v).length ≤ sizeLine := by have := length_putK kvs k v; omega
    refine wpAny_dictSet_heap (hsz := lx) (show X.A.units < cLine by omega) (key_of inv.hok eb) dd fun h' dd' hs => h _ ?_
    obtain ⟨q, es, ep, hq, h2, h3, h4, _, h5⟩ := dd'
    refine d_write inv (by rw [e]; exact True.intro) hs ⟨q, hq⟩ ⟨lk, hd, _, (rel.put k eb rv).keeps fun c ys ec => ?_, q, es, ep, hq, h2, h3, h4, h5⟩
    rw [upd_ne (ne_of ec e (fun z => nomatch z))]
    exact ec
  rcases g with (⟨kvs, k, e, rfl, l, rfl⟩ | ⟨kvs, k, b, e, rfl, eb, l, rfl⟩) | ⟨k, b, e, rfl, eb, rfl⟩
  · exact d_dictSet inv e l ry rv h
  · exact tcase inv e ry eb l h
  · have ne : b ≠ a := ne_of eb e (fun z => nomatch z)
    have q := tcase (Q := Q) (to_T inv e) (kvs := []) (k := k) (b := b) upd_same ry (by rw [upd_ne ne]; exact eb) (by show 0 < sizeLine; decide) (by rw [upd_upd]; exact h)
    exact q
theorem st_all (hu : X.A.units + 1 < cLine) : ∀ {ps : List (V × V)} {ws : List (Value × Value)} {H H' : Hp} {s : Shared} {Q : PUnit → Shared → Prop}, VV ps ws → StAll a H ps H' → Inv X pn sg H s → (∀ s', Inv X pn sg H' s' → Q PUnit.unit s') →
    wpAny (model X.prog X.w) X.A (forIn ws PUnit.unit fun (x : Value × Value) (_ : PUnit) => (do dictSet a x.1 x.2; pure (ForInStep.yield PUnit.unit) : Sem (ForInStep PUnit))) Q E s
  | _, _, _, _, _, _, .nil, .nil, inv, h => by
    rw [List.forIn_nil]
    exact wpAny_pure (h _ inv)
  | _, _, _, _, _, _, .cons r0 r1, .cons g gs, inv, h => by
    rw [List.forIn_cons]
    refine wpAny_bind (wpAny_bind (dp_dictSet hu inv g r0.1 r0.2 fun s1 inv1 => wpAny_pure ?_))
    exact st_all hu r1 gs inv1 h
end
def tDispV (trs : List (TE × TE)) : TE := fun σ H Q => ∀ p, H p = none → tPairs trs σ (upd H p (.dK [])) fun ps H2 => ∃ H3, StAll p H2 ps H3 ∧ Q (.ref p) H3
theorem pe_dispV {X : Cx} {pos : Pos} {keys : List (Option Expr)} {values : List Expr} {trs : List (TE × TE)} (hu : X.A.units + 1 < cLine) (h : PPs X pos keys values trs) (hall : keys.all (·.isSome) = true) (hl : keys.length = values.length) (h0 : keys ≠ [])
    (h15 : keys.length ≤ 15) : PE X (.Dict keys values pos) (tDispV trs) := by
  constructor
  intro pn s sg H Q inv q
  have hn := inv.hok.fresh (Nat.le_refl s.heap.objs.size)
  have i1 := inv.laid (a := s.heap.objs.size) (o := .dK []) (h' := s.heap.push { cls := .type "dict", data := .dict #[] }) (t' := s.toks) (fun _ _ q => Heap.get?_push_of_some _ q) (Nat.le_refl _) (dk_empty s.heap inv.big)
  have ln := pairTrees_length keys values X.env pos hall hl
  have ne : pairTrees keys values X.env pos ≠ [] := by
    intro z
    rw [z] at ln
    exact h0 (List.length_eq_zero_iff.mp ln.symm)
  rw [arm_eval_Dict, zip_pairTrees keys values X.env pos hall hl, dictDisplay_pairs _ ne (by omega)]
  refine wpAny_bind (wpAny_standAt (wpAny_bind ?_))
  unfold subDict
  refine wpAny_bind (wpAny_alloc ?_)
  refine wpAny_bind (wpAny_holding ?_)
  rw [if_pos (by omega)]
  refine wpAny_bind (thn (h.run pn _ sg _ _ i1 (q _ hn)) ?_)
  rintro ws s2 ⟨ps, H2, i2, rel, H3, g, q2⟩
  refine wpAny_holding (wpAny_bind (st_all hu rel g i2 fun s3 i3 => wpAny_pure (wpAny_pure (wpAny_pure ⟨.ref _, H3, i3, rfl, q2⟩))))
def mPairs : List (M × M) → Rho → Rs (List (PyData × PyData))
  | [], _ => .ok []
  | (a, b) :: r, ρ => do
    let x ← a ρ
    let y ← b ρ
    let l ← mPairs r ρ
    .ok ((x, y) :: l)
def storeD : List (PyData × PyData) → List (PyData × PyData) → Rs PyData
  | kvs, [] => .ok (.dict kvs)
  | kvs, (q, v) :: r => if kindB kvs q = true ∧ kvs.length < 1000 then storeD (putD kvs q v) r else .no
def mDict (kms : List (M × M)) : M := fun ρ => do
  let l ← mPairs kms ρ
  storeD [] l
/-- more is hidden, the heap has grown -/
theorem Oc.hideMore {mg : Gm} {A B : List Addr} {H H' : Hp} {E : XK} {α : Type} {k : α → Prop} (s : Same H H') (sub : ∀ b ∈ A, b ∈ B) : ∀ {r : Rs α}, Oc mg A H E k r → Oc mg B H' E k r
  | .ok _, q => q
  | .exc _ _, q => fun Ca dx v H2 h1 h2 h3 h4 => q Ca dx v H2 h1 (s.trans h2) h3 (h4.mono (hide_sub sub))
  | .no, q => q
theorem storeD_ok {A : List Addr} {p : Addr} (hp : p ∈ A) : ∀ {ps : List (V × V)} {l : List (PyData × PyData)} {kvs : List (PyData × PyData)} {H : Hp} {d : PyData}, Paired (fun (x : V × V) (y : PyData × PyData) => Rp (Hide A H) x.1 y.1 ∧ Rp (Hide A H) x.2 y.2) ps l → OwnAt A H p (.dict kvs) →
    storeD kvs l = .ok d → ∃ H3, StAll p H ps H3 ∧ OwnAt A H3 p d ∧ Hide A H3 = Hide A H ∧ (∀ b, b ≠ p → H3 b = H b) ∧ ∃ kvs', d = .dict kvs'
  | _, _, kvs, H, d, .nil, o, e => by
    cases e
    exact ⟨H, .nil, o, rfl, fun _ _ => rfl, _, rfl⟩
  | _, _, kvs, H, d, .cons (a := x) (b := y) (l₁ := ps) (l₂ := l) r0 r, o, e => by
    obtain ⟨x1, x2⟩ := x
    obtain ⟨q, v⟩ := y
    unfold storeD at e
    by_cases c : kindB kvs q = true ∧ kvs.length < 1000
    · rw [if_pos c] at e
      obtain ⟨u, g, o2⟩ := own_dp hp o (.inl r0.1) r0.2 c.1 (by rw [sizeLine_eq]; omega)
      have hh : Hide A (upd H p u) = Hide A H := hide_upd hp
      have r' : Paired (fun (x : V × V) (y : PyData × PyData) => Rp (Hide A (upd H p u)) x.1 y.1 ∧ Rp (Hide A (upd H p u)) x.2 y.2) ps l := by
        rw [hh]
        exact r
      obtain ⟨H3, h1, h2, h3, h4, h5⟩ := storeD_ok hp r' o2 e
      exact ⟨H3, .cons g h1, h2, h3.trans hh, fun b hb => (h4 b hb).trans (upd_ne hb), h5⟩
    · rw [if_neg c] at e; cases e
section
variable {X : Cx} {W : WX} {kp : Bool} {pos : Pos}
/-- the parts of a display's pairs -/
inductive PrOk (X : Cx) (W : WX) : List (Option Expr) → List Expr → List (M × M) → Prop
  | nil : PrOk X W [] [] []
  | cons {k v : Expr} {ks : List (Option Expr)} {vs : List Expr} {a b : M} {r : List (M × M)} {fa fb : Bool} : PE X k (tvM (gm X) W a true fa) → PE X v (tvM (gm X) W b true fb) → PrOk X W ks vs r → PrOk X W (some k :: ks) (v :: vs) ((a, b) :: r)
def prT (mg : Gm) (W : WX) : List (M × M) → List (TE × TE)
  | [] => []
  | (a, b) :: r => (tvM mg W a true false, tvM mg W b true false) :: prT mg W r
theorem fr_any {e : Expr} {m : M} {f : Bool} (h : PE X e (tvM (gm X) W m true f)) : PE X e (tvM (gm X) W m true false) := by
  refine peBy h ?_
  rintro sg H Z ⟨A0, A, ρ, hs, ho⟩
  exact ⟨A0, A, ρ, hs, ho.mono fun d q v H' s r => q v H' s ⟨r.1, fun z => nomatch z⟩⟩
theorem prOk_pps : ∀ {ks : List (Option Expr)} {vs : List Expr} {kms : List (M × M)}, PrOk X W ks vs kms → PPs X pos ks vs (prT (gm X) W kms) ∧ ks.all (·.isSome) = true ∧ ks.length = vs.length ∧ kms.length = ks.length
  | _, _, _, .nil => ⟨pps_nil, rfl, rfl, rfl⟩
  | _, _, _, .cons a b r => by
    obtain ⟨h1, h2, h3, h4⟩ := prOk_pps r
    exact ⟨pps_cons (fr_any a) (fr_any b) h1, by simpa using h2, by simp [h3], by simp [h4]⟩
/-- the pairs' values -/
theorem prs_run {mg : Gm} {A0 A : List Addr} {ρ : Rho} : ∀ {kms : List (M × M)} {sg : St} {H : Hp} {Q : List (V × V) → Hp → Prop}, StA mg.K A0 A ρ sg H →
    Oc mg A H (fun c d H' => W c d sg H') (fun l => ∀ ps H', Same H H' → Paired (fun (x : V × V) (y : PyData × PyData) => Rp (Hide A H') x.1 y.1 ∧ Rp (Hide A H') x.2 y.2) ps l → Q ps H') (mPairs kms ρ) → tPairs (prT mg W kms) sg H Q
  | [], sg, H, Q, hs, ho => ho [] H (Same.refl _) .nil
  | (a, b) :: r, sg, H, Q, hs, ho => by
    have ho' : Oc mg A H (fun c d H' => W c d sg H') (fun l => ∀ ps H', Same H H' → Paired (fun (x : V × V) (y : PyData × PyData) => Rp (Hide A H') x.1 y.1 ∧ Rp (Hide A H') x.2 y.2) ps l → Q ps H') (a ρ >>= fun x => b ρ >>= fun y => mPairs r ρ >>= fun l => .ok ((x, y) :: l)) := ho
    refine ⟨A0, A, ρ, hs, ho'.bind.mono fun x h1 v1 H1 s1 r1 => ?_⟩
    refine ⟨A0, A, ρ, hs.mono s1, (Oc.later s1 h1).bind.mono fun y h2 v2 H2 s2 r2 => ?_⟩
    refine prs_run ((hs.mono s1).mono s2) ((Oc.later s2 h2).bind.mono fun l h3 ps H3 s3 r3 => ?_)
    have h3' : ∀ ps H', Same H H' → Paired (fun (x : V × V) (y : PyData × PyData) => Rp (Hide A H') x.1 y.1 ∧ Rp (Hide A H') x.2 y.2) ps ((x, y) :: l) → Q ps H' := h3
    exact h3' _ H3 (s1.trans (s2.trans s3)) (.cons ⟨r1.1.kept.mono (hide_same (s2.trans s3)), r2.1.kept.mono (hide_same s3)⟩ r3)
theorem own_new {A : List Addr} {H' : Hp} {p : Addr} {d : PyData} (np : p ∉ A) (o : OwnAt (p :: A) H' p d) : Rp (Hide A H') (.ref p) d :=
  OwnAt.share (hide_sub fun _ m => List.mem_cons_of_mem _ m) (fun u e => by rw [hide_out np]; exact e) o
theorem sound_dict {keys : List (Option Expr)} {values : List Expr} {kms : List (M × M)} (hu : X.A.units + 65 < cLine) (h : PrOk X W keys values kms) (h0 : kms ≠ []) (h15 : kms.length ≤ 15) : PE X (.Dict keys values pos) (tvM (gm X) W (mDict kms) kp true) := by
  obtain ⟨h1, h2, h3, h4⟩ := prOk_pps (pos := pos) h
  have hk : keys ≠ [] := by
    intro z
    rw [z] at h4
    exact h0 (List.length_eq_zero_iff.mp h4)
  refine peBy (pe_dispV (by omega) h1 h2 h3 hk (by omega)) ?_
  rintro sg H Z ⟨A0, A, ρ, hs, ho⟩ p np
  have pA : p ∉ A := fun m => by obtain ⟨o, e⟩ := hs.dom p m; rw [np] at e; cases e
  have sm : Same H (upd H p (.dK [])) := same_new np
  have hs' : StA (gm X).K A0 (p :: A) ρ sg (upd H p (.dK [])) := hs.addOwn np sm ⟨⟨.dK [], fun _ z => nomatch z⟩, upd_same⟩
  refine prs_run hs' ((Oc.hideMore sm (fun _ m => List.mem_cons_of_mem _ m) (show Oc (gm X) A H (fun c d H' => W c d sg H') (fun d => ∀ v H', Same H H' → Res A kp true H H' v d → Z v H') (mPairs kms ρ >>= fun l => storeD [] l) from ho).bind).mono fun l h5 ps H2 s2 r2 => ?_)
  cases e : storeD [] l with
  | ok d =>
    rw [e] at h5
    have o2 : OwnAt (p :: A) H2 p (.dict []) := .inl ⟨[], s2 _ _ upd_same, .nil⟩
    obtain ⟨H3, g, o3, _, keep, kvs', rfl⟩ := storeD_ok List.mem_cons_self r2 o2 e
    refine ⟨H3, g, ?_⟩
    have h5' : ∀ v H', Same H H' → Res A kp true H H' v (.dict kvs') → Z v H' := h5
    refine h5' _ H3 (fun b o eb => ?_) ⟨.inl (own_new pA o3), fun _ => show Fresh A H H3 (.ref p) (.dict kvs') from ⟨p, rfl, np, o3⟩⟩
    have nb : b ≠ p := ne_of_none eb np
    rw [keep b nb]
    exact s2 _ _ (sm _ _ eb)
  | exc c x =>
    have nx : ∀ (l kvs : List (PyData × PyData)), storeD kvs l ≠ .exc c x := by
      intro l
      induction l with
      | nil => intro kvs; simp [storeD]
      | cons y r ih =>
        intro kvs
        obtain ⟨q, v⟩ := y
        unfold storeD
        split
        · exact ih _
        · simp
    exact absurd e (nx _ _)
  | no => rw [e] at h5; exact h5.elim
theorem sound_dict0 : PE X (.Dict [] [] pos) (tvM (gm X) W (mC (.dict [])) kp true) := by
  refine peBy pe_dnewK ?_
  rintro sg H Z ⟨A0, A, ρ, hs, ho⟩ p np
  have pA : p ∉ A := fun m => by obtain ⟨o, e⟩ := hs.dom p m; rw [np] at e; cases e
  have o3 : OwnAt (p :: A) (upd H p (.dK [])) p (.dict []) := .inl ⟨[], upd_same, .nil⟩
  have h5 : ∀ v H', Same H H' → Res A kp true H H' v (.dict []) → Z v H' := ho
  exact h5 _ _ (same_new np) ⟨.inl (own_new pA o3), fun _ => show Fresh A H (upd H p (.dK [])) (.ref p) (.dict []) from ⟨p, rfl, np, o3⟩⟩
end

/-! ### a store -/
def owD (c : Option Cell) : Option (List (PyData × PyData)) := match c with
  | some (.ow (.dict kvs)) => some kvs
  | _ => none
theorem owD_eq {c : Option Cell} {ds : List (PyData × PyData)} (h : owD c = some ds) : c = some (.ow (.dict ds)) := by
  unfold owD at h
  split at h
  · cases h; rfl
  · cases h
def sPutD (i : Nat) (k m : M) : Sx := fun ρ => match owD ρ[i]? with
  | some kvs => lf (m ρ) ρ fun d => lf (k ρ) ρ fun q => if kindB kvs q = true ∧ kvs.length < 100000 then .nx (ρ.set i (.ow (.dict (putD kvs q d)))) else .no
  | none => .no
section
variable {X : Cx} {W : WX} {A0 : List Addr} {H0 : Hp} {rf : Bool} {pos : Pos} {e : Expr} {m : M}
theorem soundS_putD {x : Str} {i : Nat} {k : Expr} {mk : M} {p1 p2 : Pos} {fr : Bool} (hu : X.A.units + 65 < cLine) (hN : X.N[i]? = some x) (hv : Vis X.env.scope x) (h1 : (x == ("__debug__" : Str)) = false) (h2 : (x == ("__classdict__" : Str)) = false)
    (ha : ∀ v, assign (.Subscript (.Name x p1) k p2) X.env v = (do
      let ov ← holding [v] (eval (.Name x p1) X.env); let iv ← holding [v, ov] (eval k X.env)
      standAt p2; holding [v, ov, iv] (setItem ov iv v); release [v, ov, iv] []))
    (hs : swapsWithSole [.Subscript (.Name x p1) k p2] e pos.line X.env = pure false)
    (he : PE X e (tvM (gm X) W m true fr)) (hk : PE X k (tvM (gm X) W mk false false)) : PS X (.Assign [.Subscript (.Name x p1) k p2] e pos) (tvS (gm X) W A0 H0 rf (sPutD i mk m)) := by
  refine psBy (ps_asg he (pg_sub (pe_var hN hv h1 h2) hk (set_dictV (by omega)) ha) hs rfl rfl) ?_
  rintro D sg H ⟨A, ρ, hs, p⟩
  unfold sPutD at p
  cases eo : owD ρ[i]? with
  | none => rw [eo] at p; exact p.elim
  | some kvs =>
    rw [eo] at p
    have ei := owD_eq eo
    obtain ⟨a, ea, m1, m2, ow⟩ := hs.st.ow i _ ei
    refine ⟨A0, A, ρ, hs.st, (lf_oc hs p).mono fun d q v H2 s2 r2 => ?_⟩
    refine ⟨.ref a, ea, A0, A, ρ, hs.st.mono s2, (lf_oc (hs.mono s2) (Post.on (Trk.same s2) q)).mono fun y q3 w H3 s3 r3 => ?_⟩
    by_cases c : kindB kvs y = true ∧ kvs.length < 100000
    · have q' : Post (gm X) W A0 H0 rf A H2 D (.nx (ρ.set i (.ow (.dict (putD kvs y d))))) := by
        have q4 := q3
        rw [if_pos c] at q4
        exact q4
      have hs3 := (hs.mono s2).mono s3
      obtain ⟨o0, eo0⟩ := ow.there
      have ow3 : OwnAt A H3 a (.dict kvs) := ow.mono (hide_same (s2.trans s3)) (((s2.trans s3) _ _ eo0).trans eo0.symm)
      obtain ⟨u, g, o2⟩ := own_dp m1 ow3 r3.1 (r2.1.kept.mono (hide_same s3)) c.1 (by rw [sizeLine_eq]; omega)
      exact ⟨a, _, rfl, g, q' A sg _ (hs3.put m1 m2 (hs3.st.chOw ei ea m1 m2 o2)) ((Trk.same s3).trans (Trk.put m1))⟩
    · rw [if_neg c] at q3
      exact q3.elim
end
/-! ### i.bit_length() -/
def mBits (a : M) : M := fun ρ => do
  let x ← a ρ
  match x with
  | .int i => okI (Builtin.Int.intBits i : Nat)
  | _ => .no
theorem sound_bits {X : Cx} {W : WX} {a : Expr} {ma : M} {apos cpos : Pos} {kp fa : Bool} (hb : attributeBase a "bit_length" X.env (eval a X.env) = eval a X.env) (hl : (apos.endLine == cpos.line) = true) (ha : PE X a (tvM (gm X) W ma false fa)) :
    PE X (.Call (.Attribute a "bit_length" apos) [] [] cpos) (tvM (gm X) W (mBits ma) kp true) := by
  refine peBy (pe_bits ha hb hl) ?_
  rintro sg H Z ⟨A0, A, ρ, hs, ho⟩
  refine ⟨A0, A, ρ, hs, ho.bind.mono fun d h1 v H1 s1 r1 => ?_⟩
  cases d with
  | int i =>
    cases r1.1.int
    exact ⟨i, rfl, h1 _ H1 s1 (Res.flat (.int _) (fun _ e => nomatch e) (fun _ e => nomatch e))⟩
  | _ => exact h1.elim
end Sm

/-! sorted(d.items()); comprehensions with two fors. -/
namespace Sm
open PySem PySem.Spec PyProof.Rows L2
open PySem.W (dataLe)
open Classical in
noncomputable def dSortI : PyData → Rs PyData
  | .dict kvs => if kvs.all (fun p => isKeyI p.1) = true ∧ sortsOkE (dItems kvs) then .ok (.list ((dItems kvs).mergeSort (dataLe false id))) else .no
  | _ => .no
theorem dSortI_ok {kvs : List (PyData × PyData)} (h1 : kvs.all (fun p => isKeyI p.1) = true) (h2 : sortsOkE (dItems kvs)) : dSortI (.dict kvs) = .ok (.list ((dItems kvs).mergeSort (dataLe false id))) := if_pos ⟨h1, h2⟩
theorem dSortI_inv {d z : PyData} (h : dSortI d = .ok z) : ∃ kvs, d = .dict kvs ∧ kvs.all (fun p => isKeyI p.1) = true ∧ sortsOkE (dItems kvs) ∧ z = .list ((dItems kvs).mergeSort (dataLe false id)) := by
  unfold dSortI at h
  split at h
  · split at h
    · rename_i c
      cases h
      exact ⟨_, rfl, c.1, c.2, rfl⟩
    · cases h
  · cases h
theorem dSortI_nx (d : PyData) (c : Str) (x : PyData) : dSortI d ≠ .exc c x := by
  unfold dSortI
  split
  · split <;> simp
  · simp
noncomputable def mSortItems (m : M) : M := fun ρ => m ρ >>= dSortI
def tItems (td : TE) : TE := fun σ H Q => td σ H fun x H1 => ∃ (a : Addr) (A : List Addr) (kvs : List (PyData × PyData)), x = .ref a ∧ Dom A H1 ∧ IsDi A H1 a kvs ∧ kvs.all (fun p => isKeyI p.1) = true ∧ ∀ p, H1 p = none → Q (.ref p) (upd H1 p (DX.itemsO p a))
section
variable {X : Cx} {o : Expr} {apos cpos : Pos} {td : TE}
theorem pe_itemsG (ho : PE X o td) (hb : attributeBase o "items" X.env (eval o X.env) = eval o X.env) (hl : (apos.endLine == cpos.line) = true) : PE X (.Call (.Attribute o "items" apos) [] [] cpos) (tItems td) := by
  constructor
  intro pn st sg H Q inv h
  refine wpAny_Call_method (T := "dict") (id := "dict.items") hb rfl hl PySem.F.plainAttrs_dict PySem.F.slot_dict_items PySem.F.type_dict_items (thn (ho.run pn st sg H _ inv h) ?_)
  rintro u s1 ⟨x, H1, i1, rx, a, A, kvs, ex, dm, hd, ok, q1⟩
  subst ex
  cases (show u = Value.ref a from rx)
  have isd : IsD H1 a := by
    rcases hd with ⟨ks, e, _⟩ | ⟨ks, e, _, _⟩
    · exact .inl ⟨ks, e⟩
    · exact .inr ⟨ks, e⟩
  obtain ⟨t1, t2, _⟩ := isD_at i1 isd
  refine ⟨t1, t2, ?_⟩
  show wpAny _ _ (callWith cpos (.builtin "dict.items") [.ref a] [] []) _ X.xe s1
  exact Calls.callWith_builtin rfl (PySem.evalArgs_none (mt_itemsG pn s1 sg H1 (.ref a) [] (.ref a) [] Q i1 rfl .nil ⟨a, A, kvs, rfl, rfl, dm, hd, ok, q1⟩))
end
def rSI (kp : Bool) : List V → Hp → VK → Prop := fun vs H Q => ∃ (p a : Addr) (A : List Addr) (kvs : List (PyData × PyData)), vs = [.ref p] ∧ Dom A H ∧ H p = some (DX.itemsO p a) ∧ IsDi A H a kvs ∧ kvs.all (fun p => isKeyI p.1) = true ∧ sortsOkE (dItems kvs) ∧
  ∀ v H', Same H H' → Res A kp true H H' v (.list ((dItems kvs).mergeSort (dataLe false id))) → Q v H'
section
variable {X : Cx} {W : WX} {a : Expr} {ma : M} {kp fa : Bool} {p pos apos cpos : Pos}
theorem cr_sortI (hc : X.calm = true) (hu : X.A.units + 65 < cLine) : CallR X (.builtin "sorted") (rSI kp) := by
  intro pn st sg hp xs us Z inv r ⟨p, a, A, kvs, e, dm, hi, hd, ok, so, q⟩
  subst e
  obtain ⟨u, rfl, ru⟩ := vals1 r
  obtain rfl : u = Value.ref p := ru
  exact sorted_items hc hu inv dm hi hd ok so q
theorem sound_sortItems (hc : X.calm = true) (hu : X.A.units + 65 < cLine) (g1 : Gl X "sorted") (m1 : X.mg "sorted" = none) (hb : attributeBase a "items" X.env (eval a X.env) = eval a X.env) (hl : (apos.endLine == cpos.line) = true) (ha : PE X a (tvM (gm X) W ma false fa)) :
    PE X (.Call (.Name "sorted" p) [.Call (.Attribute a "items" apos) [] [] cpos] [] pos) (tvM (gm X) W (mSortItems ma) kp true) := by
  refine peBy (pe_callB (cr_sortI (kp := kp) hc hu) g1 m1 boot_sorted (pa_cons (pe_itemsG ha hb hl) pa_nil) (by decide) rfl rfl rfl) ?_
  rintro sg H Z ⟨A0, A, ρ, hs, ho⟩
  refine ⟨A0, A, ρ, hs, ho.bind.mono fun d h1 v H1 s1 r1 => ?_⟩
  cases e : dSortI d with
  | exc c x => exact absurd e (dSortI_nx d c x)
  | no => rw [e] at h1; exact h1.elim
  | ok z =>
    rw [e] at h1
    obtain ⟨kvs, rfl, c1, c2, rfl⟩ := dSortI_inv e
    have h3 : ∀ v H', Same H H' → Res A kp true H H' v (.list ((dItems kvs).mergeSort (dataLe false id))) → Z v H' := h1
    obtain ⟨a, rfl, hd⟩ := r1.1.dict
    refine ⟨a, A, kvs, rfl, (hs.mono s1).dom, hd, c1, fun q np => ?_⟩
    have sm : Same H1 (upd H1 q (DX.itemsO q a)) := same_new np
    refine ⟨q, a, A, kvs, rfl, ((hs.mono s1).mono sm).dom, upd_same, ?_, c1, c2, fun w H2 s2 r2 => ?_⟩
    · rcases hd with ⟨ks, e, r⟩ | ⟨ks, e, ne, r⟩
      · exact .inl ⟨ks, rd_same sm e, r.mono (hide_same sm)⟩
      · exact .inr ⟨ks, rd_same sm e, ne, r.mono (hide_same sm)⟩
    · exact h3 w H2 (s1.trans (sm.trans s2)) ⟨r2.1, fun z => freshUp (s1.trans sm) (r2.2 z)⟩
end
end Sm

/-! Comprehensions with two fors. -/
namespace Sm
open PySem PySem.Spec L2
def compL2 (tg : Tg) (t : Ts) (it1 : Its) (tg1 : Tg) (t1 : Ts) (el : M) (vs1 : List Nat) (ρ : Rho) : List PyData → Rs (List PyData)
  | [] => .ok []
  | x :: xs => do
    let ρ1 ← tg x ρ
    let b ← t ρ1
    if b then do
      let zs ← (it1 ρ1).hush
      let ys ← compL tg1 t1 el (wipeR ρ1 vs1) zs
      let ws ← compL2 tg t it1 tg1 t1 el vs1 ρ xs
      .ok (ys ++ ws)
    else compL2 tg t it1 tg1 t1 el vs1 ρ xs
def mComp2 (it : Its) (tg : Tg) (t : Ts) (it1 : Its) (tg1 : Tg) (t1 : Ts) (el : M) (own vs1 : List Nat) : M := fun ρ => do
  let xs ← it ρ
  let ys ← (compL2 tg t it1 tg1 t1 el vs1 (wipeR ρ own) xs).hush
  if ys.length ≤ 16777216 then .ok (.list ys) else .no
/-- a target that makes nothing owned -/
def TgOk (T : Tg) : Prop := ∀ d ρ ρ', T d ρ = .ok ρ' → ∀ (i : Nat) (e : PyData), ρ'[i]? = some (.ow e) → ρ[i]? = some (.ow e)
theorem tgOk_nm (i : Nat) : TgOk (tNm i) := by
  intro d ρ ρ' h j e he
  cases h
  by_cases c : i = j
  · subst c
    by_cases hl : i < ρ.length
    · rw [List.getElem?_set_self hl] at he; cases he
    · rw [List.getElem?_eq_none (by simp; omega)] at he; cases he
  · rwa [List.getElem?_set_ne c] at he
theorem asg_ok : ∀ {Ts : List Tg}, (∀ T ∈ Ts, TgOk T) → ∀ {ds : List PyData} {ρ ρ' : Rho}, asgAll Ts ds ρ = .ok ρ' → ∀ (i : Nat) (e : PyData), ρ'[i]? = some (.ow e) → ρ[i]? = some (.ow e)
  | [], _, [], ρ, ρ', h, i, e, he => by cases h; exact he
  | [], _, _ :: _, ρ, ρ', h, i, e, he => by cases h
  | T :: Ts, hT, [], ρ, ρ', h, i, e, he => by cases h
  | T :: Ts, hT, d :: ds, ρ, ρ', h, i, e, he => by
    have h' : (T d ρ >>= fun ρ2 => asgAll Ts ds ρ2) = .ok ρ' := h
    cases e1 : T d ρ with
    | exc c x => rw [e1] at h'; cases h'
    | no => rw [e1] at h'; cases h'
    | ok ρ2 =>
      rw [e1] at h'
      exact hT T List.mem_cons_self d ρ ρ2 e1 i e (asg_ok (fun T m => hT T (List.mem_cons_of_mem _ m)) h' i e he)
theorem tgOk_tp {Ts : List Tg} (h : ∀ T ∈ Ts, TgOk T) : TgOk (tTp Ts) := by
  intro d ρ ρ' e i x hx
  unfold tTp at e
  cases d with
  | tuple ds => exact asg_ok h e i x hx
  | list ds => exact asg_ok h e i x hx
  | _ => cases e
theorem wipeR_un {e : PyData} : ∀ {vs : List Nat} {ρ : Rho} {i : Nat}, i ∈ vs → (wipeR ρ vs)[i]? ≠ some (.ow e)
  | v :: vs, ρ, i, m, h => by
    unfold wipeR at h
    by_cases c : v = i
    · subst c
      by_cases hl : v < (wipeR ρ vs).length
      · rw [List.getElem?_set_self hl] at h; cases h
      · rw [List.getElem?_eq_none (by simp; omega)] at h; cases h
    · rw [List.getElem?_set_ne c] at h
      exact wipeR_un ((List.mem_cons.mp m).resolve_left fun z => c z.symm) h
/-- the heap changes at D alone, which no cell holds -/
theorem StA.reD {K : PySem.W.Frag} {A0 A : List Addr} {ρ : Rho} {sg : St} {H H' : Hp} {D : Addr} (st : StA K A0 (D :: A) ρ sg H) (now : ∀ (i : Nat) (d : PyData) (a : Addr), ρ[i]? = some (.ow d) → sg[i]? = some (some (.ref a)) → a ≠ D)
    (hk : ∀ b o, b ≠ D → H b = some o → H' b = some o) (hD : ∃ o : OwO, H' D = some o.1) (nf : ∀ o u, H D ≠ some (.frz o u)) : StA K A0 (D :: A) ρ sg H' := by
  have sm : Same (Hide (D :: A) H) (Hide (D :: A) H') := fun b o e => by
    by_cases m : b ∈ D :: A
    · rw [hide_in m] at e; cases e
    · rw [hide_out m] at e ⊢
      exact hk b o (fun z => m (by rw [z]; exact List.mem_cons_self)) e
  refine ⟨st.len, fun b m => ?_, st.sub, fun i d e => ?_, fun i d e => ?_, fun i a ns e => ?_, st.inj⟩
  · by_cases c : b = D
    · rw [c]; exact hD
    · obtain ⟨o, eo⟩ := st.dom b m
      exact ⟨o, hk b _ c eo⟩
  · obtain ⟨v, h1, h2⟩ := st.sh i d e
    exact ⟨v, h1, h2.mono sm⟩
  · obtain ⟨a, h1, h2, h3, h4⟩ := st.ow i d e
    obtain ⟨o, eo⟩ := st.dom a h2
    exact ⟨a, h1, h2, h3, h4.mono sm ((hk a _ (now i d a e h1) eo).trans eo.symm)⟩
  · exact ⟨(st.fz i a ns e).1, (st.fz i a ns e).2.mono fun b o u q => hk b _ (fun z => nf o u (by rw [← z]; exact q)) q⟩
theorem comp2_core {mg : Gm} {T T1 : Tg} {t t1 : Ts} {it1 : Its} {el : M} {S S1 vs vs1 : List Nat} {kp fr : Bool} {sg : St} {Z : VK} {A0 A : List Addr} {ρ : Rho} {H1 : Hp} {J : It} {xs ys : List PyData} {D : Addr} (hT : TgOk T) (hS : ∀ i ∈ S, i ∈ vs) (hS1 : ∀ i ∈ S1, i ∈ vs1) (hs1 : StA mg.K A0 A ρ sg H1)
    (hz : xs.length ≤ sizeLine) (hy : ys.length ≤ sizeLine) (wk : Walks (relOf false A) A H1 J xs) (ec' : compL2 T t it1 T1 t1 el vs1 (wipeR ρ vs) xs = .ok ys) (fin : ∀ v H', Same H1 H' → Res A kp true H1 H' v (.list ys) → Z v H') (nD : H1 D = none) :
    ∃ W : Nat → Nat → Hp → Prop, (∃ m, W 0 m (upd H1 D (.lst []))) ∧ ∀ i m H, W i m H →
      (J.stop i H ∧ Z (.ref D) H) ∨ (J.go i H ∧ ∃ Nx : Hp → Prop, (∀ H', Nx H' → ∃ m', m' < m ∧ W (i + 1) m' H') ∧ ∀ x H', J.yld i H x H' → tvG mg.K T S x (wipe sg vs) H' fun σ2 H2 => wipe σ2 vs = wipe sg vs ∧ tvT mg noW t σ2 H2 fun b H3 =>
        if b = true then tvI mg noW true it1 σ2 H3 fun J1 H4 => ∃ W1 : Nat → Nat → Hp → Prop, (∃ m, W1 0 m H4) ∧ ∀ j k H, W1 j k H →
          (J1.stop j H ∧ Nx H) ∨ (J1.go j H ∧ ∃ Nx1 : Hp → Prop, (∀ H', Nx1 H' → ∃ k', k' < k ∧ W1 (j + 1) k' H') ∧ ∀ x H', J1.yld j H x H' → tvG mg.K T1 S1 x (wipe σ2 vs1) H' fun σ3 H5 => wipe σ3 vs1 = wipe σ2 vs1 ∧ tvT mg noW t1 σ3 H5 fun b H6 =>
            if b = true then tvM mg noW el true fr σ3 H6 fun y H7 => ∃ acc, H7 D = some (.lst acc) ∧ acc.length < sizeLine ∧ Nx1 (upd H7 D (.lst (acc ++ [y]))) else Nx1 H6)
        else Nx H3) := by
  have nA : D ∉ A := fun m => by obtain ⟨o, e⟩ := hs1.dom D m; rw [nD] at e; cases e
  refine ⟨fun i m H2 => m = xs.length - i ∧ i ≤ xs.length ∧ ∃ (acc : List V) (y1 y2 : List PyData), H2 D = some (.lst acc) ∧ RpAll (Hide (D :: A) H2) acc y1 ∧ compL2 T t it1 T1 t1 el vs1 (wipeR ρ vs) (xs.drop i) = .ok y2 ∧ ys = y1 ++ y2 ∧ Same H1 H2,
    ⟨xs.length, by simp, Nat.zero_le _, [], [], ys, upd_same, .nil, ec', rfl, same_new nD⟩, ?_⟩
  rintro i m H2 ⟨rfl, hi, acc, y1, y2, hD, ra, hc, ey, s2⟩
  obtain ⟨w1, w2⟩ := wk H2 s2
  by_cases hlt : i < xs.length
  · have hx : xs[i]? = some xs[i] := List.getElem?_eq_getElem hlt
    have ed : xs.drop i = xs[i] :: xs.drop (i + 1) := List.drop_eq_getElem_cons hlt
    rw [ed] at hc
    unfold compL2 at hc
    obtain ⟨g1, g2⟩ := w2 i _ hx
    cases eT : T xs[i] (wipeR ρ vs) with
    | exc c d => rw [eT] at hc; cases hc
    | no => rw [eT] at hc; cases hc
    | ok ρ1 =>
    rw [eT] at hc
    have hc1 : (t ρ1 >>= fun b => if b = true then ((it1 ρ1).hush >>= fun zs => compL T1 t1 el (wipeR ρ1 vs1) zs >>= fun ys => compL2 T t it1 T1 t1 el vs1 (wipeR ρ vs) (xs.drop (i + 1)) >>= fun ws => .ok (ys ++ ws)) else compL2 T t it1 T1 t1 el vs1 (wipeR ρ vs) (xs.drop (i + 1))) = .ok y2 := hc
    cases eb : t ρ1 with
    | exc c d => rw [eb] at hc1; cases hc1
    | no => rw [eb] at hc1; cases hc1
    | ok b =>
    rw [eb] at hc1
    refine .inr ⟨g1, fun H3 => ∃ (acc : List V) (y1 y2 : List PyData), H3 D = some (.lst acc) ∧ RpAll (Hide (D :: A) H3) acc y1 ∧ compL2 T t it1 T1 t1 el vs1 (wipeR ρ vs) (xs.drop (i + 1)) = .ok y2 ∧ ys = y1 ++ y2 ∧ Same H1 H3,
      fun H3 q => ⟨xs.length - (i + 1), by omega, rfl, hlt, q⟩, fun x H3 yy => ?_⟩
    obtain ⟨s3, q3⟩ := g2 x H3 yy
    have stA : StA mg.K A0 (D :: A) (wipeR ρ vs) (wipe sg vs) H3 := (hs1.wipe vs).addOwn nD (s2.trans s3) ⟨⟨.lst acc, fun _ z => nomatch z⟩, s3 _ _ hD⟩
    have rx := q3 (D :: A) (fun a ma => by
      rcases List.mem_cons.mp ma with rfl | ma
      · exact .inr nD
      · exact .inl ma) (fun a ma => by
      rcases List.mem_cons.mp ma with rfl | ma
      · exact ⟨⟨.lst acc, fun _ z => nomatch z⟩, hD⟩
      · obtain ⟨o, e⟩ := hs1.dom a ma
        exact ⟨o, s2 _ _ e⟩)
    refine ⟨A0, D :: A, wipeR ρ vs, xs[i], ρ1, stA, rx, eT, fun sg2 st2 ag => ⟨?_, ?_⟩⟩
    · rw [wipe_agree (ag.mono hS), wipe_wipe]
    have now : ∀ (i : Nat) (d : PyData) (a : Addr), ρ1[i]? = some (.ow d) → sg2[i]? = some (some (.ref a)) → a ≠ D := fun i' d a h1 h2 ez => by
      have h3 := hT _ _ _ eT i' d h1
      have ni : i' ∉ vs := fun m => wipeR_un m h3
      have h4 := ag.at' i' fun m => ni (hS i' m)
      obtain ⟨a', q1, q2, _, _⟩ := (hs1.wipe vs).ow i' d h3
      rw [h4, q1] at h2
      cases h2
      exact nA (by rw [← ez]; exact q2)
    refine ⟨A0, D :: A, ρ1, st2, ?_⟩
    rw [eb]
    intro H4 s4
    cases b with
    | false =>
      have hc2 : compL2 T t it1 T1 t1 el vs1 (wipeR ρ vs) (xs.drop (i + 1)) = .ok y2 := hc1
      exact ⟨acc, y1, y2, s4 _ _ (s3 _ _ hD), ra.mono (hide_same (s3.trans s4)), hc2, ey, s2.trans (s3.trans s4)⟩
    | true =>
      have hc2 : ((it1 ρ1).hush >>= fun zs => compL T1 t1 el (wipeR ρ1 vs1) zs >>= fun ys => compL2 T t it1 T1 t1 el vs1 (wipeR ρ vs) (xs.drop (i + 1)) >>= fun ws => .ok (ys ++ ws)) = .ok y2 := hc1
      cases ez : (it1 ρ1).hush with
      | exc c d => rw [ez] at hc2; cases hc2
      | no => rw [ez] at hc2; cases hc2
      | ok zs =>
      rw [ez] at hc2
      have ez' := hush_ok ez
      have hc3 : (compL T1 t1 el (wipeR ρ1 vs1) zs >>= fun ys => compL2 T t it1 T1 t1 el vs1 (wipeR ρ vs) (xs.drop (i + 1)) >>= fun ws => .ok (ys ++ ws)) = .ok y2 := hc2
      cases ei : compL T1 t1 el (wipeR ρ1 vs1) zs with
      | exc c d => rw [ei] at hc3; cases hc3
      | no => rw [ei] at hc3; cases hc3
      | ok yi =>
      rw [ei] at hc3
      have hc4 : (compL2 T t it1 T1 t1 el vs1 (wipeR ρ vs) (xs.drop (i + 1)) >>= fun ws => .ok (yi ++ ws)) = .ok y2 := hc3
      cases eo : compL2 T t it1 T1 t1 el vs1 (wipeR ρ vs) (xs.drop (i + 1)) with
      | exc c d => rw [eo] at hc4; cases hc4
      | no => rw [eo] at hc4; cases hc4
      | ok yo =>
      rw [eo] at hc4
      have e3 : y2 = yi ++ yo := by cases hc4; rfl
      refine ⟨A0, D :: A, ρ1, st2.mono s4, ?_⟩
      rw [ez']
      intro J1 H5 s5 hz1 wk1
      have hD5 : H5 D = some (.lst acc) := s5 _ _ (s4 _ _ (s3 _ _ hD))
      have st5 : StA mg.K A0 (D :: A) ρ1 sg2 H5 := (st2.mono s4).mono s5
      refine ⟨fun j k H6 => k = zs.length - j ∧ j ≤ zs.length ∧ ∃ (acc : List V) (z1 z2 : List PyData), H6 D = some (.lst acc) ∧ RpAll (Hide (D :: A) H6) acc z1 ∧ compL T1 t1 el (wipeR ρ1 vs1) (zs.drop j) = .ok z2 ∧ ys = z1 ++ (z2 ++ yo) ∧ ∀ b o, b ≠ D → H5 b = some o → H6 b = some o,
        ⟨zs.length, by simp, Nat.zero_le _, acc, y1, yi, hD5, ra.mono (hide_same (s3.trans (s4.trans s5))), ei, by rw [ey, e3], fun b o _ e => e⟩, ?_⟩
      rintro j k H6 ⟨rfl, hj, acc6, z1, z2, hD6, ra6, hc6, ey6, k6⟩
      have kept : ∀ {H7 : Hp}, (∀ b o, b ≠ D → H5 b = some o → H7 b = some o) → Kept (D :: A) H5 H7 := fun {H7} k7 b o e => by
        by_cases m : b ∈ D :: A
        · rw [hide_in m] at e; cases e
        · rw [hide_out m] at e ⊢
          exact k7 b o (fun z => m (by rw [z]; exact List.mem_cons_self)) e
      have same1 : ∀ {H7 : Hp}, (∀ b o, b ≠ D → H5 b = some o → H7 b = some o) → Same H1 H7 := fun {H7} k7 b o e => k7 b o (ne_of_none e nD) (s5 _ _ (s4 _ _ (s3 _ _ (s2 _ _ e))))
      obtain ⟨v1, v2⟩ := wk1 H6 (kept k6)
      by_cases hlj : j < zs.length
      · have hxj : zs[j]? = some zs[j] := List.getElem?_eq_getElem hlj
        have edj : zs.drop j = zs[j] :: zs.drop (j + 1) := List.drop_eq_getElem_cons hlj
        rw [edj] at hc6
        unfold compL at hc6
        obtain ⟨g5, g6⟩ := v2 j _ hxj
        cases eT1 : T1 zs[j] (wipeR ρ1 vs1) with
        | exc c d => rw [eT1] at hc6; cases hc6
        | no => rw [eT1] at hc6; cases hc6
        | ok ρ2 =>
        rw [eT1] at hc6
        have hd1 : (t1 ρ2 >>= fun b => if b = true then ((el ρ2).hush >>= fun y => compL T1 t1 el (wipeR ρ1 vs1) (zs.drop (j + 1)) >>= fun ys => .ok (y :: ys)) else compL T1 t1 el (wipeR ρ1 vs1) (zs.drop (j + 1))) = .ok z2 := hc6
        cases eb1 : t1 ρ2 with
        | exc c d => rw [eb1] at hd1; cases hd1
        | no => rw [eb1] at hd1; cases hd1
        | ok b1 =>
        rw [eb1] at hd1
        refine .inr ⟨g5, fun H7 => ∃ (acc : List V) (z1 z2 : List PyData), H7 D = some (.lst acc) ∧ RpAll (Hide (D :: A) H7) acc z1 ∧ compL T1 t1 el (wipeR ρ1 vs1) (zs.drop (j + 1)) = .ok z2 ∧ ys = z1 ++ (z2 ++ yo) ∧ ∀ b o, b ≠ D → H5 b = some o → H7 b = some o,
          fun H7 q => ⟨zs.length - (j + 1), by omega, rfl, hlj, q⟩, fun x H7 yy => ?_⟩
        obtain ⟨s7, q7⟩ := g6 x H7 yy
        have k7 : ∀ b o, b ≠ D → H5 b = some o → H7 b = some o := fun b o n e => s7 _ _ (k6 b o n e)
        have hD7 : H7 D = some (.lst acc6) := s7 _ _ hD6
        have st7 : StA mg.K A0 (D :: A) ρ1 sg2 H7 := st5.reD now k7 ⟨⟨.lst acc6, fun _ z => nomatch z⟩, hD7⟩ (fun o u z => by rw [hD5] at z; cases z)
        have st6 : StA mg.K A0 (D :: A) ρ1 sg2 H6 := st5.reD now k6 ⟨⟨.lst acc6, fun _ z => nomatch z⟩, hD6⟩ (fun o u z => by rw [hD5] at z; cases z)
        have rx7 := q7 (D :: A) (fun a ma => .inl ma) st6.dom
        refine ⟨A0, D :: A, wipeR ρ1 vs1, zs[j], ρ2, st7.wipe vs1, rx7, eT1, fun sg3 st3 ag3 => ⟨?_, ?_⟩⟩
        · rw [wipe_agree (ag3.mono hS1), wipe_wipe]
        refine ⟨A0, D :: A, ρ2, st3, ?_⟩
        rw [eb1]
        intro H8 s8
        have k8 : ∀ b o, b ≠ D → H5 b = some o → H8 b = some o := fun b o n e => s8 _ _ (k7 b o n e)
        cases b1 with
        | false =>
          have hd2 : compL T1 t1 el (wipeR ρ1 vs1) (zs.drop (j + 1)) = .ok z2 := hd1
          exact ⟨acc6, z1, z2, s8 _ _ hD7, ra6.mono (hide_same (s7.trans s8)), hd2, ey6, k8⟩
        | true =>
          have hd2 : ((el ρ2).hush >>= fun y => compL T1 t1 el (wipeR ρ1 vs1) (zs.drop (j + 1)) >>= fun ys => .ok (y :: ys)) = .ok z2 := hd1
          cases ee : (el ρ2).hush with
          | exc c d => rw [ee] at hd2; cases hd2
          | no => rw [ee] at hd2; cases hd2
          | ok y =>
          rw [ee] at hd2
          have ee' := hush_ok ee
          cases er : compL T1 t1 el (wipeR ρ1 vs1) (zs.drop (j + 1)) with
          | exc c d => rw [er] at hd2; cases hd2
          | no => rw [er] at hd2; cases hd2
          | ok z3 =>
          rw [er] at hd2
          have e4 : z2 = y :: z3 := by cases hd2; rfl
          refine ⟨A0, D :: A, ρ2, st3.mono s8, ?_⟩
          rw [ee']
          intro v H9 s9 r9
          refine ⟨acc6, s9 _ _ (s8 _ _ hD7), ?_, acc6 ++ [v], z1 ++ [y], z3, upd_same, ?_, rfl, by rw [ey6, e4]; simp, fun b o n e => ?_⟩
          · have := ra6.len
            rw [ey6, e4] at hy
            simp at hy
            omega
          · rw [hide_upd List.mem_cons_self]
            exact (ra6.mono (hide_same (s7.trans (s8.trans s9)))).app (.one r9.1.kept)
          · rw [upd_ne n]
            exact s9 _ _ (k8 b o n e)
      · have ejz : j = zs.length := by omega
        subst ejz
        rw [List.drop_length] at hc6
        have e2 : z2 = [] := by cases hc6; rfl
        subst e2
        exact .inl ⟨v1, acc6, z1, yo, hD6, ra6, rfl, by rw [ey6]; rfl, same1 k6⟩
  · have ei : i = xs.length := by omega
    subst ei
    refine .inl ⟨w1, fin _ _ s2 ?_⟩
    rw [List.drop_length] at hc
    have e2 : y2 = [] := by cases hc; rfl
    subst e2
    rw [List.append_nil] at ey
    subst ey
    have hl : acc.length ≤ sizeLine := by rw [ra.len]; exact hy
    refine ⟨.inl (.lst (by rw [hide_out nA]; exact hD) hl (ra.mono (hide_sub fun a m => List.mem_cons_of_mem _ m))), fun _ => ⟨D, rfl, nD, acc, hD, hl, ra⟩⟩
theorem comp2_in {mg : Gm} {W : WX} {it it1 : Its} {T T1 : Tg} {t t1 : Ts} {el : M} {S S1 vs vs1 : List Nat} {kp fr : Bool} {sg : St} {H : Hp} {Z : VK} (hT : TgOk T) (hS : ∀ i ∈ S, i ∈ vs) (hS1 : ∀ i ∈ S1, i ∈ vs1)
    (h : tvM mg W (mComp2 it T t it1 T1 t1 el vs vs1) kp true sg H Z) : tLc2 (tvI mg W false it) (tvG mg.K T S) (tvT mg noW t) (tvI mg noW true it1) (tvG mg.K T1 S1) (tvT mg noW t1) (tvM mg noW el true fr) vs vs1 sg H Z := by
  obtain ⟨A0, A, ρ, hs, ho⟩ := h
  refine ⟨A0, A, ρ, hs, ho.bind.mono fun xs h1 J H1 s1 hz wk D nD => ?_⟩
  have h1' : Oc mg A H (fun c d H' => W c d sg H') (fun d => ∀ v H', Same H H' → Res A kp true H H' v d → Z v H') ((compL2 T t it1 T1 t1 el vs1 (wipeR ρ vs) xs).hush >>= fun ys => if ys.length ≤ 16777216 then .ok (.list ys) else .no) := h1
  cases ec : (compL2 T t it1 T1 t1 el vs1 (wipeR ρ vs) xs).hush with
  | exc c d => cases e2 : compL2 T t it1 T1 t1 el vs1 (wipeR ρ vs) xs <;> rw [e2] at ec <;> cases ec
  | no => rw [ec] at h1'; exact h1'.elim
  | ok ys =>
  rw [ec] at h1'
  by_cases hy : ys.length ≤ 16777216
  · have h2 : Oc mg A H (fun c d H' => W c d sg H') (fun d => ∀ v H', Same H H' → Res A kp true H H' v d → Z v H') (if ys.length ≤ 16777216 then .ok (.list ys) else .no) := h1'
    rw [if_pos hy] at h2
    have fin : ∀ v H', Same H H' → Res A kp true H H' v (.list ys) → Z v H' := h2
    exact comp2_core hT hS hS1 (hs.mono s1) hz (by rw [sizeLine_eq]; exact hy) wk (hush_ok ec) (fun v H' s r => fin v H' (s1.trans s) ⟨r.1, fun q => freshUp s1 (r.2 q)⟩) nD
  · have h2 : Oc mg A H (fun c d H' => W c d sg H') (fun d => ∀ v H', Same H H' → Res A kp true H H' v d → Z v H') (if ys.length ≤ 16777216 then .ok (.list ys) else .no) := h1'
    rw [if_neg hy] at h2
    exact h2.elim
theorem sound_comp2 {X : Cx} {W : WX} {elt tg iter tg1 iter1 : Expr} {ifs ifs1 : List Expr} {scope : Scope} {own : List (Str × Nat)} {pos : Pos} {it it1 : Its} {T T1 : Tg} {t t1 : Ts} {el : M} {S S1 vs1 : List Nat} {kp fr : Bool}
    (hc : X.calm = true) (nd : X.N.Nodup) (ok : BlkOk X.N X.env.scope scope own) (hv : ∀ i ∈ vs1, i ∈ own.map (·.2)) (hT : TgOk T) (hS : ∀ i ∈ S, i ∈ own.map (·.2)) (hS1 : ∀ i ∈ S1, i ∈ vs1) (hi : PI X tg iter (tvI (gm X) W false it))
    (hg : ∀ (s : Shared) (H : Hp) (C : Addr) (cl : List (Str × Addr)) (fp : List Addr), PG (X.blk s H scope (compEnvC scope cl C X.env) fp) tg (tvG X.K T S))
    (ht : ∀ (s : Shared) (H : Hp) (C : Addr) (cl : List (Str × Addr)) (fp : List Addr), PTs (X.blk s H scope (compEnvC scope cl C X.env) fp) ifs (tvT (gm X) noW t))
    (hi1 : ∀ (s : Shared) (H : Hp) (C : Addr) (cl : List (Str × Addr)) (fp : List Addr), PI (X.blk s H scope (compEnvC scope cl C X.env) fp) tg1 iter1 (tvI (gm X) noW true it1))
    (hg1 : ∀ (s : Shared) (H : Hp) (C : Addr) (cl : List (Str × Addr)) (fp : List Addr), PG (X.blk s H scope (compEnvC scope cl C X.env) fp) tg1 (tvG X.K T1 S1))
    (ht1 : ∀ (s : Shared) (H : Hp) (C : Addr) (cl : List (Str × Addr)) (fp : List Addr), PTs (X.blk s H scope (compEnvC scope cl C X.env) fp) ifs1 (tvT (gm X) noW t1))
    (he : ∀ (s : Shared) (H : Hp) (C : Addr) (cl : List (Str × Addr)) (fp : List Addr), PE (X.blk s H scope (compEnvC scope cl C X.env) fp) elt (tvM (gm X) noW el true fr))
    (hf : ∀ x, foldedSetIterable iter X.env x = pure x) (hf1 : ∀ env x, foldedSetIterable iter1 env x = pure x) :
    PE X (.ListComp elt [⟨tg, iter, ifs, 0⟩, ⟨tg1, iter1, ifs1, 0⟩] scope pos) (tvM (gm X) W (mComp2 it T t it1 T1 t1 el (own.map (·.2)) vs1) kp true) :=
  peBy (pe_lc2 hc nd hi ok hv hg ht hi1 hg1 ht1 he hf hf1) fun _ _ _ h => comp2_in hT hS hS1 h
end Sm

/-! sorted({.. for .. for ..}) of ints: the rule. -/
namespace Sm
open PySem PySem.Spec PyProof.Rows L2
theorem turnS_out (elt t0 i0 t1 i1 : Expr) (ifs0 ifs1 : List Expr) (scope : Scope) (pos : Pos) (it acc : Value) (env : Env) :
    compTurn (.SetComp elt [⟨t0, i0, ifs0, 0⟩, ⟨t1, i1, ifs1, 0⟩] scope pos) 0 it acc env = (do
      standAt i0.pos
      match ← pyNext it with
      | none => pure (.done .next)
      | some v =>
        letOwnedTupleGo t0 it v
        assign t0 env v
        let mut ok := true
        for c in ifs0 do
          if ok then ok ← isTrue c env (eval c env)
        if ok then
          let x ← eval i1 env
          standAt i1.pos
          let x ← foldedSetIterable i1 env x
          let _ ← runOwn (.compStart (.SetComp elt [⟨t0, i0, ifs0, 0⟩, ⟨t1, i1, ifs1, 0⟩] scope pos) 1 (← holding [x] (pyIter x)) acc env) env
        again (.compLoop (.SetComp elt [⟨t0, i0, ifs0, 0⟩, ⟨t1, i1, ifs1, 0⟩] scope pos) 0 it acc env)) := by rfl
theorem turnS_in (elt t0 i0 t1 i1 : Expr) (ifs0 ifs1 : List Expr) (scope : Scope) (pos : Pos) (it acc : Value) (env : Env) :
    compTurn (.SetComp elt [⟨t0, i0, ifs0, 0⟩, ⟨t1, i1, ifs1, 0⟩] scope pos) 1 it acc env = (do
      standAt i1.pos
      match ← pyNext it with
      | none => pure (.done .next)
      | some v =>
        letOwnedTupleGo t1 it v
        assign t1 env v
        let mut ok := true
        for c in ifs1 do
          if ok then ok ← isTrue c env (eval c env)
        if ok then
          (do let v ← eval elt env; standAt elt.pos; let _ ← call (.builtin "set.add") [acc, v])
        again (.compLoop (.SetComp elt [⟨t0, i0, ifs0, 0⟩, ⟨t1, i1, ifs1, 0⟩] scope pos) 1 it acc env)) := by rfl
section
variable {prog : Program} {w : World} {A : Around} {R : Result → Shared → Prop} {s : Shared} {elt t0 i0 t1 i1 : Expr} {ifs0 ifs1 : List Expr} {scope : Scope} {pos : Pos} {it acc : Value} {env : Env}
theorem loopS_out (hs : ∀ x, foldedSetIterable i1 env x = pure x) (I : Nat → Shared → Prop)
    (turn : ∀ n s, I n s → wpAny (model prog w) A (pyNext it) (fun r s₁ => match r with
      | none => R (.ok .next) s₁
      | some v => wpAny (model prog w) A (letOwnedTupleGo t0 it v) (fun _ s₁' => wpAny (model prog w) A (assign t0 env v) (fun _ s₂ =>
          wpAny (model prog w) A (forIn ifs0 true fun c r => if r = true then do let ok ← isTrue c env (eval c env); pure (ForInStep.yield ok) else pure (ForInStep.yield r)) (fun ok s₃ =>
            if ok = true then wpAny (model prog w) A (eval i1 env) (fun x s₄ => wpAny (model prog w) A (pyIter x) (fun it1 s₅ =>
              codeAny (model prog w) A (.compStart (.SetComp elt [⟨t0, i0, ifs0, 0⟩, ⟨t1, i1, ifs1, 0⟩] scope pos) 1 it1 acc env) (fun r s' => match r with
                | .ok _ => ∃ m, m < n ∧ I m s'
                | .error _ => False) s₅) (notedBy (model prog w) A env fun e s' => R (.error e) s') s₄) (notedBy (model prog w) A env fun e s' => R (.error e) s') s₃
            else ∃ m, m < n ∧ I m s₃) (notedBy (model prog w) A env fun e s' => R (.error e) s') s₂) (notedBy (model prog w) A env fun e s' => R (.error e) s') s₁') (notedBy (model prog w) A env fun e s' => R (.error e) s') s₁) (notedBy (model prog w) A env fun e s' => R (.error e) s') s)
    (n : Nat) (h : I n s) :
    codeAny (model prog w) A (.compLoop (.SetComp elt [⟨t0, i0, ifs0, 0⟩, ⟨t1, i1, ifs1, 0⟩] scope pos) 0 it acc env) R s := by
  refine codeAny_loop rfl I (fun n s hI => ?_) n h
  show wpAny _ A ((compTurn (.SetComp elt [⟨t0, i0, ifs0, 0⟩, ⟨t1, i1, ifs1, 0⟩] scope pos) 0 it acc env).onRaise (fun x => do noteFrame x env; theTreesLotGoes x)) _ _ s
  refine wpAny_noted ?_
  rw [turnS_out]
  refine wpAny_bind (wpAny_standAt (wpAny_bind (wpAny_mono (turn n s hI) (fun r s₁ h₁ => ?_) fun _ _ h' => h')))
  cases r with
  | none => exact wpAny_pure h₁
  | some v =>
    refine wpAny_bind (wpAny_mono h₁ (fun _ s₁' h₁' => ?_) fun _ _ h' => h')
    refine wpAny_bind (wpAny_mono h₁' (fun _ s₂ h₂ => wpAny_bind (wpAny_mono h₂ (fun ok s₃ h₃ => ?_) fun _ _ h' => h')) fun _ _ h' => h')
    cases ok with
    | false => exact wpAny_pure ⟨rfl, h₃⟩
    | true =>
      refine wpAny_bind (wpAny_mono h₃ (fun x s₄ h₄ => ?_) fun _ _ h' => h')
      refine wpAny_bind (wpAny_standAt (wpAny_bind (wpAny_of_eq (hs x) (wpAny_bind (wpAny_holding (wpAny_mono h₄ (fun it1 s₅ h₅ => ?_) fun _ _ h' => h'))))))
      refine wpAny_bind (wpAny_runOwn ?_)
      rw [Around.mark_none]
      refine codeAny_mono h₅ fun r s' hr => ?_
      cases r with
      | ok f =>
        first
          | exact wpAny_pure ⟨rfl, hr⟩
          | exact wpAny_bind (wpAny_pure (wpAny_pure ⟨rfl, hr⟩))
      | error e => exact hr.elim
theorem loopS_in (I : Nat → Shared → Prop)
    (turn : ∀ n s, I n s → wpAny (model prog w) A (pyNext it) (fun r s₁ => match r with
      | none => R (.ok .next) s₁
      | some v => wpAny (model prog w) A (letOwnedTupleGo t1 it v) (fun _ s₁' => wpAny (model prog w) A (assign t1 env v) (fun _ s₂ =>
          wpAny (model prog w) A (forIn ifs1 true fun c r => if r = true then do let ok ← isTrue c env (eval c env); pure (ForInStep.yield ok) else pure (ForInStep.yield r)) (fun ok s₃ =>
            if ok = true then wpAny (model prog w) A (eval elt env) (fun x s₄ =>
              wpAny (model prog w) A (call (.builtin "set.add") [acc, x]) (fun _ s₅ => ∃ m, m < n ∧ I m s₅) (notedBy (model prog w) A env fun e s' => R (.error e) s') s₄) (notedBy (model prog w) A env fun e s' => R (.error e) s') s₃
            else ∃ m, m < n ∧ I m s₃) (notedBy (model prog w) A env fun e s' => R (.error e) s') s₂) (notedBy (model prog w) A env fun e s' => R (.error e) s') s₁') (notedBy (model prog w) A env fun e s' => R (.error e) s') s₁) (notedBy (model prog w) A env fun e s' => R (.error e) s') s)
    (n : Nat) (h : I n s) :
    codeAny (model prog w) A (.compLoop (.SetComp elt [⟨t0, i0, ifs0, 0⟩, ⟨t1, i1, ifs1, 0⟩] scope pos) 1 it acc env) R s := by
  refine codeAny_loop rfl I (fun n s hI => ?_) n h
  show wpAny _ A ((compTurn (.SetComp elt [⟨t0, i0, ifs0, 0⟩, ⟨t1, i1, ifs1, 0⟩] scope pos) 1 it acc env).onRaise (fun x => do noteFrame x env; theTreesLotGoes x)) _ _ s
  refine wpAny_noted ?_
  rw [turnS_in]
  refine wpAny_bind (wpAny_standAt (wpAny_bind (wpAny_mono (turn n s hI) (fun r s₁ h₁ => ?_) fun _ _ h' => h')))
  cases r with
  | none => exact wpAny_pure h₁
  | some v =>
    refine wpAny_bind (wpAny_mono h₁ (fun _ s₁' h₁' => ?_) fun _ _ h' => h')
    refine wpAny_bind (wpAny_mono h₁' (fun _ s₂ h₂ => wpAny_bind (wpAny_mono h₂ (fun ok s₃ h₃ => ?_) fun _ _ h' => h')) fun _ _ h' => h')
    cases ok with
    | false => exact wpAny_pure ⟨rfl, h₃⟩
    | true =>
      exact wpAny_bind (wpAny_bind (wpAny_mono h₃ (fun x s₄ h₄ => wpAny_bind (wpAny_standAt (wpAny_bind (wpAny_mono h₄ (fun _ s₅ h₅ => wpAny_pure (wpAny_pure ⟨rfl, h₅⟩)) fun _ _ h' => h')))) fun _ _ h' => h'))
theorem startS_in (h0 : codeAny (model prog w) A (.compLoop (.SetComp elt [⟨t0, i0, ifs0, 0⟩, ⟨t1, i1, ifs1, 0⟩] scope pos) 1 it acc env) R s)
    (h : wpAny (model prog w) A (pyIter it) (fun it' s' => codeAny (model prog w) A (.compLoop (.SetComp elt [⟨t0, i0, ifs0, 0⟩, ⟨t1, i1, ifs1, 0⟩] scope pos) 1 it' acc env) R s')
      (notedBy (model prog w) A env fun x s' => R (.error x) s') s) :
    codeAny (model prog w) A (.compStart (.SetComp elt [⟨t0, i0, ifs0, 0⟩, ⟨t1, i1, ifs1, 0⟩] scope pos) 1 it acc env) R s := by
  refine codeAny_of_tree ?_
  show wpAny _ _ ((compStart (.SetComp elt [⟨t0, i0, ifs0, 0⟩, ⟨t1, i1, ifs1, 0⟩] scope pos) 1 it acc env).onRaise (fun x => do noteFrame x env; standAt theWindowsPlace)) _ _ s
  refine wpAny_notedAt ?_
  unfold compStart
  show wpAny _ _ (ask >>= _) _ _ s
  refine wpAny_bind (wpAny_askSetting (wpAny_ite ?_))
  split
  · first
      | exact wpAny_bind (wpAny_pure (wpAny_pure (And.intro rfl h0)))
      | exact wpAny_pure (And.intro rfl h0)
  · first
      | exact wpAny_bind (wpAny_rule (wpAny_bind (wpAny_standAt (wpAny_bind (wpAny_mono h (fun it' s' h' => wpAny_pure (And.intro rfl h')) fun _ _ x => x)))))
      | (refine wpAny_bind (wpAny_rule ?_); show wpAny _ _ (standAt i1.pos >>= _) _ _ s; exact wpAny_bind (wpAny_standAt (wpAny_bind (wpAny_mono h (fun it' s' h' => wpAny_pure (And.intro rfl h')) fun _ _ x => x))))
end
section
variable {X : Cx}
/-- what the display asks: the second source's own loop lies within a turn of the first -/
def tSc2I (w : World) (wi : TI) (g : TG) (tt : TT) (wi1 : TI) (g1 : TG) (tt1 : TT) (te : TE) (vs vs1 : List Nat) : TE := fun sg H Z => wi sg H fun J H1 => ∀ D, H1 D = none → ∃ W : Nat → Nat → Hp → Prop, (∃ m, W 0 m (upd H1 D (SetO w D (fun _ => false) 0))) ∧ ∀ i m H, W i m H →
  (J.stop i H ∧ Z (.ref D) H) ∨ (J.go i H ∧ ∃ Nx : Hp → Prop, (∀ H', Nx H' → ∃ m', m' < m ∧ W (i + 1) m' H') ∧ ∀ x H', J.yld i H x H' → g x (wipe sg vs) H' fun σ2 H2 => wipe σ2 vs = wipe sg vs ∧ tt σ2 H2 fun b H3 =>
    if b = true then wi1 σ2 H3 fun J1 H4 => ∃ W1 : Nat → Nat → Hp → Prop, (∃ m, W1 0 m H4) ∧ ∀ j k H, W1 j k H →
      (J1.stop j H ∧ Nx H) ∨ (J1.go j H ∧ ∃ Nx1 : Hp → Prop, (∀ H', Nx1 H' → ∃ k', k' < k ∧ W1 (j + 1) k' H') ∧ ∀ x H', J1.yld j H x H' → g1 x (wipe σ2 vs1) H' fun σ3 H5 => wipe σ3 vs1 = wipe σ2 vs1 ∧ tt1 σ3 H5 fun b H6 =>
        if b = true then te σ3 H6 fun y H7 => ∃ (k : Int) (S : Int → Bool) (n : Nat), y = .int k ∧ H7 D = some (SetO w D S n) ∧ n + 1 < scanBound ∧ Nx1 (upd H7 D (SetO w D (fun j => S j || decide (j = k)) (if S k = true then n else n + 1))) else Nx1 H6)
    else Nx H3)
set_option maxHeartbeats 3200000 in
theorem pe_sc2I {elt tg iter tg1 iter1 : Expr} {ifs ifs1 : List Expr} {scope : Scope} {own : List (PySem.Str × Nat)} {vs1 : List Nat} {pos : Pos} {wi wi1 : TI} {g g1 : TG} {tt tt1 : TT} {te : TE} (hc : X.calm = true) (nd : X.N.Nodup) (hi : PI X tg iter wi) (ok : BlkOk X.N X.env.scope scope own) (hv : ∀ i ∈ vs1, i ∈ own.map (·.2))
    (hg : BlkP X scope fun Y => PG Y tg g) (ht : BlkP X scope fun Y => PTs Y ifs tt) (hi1 : BlkP X scope fun Y => PI Y tg1 iter1 wi1) (hg1 : BlkP X scope fun Y => PG Y tg1 g1) (ht1 : BlkP X scope fun Y => PTs Y ifs1 tt1) (he : BlkP X scope fun Y => PE Y elt te)
    (hs : ∀ x, foldedSetIterable iter X.env x = pure x) (hs1 : ∀ env x, foldedSetIterable iter1 env x = pure x) : PE X (.SetComp elt [⟨tg, iter, ifs, 0⟩, ⟨tg1, iter1, ifs1, 0⟩] scope pos) (tSc2I X.w wi g tt wi1 g1 tt1 te (own.map (·.2)) vs1) := by
  refine ⟨fun pins s sg H Z I h => ?_⟩
  rw [PpSet.eval_SetComp]
  have free : ∀ y ∈ scope.names, y.2 = .free → ∃ c, X.env.cells.lookup y.1 = some c := fun y hy e => (ok.free y hy e).elim (fun k => I.ok.has _ (.inl k)) fun k => I.ok.has _ (.inr k)
  refine wpAny_comprehension_free rfl hs (closure_ok free) ok.kind (fun y hy e => by rw [ok.uniq y hy, e]) (thn (hi.run pins s sg H _ I h) fun xv s1 hx => thn hx fun itv s2 h2 => ?_)
  obtain ⟨it, fp, tn, J, H2, rfl, I2, T, st2, f2, q⟩ := h2
  refine PpSet.newSet_ok (newEnv_comp ?_)
  obtain ⟨D, hD⟩ : ∃ D, s2.heap.objs.size = D := ⟨_, rfl⟩
  rw [hD]
  obtain ⟨W, ⟨m0, w0⟩, turn⟩ := q D (I2.hok.fresh (Nat.le_of_eq hD))
  obtain ⟨s3, hs3⟩ : ∃ s3 : Shared, ({ s2 with heap := s2.heap.push (sob X.w) } : Shared) = s3 := ⟨_, rfl⟩
  obtain ⟨H3, hH3⟩ : ∃ H3, upd H2 D (SetO X.w D (fun _ => false) 0) = H3 := ⟨_, rfl⟩
  have h3 : s3.heap = s2.heap.push (sob X.w) := by rw [← hs3]
  have I3 : Inv X pins sg H3 s3 := by
    rw [← hs3, ← hH3]
    exact I2.laid (t' := s2.toks) (fun b o e => Heap.get?_push_of_some _ e) (Nat.le_of_eq hD) (by rw [← hD]; exact setO_new (setR_fresh X.w))
  have f3 : ∀ b ∈ fp, FpOk X pins H3 b ∧ b < s3.heap.objs.size := fun b hb => by
    have lt : b < s2.heap.objs.size := by obtain ⟨o, e, _⟩ := T.obj _ _ st2 b hb; exact Heap.lt_size e
    refine ⟨⟨?_, (f2 b hb).2⟩, by rw [h3, Heap.size_push]; exact Nat.lt_succ_of_lt lt⟩
    rw [← hH3, upd_ne (by rw [← hD]; exact Nat.ne_of_lt lt)]
    exact (f2 b hb).1
  have st3 : tn 0 s3.heap := T.keep _ _ _ st2 fun b _ o e => by rw [h3]; exact Heap.get?_push_of_some _ e
  have I4 := block_start I3 ok nd f3
  obtain ⟨ce, hce⟩ : ∃ ce, compEnvC scope (cellsFrom (s3.heap.objs.size + 1) scope.names (cloFrom X.env.cells scope.names [])) s3.heap.objs.size X.env = ce := ⟨_, rfl⟩
  have pg := hg s3 H3 s3.heap.objs.size (cellsFrom (s3.heap.objs.size + 1) scope.names (cloFrom X.env.cells scope.names [])) fp
  have pt := ht s3 H3 s3.heap.objs.size (cellsFrom (s3.heap.objs.size + 1) scope.names (cloFrom X.env.cells scope.names [])) fp
  have pe := he s3 H3 s3.heap.objs.size (cellsFrom (s3.heap.objs.size + 1) scope.names (cloFrom X.env.cells scope.names [])) fp
  have pi1 := hi1 s3 H3 s3.heap.objs.size (cellsFrom (s3.heap.objs.size + 1) scope.names (cloFrom X.env.cells scope.names [])) fp
  have pg1 := hg1 s3 H3 s3.heap.objs.size (cellsFrom (s3.heap.objs.size + 1) scope.names (cloFrom X.env.cells scope.names [])) fp
  have pt1 := ht1 s3 H3 s3.heap.objs.size (cellsFrom (s3.heap.objs.size + 1) scope.names (cloFrom X.env.cells scope.names [])) fp
  have goal : ({ s2 with heap := s2.heap.push { cls := .type "set", dict := none, data := .set #[] 0 (.fresh 0 0 (!X.w.params.followText "set-order")) } } : Shared) = s3 := hs3
  rw [goal]
  show codeAny _ _ (.compStart (.SetComp elt [⟨tg, iter, ifs, 0⟩, ⟨tg1, iter1, ifs1, 0⟩] scope pos) 0 (.ref it) (.ref D) (compEnvC scope (cellsFrom (s3.heap.objs.size + 1) scope.names (cloFrom X.env.cells scope.names [])) s3.heap.objs.size X.env)) _ { s3 with heap := pushCells (s3.heap.push { cls := .type "dict", data := .dict #[] }) scope.names }
  rw [hce] at I4 pg pt pe pi1 pg1 pt1 ⊢
  rw [hH3] at w0
  have cL : ce.locals = s3.heap.objs.size := by rw [← hce]; rfl
  obtain ⟨s4, hs4⟩ : ∃ s4 : Shared, ({ s3 with heap := pushCells (s3.heap.push { cls := .type "dict", data := .dict #[] }) scope.names } : Shared) = s4 := ⟨_, rfl⟩
  rw [hs4] at I4 ⊢
  have st4 : tn 0 s4.heap := T.keep _ _ _ st3 fun b _ o e => by rw [← hs4]; exact pushCells_keeps _ _ _ _ (Heap.get?_push_of_some _ e)
  have stat : ∀ {sg' : L2.St} {H' : Hp} {s' : Shared}, Inv (X.blk s3 H3 scope ce fp) [] sg' H' s' → (∀ b ∈ fp, H' b = none) → ∀ b ∈ fp, FpOk (X.blk s3 H3 scope ce fp) [] H' b := fun {sg' H' s'} I' hn b hb =>
    ⟨hn b hb, (I'.ok.exf b hb).1, I'.ok.exfs b hb, .inl hb, fun x c e => (I'.ok.exf b hb).2 x c e, fun p hp => absurd (show p ∈ ([] : List (Addr × Obj)) ++ [] from hp) (by simp)⟩
  refine PpSet.codeAny_compStart_set ?loop (T.self X.A 0 _ _ _ st4 ?loop)
  refine loopS_out (hs1 ce) (fun n s' => ∃ i H', Inv (X.blk s3 H3 scope ce fp) [] (wipe sg (own.map (·.2))) H' s' ∧ tn i s'.heap ∧ (∀ b ∈ fp, H' b = none) ∧ W i n H') ?_ m0 ⟨0, H3, I4, st4, fun b hb => (f3 b hb).1.1, w0⟩
  rintro n s5 ⟨i, H5, I5, st5, n5, w5⟩
  rcases turn i n H5 w5 with ⟨stop, fin⟩ | ⟨go, Nx, hNx, step⟩
  · refine thnF (T.done (X.blk s3 H3 scope ce fp) rfl rfl rfl hc i [] s5 _ H5 (fun _ _ => False) I5 (stat I5 n5) st5 stop) fun r s6 ⟨hr, I6⟩ => ?_
    subst hr
    have I7 : Inv X pins sg H5 s6 := I3.call' (ch := fp) I6.os I6.base I6.hok I6.bare fun b hb => ⟨(f3 b hb).1.2.2.2.1, (f3 b hb).1.2.1, (f3 b hb).1.2.2.2.2.1, (f3 b hb).1.2.2.2.2.2⟩
    have nC : H5 s3.heap.objs.size = none := by rw [← cL]; exact I6.free
    obtain ⟨m, hn, _⟩ := I6.loc
    have hn : s6.heap.Ns ce.locals m := hn
    rw [cL] at hn
    obtain ⟨g0, g1, g2, g3, g4, g5⟩ := I3.fpOk (Nat.le_refl _) nC
    exact ⟨m, hn, fun h'' sb => ⟨.ref D, H5, I7.turned (t' := s6.toks) (fun b o hb e => (sb.2 b hb).trans e) g0 g1 g3 g4 g5, rfl, fin⟩⟩
  · refine thnF (T.item (X.blk s3 H3 scope ce fp) rfl rfl rfl hc i [] s5 _ H5 (fun _ _ => False) I5 (stat I5 n5) st5 go) fun r s6 ⟨u, hr, h6⟩ => ?_
    subst hr
    refine thnF h6 fun _ s7 ⟨x, H7, I7, r7, y7, st7, n7⟩ => thnF (pg.run _ s7 _ H7 x u _ (I7.pinned (stat I7 n7) (T.obj _ _ st7)) r7 (step x H7 y7)) fun _ s8 ⟨sg8, H8, I8, hw8, q8⟩ => thnF (pt.run _ s8 sg8 H8 _ I8 q8) fun b s9 ⟨H9, I9, q9⟩ => ?_
    have fin : ∀ {σ9 : L2.St} {s' : Shared} {H' : Hp}, Inv (X.blk s3 H3 scope ce fp) ([] ++ pinsAt fp s7.heap) σ9 H' s' → (wipe sg (own.map (·.2))).length = σ9.length → (∀ (j : Nat) v, (wipe sg (own.map (·.2)))[j]? = some (some v) → σ9[j]? = some (some v)) → Nx H' →
        ∃ m, m < n ∧ ∃ i H', Inv (X.blk s3 H3 scope ce fp) [] (wipe sg (own.map (·.2))) H' s' ∧ tn i s'.heap ∧ (∀ b ∈ fp, H' b = none) ∧ W i m H' := fun {σ9 s' H'} I' hl hk nx => by
      obtain ⟨m', lt, w'⟩ := hNx H' nx
      have pinned : ∀ b ∈ fp, ∀ o, s7.heap.get? b = some o → s'.heap.get? b = some o ∧ H' b = none := fun b hb o e => ⟨(I'.pin (b, o) (List.mem_append_right _ (List.mem_append_right _ (mem_pinsAt hb e)))).1, (I'.pin (b, o) (List.mem_append_right _ (List.mem_append_right _ (mem_pinsAt hb e)))).2.1⟩
      refine ⟨m', lt, i + 1, H', (I'.unpinned (pins := [])).weak hl hk, T.keep _ _ _ st7 fun b hb o e => (pinned b hb o e).1, fun b hb => ?_, w'⟩
      obtain ⟨o, e, _⟩ := T.obj _ _ st7 b hb
      exact (pinned b hb o e).2
    have hl8 : (wipe sg (own.map (·.2))).length = sg8.length := by rw [← hw8, wipe_length]
    have hk8 : ∀ (j : Nat) v, (wipe sg (own.map (·.2)))[j]? = some (some v) → sg8[j]? = some (some v) := fun j v e => by
      rw [← hw8] at e
      exact (wipe_some e).1
    have hk9 : ∀ (j : Nat) v, (wipe sg (own.map (·.2)))[j]? = some (some v) → (wipe sg8 vs1)[j]? = some (some v) := fun j v e => by
      rw [← hw8] at e
      obtain ⟨e1, e2⟩ := wipe_some e
      rw [wipe_out fun z => e2 (hv j z)]
      exact e1
    match b, q9 with
    | false, q9 => exact fin I9 hl8 hk8 q9
    | true, q9 =>
      refine thnF (pi1.run _ s9 sg8 H9 _ I9 q9) fun xv s10 hx => thnF hx fun itv s11 h11 => ?_
      obtain ⟨it1, fp1, tn1, J1, H11, rfl, I11, T1, st11, f11, W1, ⟨m1, w1⟩, turn1⟩ := h11
      have stat1 : ∀ {H' : Hp}, (∀ b ∈ fp1, H' b = none) → ∀ b ∈ fp1, FpOk (X.blk s3 H3 scope ce fp) ([] ++ pinsAt fp s7.heap) H' b := fun hn b hb => ⟨hn b hb, (f11 b hb).2⟩
      have loop1 : codeAny (model X.prog X.w) X.A (.compLoop (.SetComp elt [⟨tg, iter, ifs, 0⟩, ⟨tg1, iter1, ifs1, 0⟩] scope pos) 1 (.ref it1) (.ref D) ce)
          (fun r s' => match r with
            | .ok _ => ∃ m, m < n ∧ ∃ i H', Inv (X.blk s3 H3 scope ce fp) [] (wipe sg (own.map (·.2))) H' s' ∧ tn i s'.heap ∧ (∀ b ∈ fp, H' b = none) ∧ W i m H'
            | .error _ => False) s11 := by
        refine loopS_in (fun k s' => ∃ j H', Inv (X.blk s3 H3 scope ce fp) ([] ++ pinsAt fp s7.heap) (wipe sg8 vs1) H' s' ∧ tn1 j s'.heap ∧ (∀ b ∈ fp1, H' b = none) ∧ W1 j k H') ?_ m1 ⟨0, H11, I11.weak (wipe_length _ _) (fun j v e => (wipe_some e).1), st11, fun b hb => (f11 b hb).1, w1⟩
        rintro k s12 ⟨j, H12, I12, st12, n12, w12⟩
        rcases turn1 j k H12 w12 with ⟨stop1, nx1⟩ | ⟨go1, Nx1, hNx1, step1⟩
        · refine thnF (T1.done (X.blk s3 H3 scope ce fp) rfl rfl rfl hc j _ s12 (wipe sg8 vs1) H12 (fun _ _ => False) I12 (stat1 n12) st12 stop1) fun r s13 ⟨hr, I13⟩ => ?_
          subst hr
          exact fin I13 (hl8.trans (wipe_length sg8 vs1).symm) hk9 nx1
        · refine thnF (T1.item (X.blk s3 H3 scope ce fp) rfl rfl rfl hc j _ s12 (wipe sg8 vs1) H12 (fun _ _ => False) I12 (stat1 n12) st12 go1) fun r s13 ⟨u1, hr, h13⟩ => ?_
          subst hr
          refine thnF h13 fun _ s14 ⟨x1, H14, I14, r14, y14, st14, n14⟩ => ?_
          have I14' := I14.pinned (stat1 n14) (T1.obj _ _ st14)
          refine thnF (pg1.run _ s14 (wipe sg8 vs1) H14 x1 u1 _ I14' r14 (step1 x1 H14 y14)) fun _ s15 ⟨sg15, H15, I15, hw15, q15⟩ => ?_
          refine thnF (pt1.run _ s15 sg15 H15 _ I15 q15) fun b1 s16 ⟨H16, I16, q16⟩ => ?_
          have fin1 : ∀ {s' : Shared} {H' : Hp}, Inv (X.blk s3 H3 scope ce fp) (([] ++ pinsAt fp s7.heap) ++ pinsAt fp1 s14.heap) sg15 H' s' → Nx1 H' → ∃ m, m < k ∧ ∃ j H', Inv (X.blk s3 H3 scope ce fp) ([] ++ pinsAt fp s7.heap) (wipe sg8 vs1) H' s' ∧ tn1 j s'.heap ∧ (∀ b ∈ fp1, H' b = none) ∧ W1 j m H' := fun {s' H'} I' nx => by
            obtain ⟨m', hm, w'⟩ := hNx1 H' nx
            have pin' : ∀ b ∈ fp1, ∀ o, s14.heap.get? b = some o → s'.heap.get? b = some o ∧ H' b = none := fun b hb o e =>
              let z := I'.pin (b, o) (List.mem_append_right _ (List.mem_append_right _ (mem_pinsAt hb e)))
              ⟨z.1, z.2.1⟩
            refine ⟨m', hm, j + 1, H', I'.unpinned.weak (by rw [← hw15, wipe_length]) (fun j v e => by rw [← hw15] at e; exact (wipe_some e).1), T1.keep _ _ _ st14 fun b hb o e => (pin' b hb o e).1, fun b hb => ?_, w'⟩
            obtain ⟨o, e, _⟩ := T1.obj _ _ st14 b hb
            exact (pin' b hb o e).2
          match b1, q16 with
          | false, q16 => exact fin1 I16 q16
          | true, q16 =>
            refine thnF (pe.run _ s16 sg15 H16 _ I16 q16) fun z s17 ⟨yv, H17, I17, r17, k0, S0, n0, ey, at17, few, nx⟩ => ?_
            subst ey
            obtain ⟨tk, rfl⟩ : ∃ tk, z = Value.int k0 tk := r17
            exact putSet (X := X.blk s3 H3 scope ce fp) I17 at17 few fun s18 I18 => fin1 I18 nx
      exact startS_in loop1 (T1.self X.A 0 _ _ _ st11 loop1)
end
end Sm

/-! sorted({.. for .. for ..}) of ints: the value. -/
namespace Sm
open PySem PySem.Spec PyProof.Rows L2
theorem sc2_in {mg : Gm} {w : World} {W : WX} {it it1 : Its} {T T1 : Tg} {t t1 : Ts} {el : M} {S S1 vs vs1 : List Nat} {kp fr : Bool} {sg : L2.St} {H : Hp} {Z : VK} (hT : TgOk T) (hS : ∀ i ∈ S, i ∈ vs) (hS1 : ∀ i ∈ S1, i ∈ vs1)
    (h : tvM mg W (mSortSet (mComp2 it T t it1 T1 t1 el vs vs1)) kp true sg H Z) : tSortSc w (tSc2I w (tvI mg W false it) (tvG mg.K T S) (tvT mg noW t) (tvI mg noW true it1) (tvG mg.K T1 S1) (tvT mg noW t1) (tvM mg noW el true fr) vs vs1) sg H Z := by
  obtain ⟨A0, A, ρ, hs, ho⟩ := h
  have ho' : Oc mg A H (fun c d H' => W c d sg H') (fun d => ∀ v H', Same H H' → Res A kp true H H' v d → Z v H') (it ρ >>= fun xs => (compL2 T t it1 T1 t1 el vs1 (wipeR ρ vs) xs).hush >>= fun ys => if ys.length ≤ 16777216 then (match intsOf ys with
      | some ns => if ns.length ≤ 4000 ∧ (metI ns).length < 64 then .ok (.list ((ascI ns).map .int)) else .no
      | none => .no) else .no) := by
    have e : mSortSet (mComp2 it T t it1 T1 t1 el vs vs1) ρ = (it ρ >>= fun xs => (compL2 T t it1 T1 t1 el vs1 (wipeR ρ vs) xs).hush >>= fun ys => if ys.length ≤ 16777216 then (match intsOf ys with
      | some ns => if ns.length ≤ 4000 ∧ (metI ns).length < 64 then .ok (.list ((ascI ns).map .int)) else .no
      | none => .no) else .no) := by
      show (mComp2 it T t it1 T1 t1 el vs vs1 ρ >>= _) = _
      unfold mComp2
      cases it ρ with
      | exc c d => rfl
      | no => rfl
      | ok xs =>
        simp only [Rs.bind_ok]
        cases (compL2 T t it1 T1 t1 el vs1 (wipeR ρ vs) xs).hush with
        | exc c d => rfl
        | no => rfl
        | ok ys =>
          simp only [Rs.bind_ok]
          split <;> rfl
    rw [e] at ho
    exact ho
  refine ⟨A0, A, ρ, hs, ho'.bind.mono fun xs h1 J H1 s1 hz wk D nD => ?_⟩
  cases ec : (compL2 T t it1 T1 t1 el vs1 (wipeR ρ vs) xs).hush with
  | exc c d => cases e2 : compL2 T t it1 T1 t1 el vs1 (wipeR ρ vs) xs <;> rw [e2] at ec <;> cases ec
  | no => rw [ec] at h1; exact h1.elim
  | ok ys =>
  rw [ec, Rs.bind_ok] at h1
  split at h1
  case isFalse => exact h1.elim
  cases ei : intsOf ys with
  | none => rw [ei] at h1; exact h1.elim
  | some ns =>
  rw [ei] at h1
  dsimp only at h1
  split at h1
  case isFalse => exact h1.elim
  rename_i hl
  have fin : ∀ v H', Same H H' → Res A kp true H H' v (.list ((ascI ns).map .int)) → Z v H' := h1
  have ec' := hush_ok ec
  obtain rfl := intsOf_eq ei
  have hs1 := hs.mono s1
  have nA : D ∉ A := fun m => by obtain ⟨o, e⟩ := hs1.dom D m; rw [nD] at e; cases e
  have scan : (4001 : Nat) < scanBound := by unfold scanBound; decide
  refine ⟨fun i m H2 => m = xs.length - i ∧ i ≤ xs.length ∧ ∃ (n1 n2 : List Int), H2 D = some (SetO w D (fun j => decide (j ∈ n1)) (metI n1).length) ∧ compL2 T t it1 T1 t1 el vs1 (wipeR ρ vs) (xs.drop i) = .ok (n2.map .int) ∧ ns = n1 ++ n2 ∧ Same H1 H2,
    ⟨xs.length, by simp, Nat.zero_le _, [], ns, upd_same, ec', rfl, same_new nD⟩, ?_⟩
  rintro i m H2 ⟨rfl, hi, n1, n2, hD, hc, en, s2⟩
  obtain ⟨w1, w2⟩ := wk H2 s2
  by_cases hlt : i < xs.length
  · have hx : xs[i]? = some xs[i] := List.getElem?_eq_getElem hlt
    have ed : xs.drop i = xs[i] :: xs.drop (i + 1) := List.drop_eq_getElem_cons hlt
    rw [ed] at hc
    unfold compL2 at hc
    obtain ⟨g1, g2⟩ := w2 i _ hx
    cases eT : T xs[i] (wipeR ρ vs) with
    | exc c d => rw [eT] at hc; cases hc
    | no => rw [eT] at hc; cases hc
    | ok ρ1 =>
    rw [eT] at hc
    have hc1 : (t ρ1 >>= fun b => if b = true then ((it1 ρ1).hush >>= fun zs => compL T1 t1 el (wipeR ρ1 vs1) zs >>= fun ys => compL2 T t it1 T1 t1 el vs1 (wipeR ρ vs) (xs.drop (i + 1)) >>= fun ws => .ok (ys ++ ws)) else compL2 T t it1 T1 t1 el vs1 (wipeR ρ vs) (xs.drop (i + 1))) = .ok (n2.map .int) := hc
    cases eb : t ρ1 with
    | exc c d => rw [eb] at hc1; cases hc1
    | no => rw [eb] at hc1; cases hc1
    | ok b =>
    rw [eb] at hc1
    refine .inr ⟨g1, fun H3 => ∃ (n1 n2 : List Int), H3 D = some (SetO w D (fun j => decide (j ∈ n1)) (metI n1).length) ∧ compL2 T t it1 T1 t1 el vs1 (wipeR ρ vs) (xs.drop (i + 1)) = .ok (n2.map .int) ∧ ns = n1 ++ n2 ∧ Same H1 H3,
      fun H3 q => ⟨xs.length - (i + 1), by omega, rfl, hlt, q⟩, fun x H3 yy => ?_⟩
    obtain ⟨s3, q3⟩ := g2 x H3 yy
    have stA : StA mg.K A0 (D :: A) (wipeR ρ vs) (wipe sg vs) H3 := (hs1.wipe vs).addOwn nD (s2.trans s3) ⟨⟨SetO w D (fun j => decide (j ∈ n1)) (metI n1).length, fun _ z => nomatch z⟩, s3 _ _ hD⟩
    have rx := q3 (D :: A) (fun a ma => by
      rcases List.mem_cons.mp ma with rfl | ma
      · exact .inr nD
      · exact .inl ma) (fun a ma => by
      rcases List.mem_cons.mp ma with rfl | ma
      · exact ⟨⟨SetO w a (fun j => decide (j ∈ n1)) (metI n1).length, fun _ z => nomatch z⟩, hD⟩
      · obtain ⟨o, e⟩ := hs1.dom a ma
        exact ⟨o, s2 _ _ e⟩)
    refine ⟨A0, D :: A, wipeR ρ vs, xs[i], ρ1, stA, rx, eT, fun sg2 st2 ag => ⟨?_, ?_⟩⟩
    · rw [wipe_agree (ag.mono hS), wipe_wipe]
    have now : ∀ (i : Nat) (d : PyData) (a : Addr), ρ1[i]? = some (.ow d) → sg2[i]? = some (some (.ref a)) → a ≠ D := fun i' d a h1 h2 ez => by
      have h3 := hT _ _ _ eT i' d h1
      have ni : i' ∉ vs := fun m => wipeR_un m h3
      have h4 := ag.at' i' fun m => ni (hS i' m)
      obtain ⟨a', q1, q2, _, _⟩ := (hs1.wipe vs).ow i' d h3
      rw [h4, q1] at h2
      cases h2
      exact nA (by rw [← ez]; exact q2)
    refine ⟨A0, D :: A, ρ1, st2, ?_⟩
    rw [eb]
    intro H4 s4
    cases b with
    | false =>
      have hc2 : compL2 T t it1 T1 t1 el vs1 (wipeR ρ vs) (xs.drop (i + 1)) = .ok (n2.map .int) := hc1
      exact ⟨n1, n2, s4 _ _ (s3 _ _ hD), hc2, en, s2.trans (s3.trans s4)⟩
    | true =>
      have hc2 : ((it1 ρ1).hush >>= fun zs => compL T1 t1 el (wipeR ρ1 vs1) zs >>= fun ys => compL2 T t it1 T1 t1 el vs1 (wipeR ρ vs) (xs.drop (i + 1)) >>= fun ws => .ok (ys ++ ws)) = .ok (n2.map .int) := hc1
      cases ez : (it1 ρ1).hush with
      | exc c d => rw [ez] at hc2; cases hc2
      | no => rw [ez] at hc2; cases hc2
      | ok zs =>
      rw [ez] at hc2
      have ez' := hush_ok ez
      have hc3 : (compL T1 t1 el (wipeR ρ1 vs1) zs >>= fun ys => compL2 T t it1 T1 t1 el vs1 (wipeR ρ vs) (xs.drop (i + 1)) >>= fun ws => .ok (ys ++ ws)) = .ok (n2.map .int) := hc2
      cases ei2 : compL T1 t1 el (wipeR ρ1 vs1) zs with
      | exc c d => rw [ei2] at hc3; cases hc3
      | no => rw [ei2] at hc3; cases hc3
      | ok yi =>
      rw [ei2] at hc3
      have hc4 : (compL2 T t it1 T1 t1 el vs1 (wipeR ρ vs) (xs.drop (i + 1)) >>= fun ws => .ok (yi ++ ws)) = .ok (n2.map .int) := hc3
      cases eo : compL2 T t it1 T1 t1 el vs1 (wipeR ρ vs) (xs.drop (i + 1)) with
      | exc c d => rw [eo] at hc4; cases hc4
      | no => rw [eo] at hc4; cases hc4
      | ok yo =>
      rw [eo] at hc4
      have e3 : yi ++ yo = n2.map .int := by injection hc4
      obtain ⟨m1, m2, em, eyi, eyo⟩ := ints_app e3
      subst eyi
      subst eyo
      refine ⟨A0, D :: A, ρ1, st2.mono s4, ?_⟩
      rw [ez']
      intro J1 H5 s5 hz1 wk1
      have hD5 : H5 D = some (SetO w D (fun j => decide (j ∈ n1)) (metI n1).length) := s5 _ _ (s4 _ _ (s3 _ _ hD))
      have st5 : StA mg.K A0 (D :: A) ρ1 sg2 H5 := (st2.mono s4).mono s5
      refine ⟨fun j k H6 => k = zs.length - j ∧ j ≤ zs.length ∧ ∃ (p1 p2 : List Int), H6 D = some (SetO w D (fun j => decide (j ∈ p1)) (metI p1).length) ∧ compL T1 t1 el (wipeR ρ1 vs1) (zs.drop j) = .ok (p2.map .int) ∧ ns = p1 ++ (p2 ++ m2) ∧ ∀ b o, b ≠ D → H5 b = some o → H6 b = some o,
        ⟨zs.length, by simp, Nat.zero_le _, n1, m1, hD5, ei2, by rw [en, em], fun b o _ e => e⟩, ?_⟩
      rintro j k H6 ⟨rfl, hj, p1, p2, hD6, hc6, ey6, k6⟩
      have kept : ∀ {H7 : Hp}, (∀ b o, b ≠ D → H5 b = some o → H7 b = some o) → Kept (D :: A) H5 H7 := fun {H7} k7 b o e => by
        by_cases m : b ∈ D :: A
        · rw [hide_in m] at e; cases e
        · rw [hide_out m] at e ⊢
          exact k7 b o (fun z => m (by rw [z]; exact List.mem_cons_self)) e
      have same1 : ∀ {H7 : Hp}, (∀ b o, b ≠ D → H5 b = some o → H7 b = some o) → Same H1 H7 := fun {H7} k7 b o e => k7 b o (ne_of_none e nD) (s5 _ _ (s4 _ _ (s3 _ _ (s2 _ _ e))))
      obtain ⟨v1, v2⟩ := wk1 H6 (kept k6)
      by_cases hlj : j < zs.length
      · have hxj : zs[j]? = some zs[j] := List.getElem?_eq_getElem hlj
        have edj : zs.drop j = zs[j] :: zs.drop (j + 1) := List.drop_eq_getElem_cons hlj
        rw [edj] at hc6
        unfold compL at hc6
        obtain ⟨g5, g6⟩ := v2 j _ hxj
        cases eT1 : T1 zs[j] (wipeR ρ1 vs1) with
        | exc c d => rw [eT1] at hc6; cases hc6
        | no => rw [eT1] at hc6; cases hc6
        | ok ρ2 =>
        rw [eT1] at hc6
        have hd1 : (t1 ρ2 >>= fun b => if b = true then ((el ρ2).hush >>= fun y => compL T1 t1 el (wipeR ρ1 vs1) (zs.drop (j + 1)) >>= fun ys => .ok (y :: ys)) else compL T1 t1 el (wipeR ρ1 vs1) (zs.drop (j + 1))) = .ok (p2.map .int) := hc6
        cases eb1 : t1 ρ2 with
        | exc c d => rw [eb1] at hd1; cases hd1
        | no => rw [eb1] at hd1; cases hd1
        | ok b1 =>
        rw [eb1] at hd1
        refine .inr ⟨g5, fun H7 => ∃ (p1 p2 : List Int), H7 D = some (SetO w D (fun j => decide (j ∈ p1)) (metI p1).length) ∧ compL T1 t1 el (wipeR ρ1 vs1) (zs.drop (j + 1)) = .ok (p2.map .int) ∧ ns = p1 ++ (p2 ++ m2) ∧ ∀ b o, b ≠ D → H5 b = some o → H7 b = some o,
          fun H7 q => ⟨zs.length - (j + 1), by omega, rfl, hlj, q⟩, fun x H7 yy => ?_⟩
        obtain ⟨s7, q7⟩ := g6 x H7 yy
        have k7 : ∀ b o, b ≠ D → H5 b = some o → H7 b = some o := fun b o n e => s7 _ _ (k6 b o n e)
        have hD7 : H7 D = some (SetO w D (fun j => decide (j ∈ p1)) (metI p1).length) := s7 _ _ hD6
        have st7 : StA mg.K A0 (D :: A) ρ1 sg2 H7 := st5.reD now k7 ⟨⟨SetO w D (fun j => decide (j ∈ p1)) (metI p1).length, fun _ z => nomatch z⟩, hD7⟩ (fun o u z => by rw [hD5] at z; cases z)
        have st6 : StA mg.K A0 (D :: A) ρ1 sg2 H6 := st5.reD now k6 ⟨⟨SetO w D (fun j => decide (j ∈ p1)) (metI p1).length, fun _ z => nomatch z⟩, hD6⟩ (fun o u z => by rw [hD5] at z; cases z)
        have rx7 := q7 (D :: A) (fun a ma => .inl ma) st6.dom
        refine ⟨A0, D :: A, wipeR ρ1 vs1, zs[j], ρ2, st7.wipe vs1, rx7, eT1, fun sg3 st3 ag3 => ⟨?_, ?_⟩⟩
        · rw [wipe_agree (ag3.mono hS1), wipe_wipe]
        refine ⟨A0, D :: A, ρ2, st3, ?_⟩
        rw [eb1]
        intro H8 s8
        have k8 : ∀ b o, b ≠ D → H5 b = some o → H8 b = some o := fun b o n e => s8 _ _ (k7 b o n e)
        cases b1 with
        | false =>
          have hd2 : compL T1 t1 el (wipeR ρ1 vs1) (zs.drop (j + 1)) = .ok (p2.map .int) := hd1
          exact ⟨p1, p2, s8 _ _ hD7, hd2, ey6, k8⟩
        | true =>
          have hd2 : ((el ρ2).hush >>= fun y => compL T1 t1 el (wipeR ρ1 vs1) (zs.drop (j + 1)) >>= fun ys => .ok (y :: ys)) = .ok (p2.map .int) := hd1
          cases ee : (el ρ2).hush with
          | exc c d => rw [ee] at hd2; cases hd2
          | no => rw [ee] at hd2; cases hd2
          | ok y =>
          rw [ee] at hd2
          have ee' := hush_ok ee
          cases er : compL T1 t1 el (wipeR ρ1 vs1) (zs.drop (j + 1)) with
          | exc c d => rw [er] at hd2; cases hd2
          | no => rw [er] at hd2; cases hd2
          | ok z3 =>
          rw [er] at hd2
          have e4 : y :: z3 = p2.map .int := by injection hd2
          cases p2 with
          | nil => cases e4
          | cons k0 p3 =>
          injection e4 with e5 e6
          subst e5
          refine ⟨A0, D :: A, ρ2, st3.mono s8, ?_⟩
          rw [ee']
          intro v H9 s9 r9
          have len : p1.length + (p3.length + 1 + m2.length) ≤ 4000 := by
            have := hl.1
            rw [ey6, List.length_append, List.length_append] at this
            exact this
          have lm := metI_len p1
          refine ⟨k0, fun j => decide (j ∈ p1), (metI p1).length, r9.1.kept |> fun z => (by cases z; rfl), s9 _ _ (s8 _ _ hD7), by omega, p1 ++ [k0], p3, ?_, by rw [e6], by rw [ey6]; simp, fun b o n e => ?_⟩
          · rw [upd_same]
            have ef : (fun j => decide (j ∈ p1) || decide (j = k0)) = fun j => decide (j ∈ p1 ++ [k0]) := by
              funext j
              simp
            rw [ef, metI_snoc]
            simp
          · rw [upd_ne n]
            exact s9 _ _ (k8 b o n e)
      · have ejz : j = zs.length := by omega
        subst ejz
        rw [List.drop_length] at hc6
        have e2 : p2 = [] := by
          cases p2 with
          | nil => rfl
          | cons k0 p3 => cases hc6
        subst e2
        exact .inl ⟨v1, p1, m2, hD6, rfl, by rw [ey6]; rfl, same1 k6⟩
  · have ei' : i = xs.length := by omega
    subst ei'
    refine .inl ⟨w1, D, _, _, rfl, hD, ?_, fun out p pw mem len np => ?_⟩
    · have : (metI n1).length ≤ (metI ns).length := by
        rw [en]
        refine (metI_nd n1).length_le_of_subset fun x m => ?_
        rw [metI_has] at m ⊢
        exact List.mem_append_left _ m
      omega
    · rw [List.drop_length] at hc
      have e2 : n2 = [] := by
        cases n2 with
        | nil => rfl
        | cons k n3 => cases hc
      subst e2
      rw [List.append_nil] at en
      subst en
      have eo : out = ascI ns := ascI_is pw fun k => by rw [mem k, decide_eq_true_eq]
      rw [eo]
      have s12 : Same H1 H2 := s2
      have la : (ascI ns).length ≤ sizeLine := by
        rw [sizeLine_eq]
        have : (ascI ns).length = (metI ns).length := (List.mergeSort_perm _ _).length_eq
        omega
      exact fin _ _ (s1.trans (s2.trans (same_new np))) (Res.newL (hs1.mono s2).dom (rpAll_ints _ _) (by rw [List.length_map]; exact la) np (s1.trans s2))
theorem sound_sortSC2 {X : Cx} {W : WX} {elt tg iter tg1 iter1 : Expr} {ifs ifs1 : List Expr} {scope : Scope} {own : List (Str × Nat)} {p pos pos2 : Pos} {it it1 : Its} {T T1 : Tg} {t t1 : Ts} {el : M} {S S1 vs1 : List Nat} {kp fr : Bool}
    (hc : X.calm = true) (g1 : Gl X "sorted") (m1 : X.mg "sorted" = none) (nd : X.N.Nodup) (ok : BlkOk X.N X.env.scope scope own) (hv : ∀ i ∈ vs1, i ∈ own.map (·.2)) (hT : TgOk T) (hS : ∀ i ∈ S, i ∈ own.map (·.2)) (hS1 : ∀ i ∈ S1, i ∈ vs1) (hi : PI X tg iter (tvI (gm X) W false it))
    (hg : BlkP X scope fun Y => PG Y tg (tvG X.K T S)) (ht : BlkP X scope fun Y => PTs Y ifs (tvT (gm X) noW t)) (hi1 : BlkP X scope fun Y => PI Y tg1 iter1 (tvI (gm X) noW true it1)) (hg1 : BlkP X scope fun Y => PG Y tg1 (tvG X.K T1 S1)) (ht1 : BlkP X scope fun Y => PTs Y ifs1 (tvT (gm X) noW t1)) (he : BlkP X scope fun Y => PE Y elt (tvM (gm X) noW el true fr))
    (hf : ∀ x, foldedSetIterable iter X.env x = pure x) (hf1 : ∀ env x, foldedSetIterable iter1 env x = pure x) : PE X (.Call (.Name "sorted" p) [.SetComp elt [⟨tg, iter, ifs, 0⟩, ⟨tg1, iter1, ifs1, 0⟩] scope pos] [] pos2) (tvM (gm X) W (mSortSet (mComp2 it T t it1 T1 t1 el (own.map (·.2)) vs1)) kp true) := by
  refine peBy (pe_callB (cr_sortedSet hc) g1 m1 boot_sorted (pa_cons (pe_sc2I hc nd hi ok hv hg ht hi1 hg1 ht1 he hf hf1) pa_nil) (by decide) rfl rfl rfl) fun sg H Z h => ?_
  exact sc2_in (w := X.w) (fr := fr) hT hS hS1 h
end Sm

/-! x.index(e), x.count(e); x.pop(..) of an owned list. -/
namespace Sm
open PySem PySem.Spec L2
def dIndex (ds : List PyData) (e : PyData) : Rs PyData := if SeqAt.shaped (.list ds) = true ∧ SeqAt.shaped e = true then (match ds.findIdx? fun z => PyData.eqv z e with
    | some j => okI j
    | none => .no) else .no
def dCount (ds : List PyData) (e : PyData) : Rs PyData := match intsOf ds, e with
  | some ns, .int k => okI (ns.count k : Nat)
  | _, _ => .no
/-- a list's method of one argument -/
def mLm (f : List PyData → PyData → Rs PyData) (a b : M) : M := fun ρ => do
  let d ← a ρ
  match d with
  | .list ds => do
    let x ← b ρ
    f ds x
  | _ => .no
section
variable {X : Cx} {W : WX} {a e : Expr} {ma me : M} {apos cpos : Pos} {kp fa fe : Bool}
theorem sound_index (hu : X.A.units + 65 < cLine) (hb : attributeBase a "index" X.env (eval a X.env) = eval a X.env) (n : noStar e = true) (hl : (apos.endLine == cpos.line) = true) (ha : PE X a (tvM (gm X) W ma false fa)) (he : PE X e (tvM (gm X) W me false fe)) :
    PE X (.Call (.Attribute a "index" apos) [e] [] cpos) (tvM (gm X) W (mLm dIndex ma me) kp true) := by
  refine peBy (pe_bm PySem.F.plainAttrs_list PySem.F.slot_list_index PySem.F.type_list_index (mt_indexD hu) ha (pa_cons he pa_nil (star_ne n)) hb (one_few n) hl (star_ne n) rfl) ?_
  rintro sg H Z ⟨A0, A, ρ, hs, ho⟩
  refine ⟨A0, A, ρ, hs, ho.bind.mono fun d h1 v H1 s1 r1 => ?_⟩
  cases d with
  | list ds =>
    obtain ⟨l, us, rfl, hl1, hz, ra⟩ := r1.1.list
    refine ⟨.inl ⟨rfl, us, .inl (.inl hl1)⟩, A0, A, ρ, hs.mono s1, (h1.later s1).bind.mono fun x h2 y H2 s2 r2 => ?_⟩
    unfold dIndex at h2
    by_cases sh : SeqAt.shaped (.list ds) = true ∧ SeqAt.shaped x = true
    · rw [if_pos sh] at h2
      cases hf : ds.findIdx? fun z => PyData.eqv z x with
      | none => rw [hf] at h2; exact h2.elim
      | some j =>
        rw [hf] at h2
        obtain ⟨hj, e1, e2⟩ := List.findIdx?_eq_some_iff_getElem.mp hf
        have r1' := r1.1.mono s2
        refine ⟨l, y, x, ds, j, ds[j], rfl, rfl, Rp.dp _ _ _ r1'.rp (noDict_of_shaped sh.1), Rp.dp _ _ _ r2.1.rp (noDict_of_shaped sh.2), sh.1, sh.2, List.getElem?_eq_getElem hj, e1, fun m z' hm hz' => ?_, h2 _ _ (s1.trans s2) (res_int _).weak⟩
        obtain ⟨h3, h4⟩ := List.getElem?_eq_some_iff.mp hz'
        have := e2 m hm
        rw [← h4]
        simpa using this
    · rw [if_neg sh] at h2; exact h2.elim
  | _ => exact h1.elim
theorem sound_count (hb : attributeBase a "count" X.env (eval a X.env) = eval a X.env) (n : noStar e = true) (hl : (apos.endLine == cpos.line) = true) (ha : PE X a (tvM (gm X) W ma false fa)) (he : PE X e (tvM (gm X) W me false fe)) :
    PE X (.Call (.Attribute a "count" apos) [e] [] cpos) (tvM (gm X) W (mLm dCount ma me) kp true) := by
  refine peBy (pe_bm PySem.F.plainAttrs_list PySem.F.slot_list_count PySem.F.type_list_count mt_lcount ha (pa_cons he pa_nil (star_ne n)) hb (one_few n) hl (star_ne n) rfl) ?_
  rintro sg H Z ⟨A0, A, ρ, hs, ho⟩
  refine ⟨A0, A, ρ, hs, ho.bind.mono fun d h1 v H1 s1 r1 => ?_⟩
  cases d with
  | list ds =>
    obtain ⟨l, us, rfl, hl1, hz, ra⟩ := r1.1.list
    refine ⟨.inl ⟨rfl, us, .inl (.inl hl1)⟩, A0, A, ρ, hs.mono s1, (h1.later s1).bind.mono fun x h2 y H2 s2 r2 => ?_⟩
    unfold dCount at h2
    split at h2
    · rename_i ns k ei
      rw [intsOf_eq ei] at ra
      have eu := ra.ints
      subst eu
      exact ⟨l, ns, k, rfl, by rw [r2.1.int], .inl (.inl (s2 _ _ hl1)), h2 _ _ (s1.trans s2) (res_int _).weak⟩
    · exact h2.elim
  | _ => exact h1.elim
end
/-! ### pop -/
def popAt (ds : List PyData) : Option Int → Option (PyData × List PyData)
  | none => ds.getLast?.map fun d => (d, ds.dropLast)
  | some j => (ixN ds.length j).bind fun p => ds[p]?.map fun d => (d, ds.eraseIdx p)
/-- behind a pop: the target's store, if any -/
def popTo (T : Option Tg) (j : Nat) (ρ : Rho) : Option (PyData × List PyData) → Out
  | some (d, ds') => (match T with
    | none => .nx (ρ.set j (.ow (.list ds')))
    | some T => (match T d (ρ.set j (.ow (.list ds'))) with
      | .ok ρ' => .nx ρ'
      | _ => .no))
  | none => .no
def sPop (T : Option Tg) (j : Nat) (k : Option M) : Sx := fun ρ => match owL ρ[j]? with
  | some ds => lf (optM k ρ) ρ fun o => popTo T j ρ (popAt ds o)
  | none => .no
def sAppPop (i j : Nat) (k : Option M) : Sx := fun ρ => match owL ρ[i]?, owL ρ[j]? with
  | some xs, some ds => lf (optM k ρ) ρ fun o => match popAt ds o with
    | some (d, ds') => if xs.length < sizeLine ∧ i ≠ j then .nx ((ρ.set j (.ow (.list ds'))).set i (.ow (.list (xs ++ [d])))) else .no
    | none => .no
  | _, _ => .no
section
variable {X : Cx} {W : WX} {A0 : List Addr} {H0 : Hp} {rf : Bool} {pos : Pos}
theorem rp_dropLast {H : Hp} : ∀ {vs : List V} {ds : List PyData}, RpAll H vs ds → RpAll H vs.dropLast ds.dropLast
  | _, _, h => by rw [List.dropLast_eq_take, List.dropLast_eq_take, h.len]; exact h.take _
theorem rp_erase {H : Hp} {vs : List V} {ds : List PyData} (h : RpAll H vs ds) (p : Nat) : RpAll H (vs.eraseIdx p) (ds.eraseIdx p) := by
  rw [List.eraseIdx_eq_take_drop_succ, List.eraseIdx_eq_take_drop_succ]
  exact (h.take p).app (h.drop (p + 1))
/-- what a pop asks and gives, by its value -/
theorem pop_core {mg : Gm} {A : List Addr} {H : Hp} {a : Addr} {us : List V} {ds ds' : List PyData} {d : PyData} {o : Option Int} (hu : H a = some (.lst us)) (ma : a ∈ A) (hz : us.length ≤ sizeLine) (ru : RpAll (Hide A H) us ds) (e : popAt ds o = some (d, ds')) :
    ∃ v us', Rp (Hide A (upd H a (.lst us'))) v d ∧ OwnAt A (upd H a (.lst us')) a (.list ds') ∧
      (o = none → us[us.length - 1]? = some v ∧ us' = us.dropLast) ∧ (∀ j, o = some j → ∃ k, -(2 ^ 63) ≤ j ∧ j < 2 ^ 63 ∧ seqIndex? j us.length = some k ∧ us[k]? = some v ∧ us' = us.eraseIdx k) := by
  have z62 : (sizeLine : Int) < 2 ^ 62 := by rw [sizeLine_eq]; decide
  cases o with
  | none =>
    obtain ⟨d0, e1, e2⟩ := Option.map_eq_some_iff.mp e
    cases e2
    rw [List.getLast?_eq_getElem?, ← ru.len] at e1
    obtain ⟨v, h1, h2⟩ := ru.get e1
    refine ⟨v, us.dropLast, ?_, ⟨us.dropLast, upd_same, ?_, ?_⟩, fun _ => ⟨h1, rfl⟩, fun j h => nomatch h⟩
    · rw [hide_upd ma]; exact h2
    · rw [List.length_dropLast]; omega
    · rw [hide_upd ma]; exact rp_dropLast ru
  | some j =>
    obtain ⟨p, e1, e2⟩ := Option.bind_eq_some_iff.mp e
    obtain ⟨d0, e3, e4⟩ := Option.map_eq_some_iff.mp e2
    cases e4
    rw [← ru.len] at e1
    obtain ⟨q1, q2, q3, q4⟩ := ixN_seq e1
    obtain ⟨v, h1, h2⟩ := ru.get e3
    refine ⟨v, us.eraseIdx p, ?_, ⟨us.eraseIdx p, upd_same, ?_, ?_⟩, (fun h => nomatch h), fun j' h => ?_⟩
    · rw [hide_upd ma]; exact h2
    · have := List.length_eraseIdx_le us p
      omega
    · rw [hide_upd ma]; exact rp_erase ru p
    · cases h
      exact ⟨p, by omega, by omega, q1, h1, rfl⟩
/-- the call's judgement, with or without a place -/
inductive PopE (X : Cx) (W : WX) (j : Nat) : Option M → Expr → Prop
  | last {x : Str} {p1 apos cpos : Pos} (hN : X.N[j]? = some x) (hv : Vis X.env.scope x) (h1 : (x == ("__debug__" : Str)) = false) (h2 : (x == ("__classdict__" : Str)) = false) (hl : (apos.endLine == cpos.line) = true) : PopE X W j none (.Call (.Attribute (.Name x p1) "pop" apos) [] [] cpos)
  | at' {x : Str} {p1 apos cpos : Pos} {e : Expr} {m : M} {fe : Bool} (hN : X.N[j]? = some x) (hv : Vis X.env.scope x) (h1 : (x == ("__debug__" : Str)) = false) (h2 : (x == ("__classdict__" : Str)) = false) (hl : (apos.endLine == cpos.line) = true)
      (n : noStar e = true) (he : PE X e (tvM (gm X) W m false fe)) : PopE X W j (some m) (.Call (.Attribute (.Name x p1) "pop" apos) [e] [] cpos)
/-- reading: the list of slot j, then its place, then what is behind the pop -/
def tPop (mg : Gm) (W : WX) (A0 : List Addr) (j : Nat) (k : Option M) : TE := fun sg H Z => ∃ A ρ ds, StA mg.K A0 A ρ sg H ∧ owL ρ[j]? = some ds ∧ Oc mg A H (fun c d H' => W c d sg H') (fun o => ∃ d ds', popAt ds o = some (d, ds') ∧
  ∀ v H2 us' a, Same H H2 → sg[j]? = some (some (.ref a)) → a ∈ A → a ∉ A0 → Rp (Hide A (upd H2 a (.lst us'))) v d → OwnAt A (upd H2 a (.lst us')) a (.list ds') → Z v (upd H2 a (.lst us'))) (optM k ρ)
theorem pe_pop {j : Nat} {k : Option M} {e : Expr} (h : PopE X W j k e) : PE X e (tPop (gm X) W A0 j k) := by
  cases h with
  | last hN hv h1 h2 hl =>
    refine peBy (pe_bm0 PySem.F.plainAttrs_list PySem.F.slot_list_pop PySem.F.type_list_pop mt_pop (pe_var hN hv h1 h2) rfl hl) ?_
    rintro sg H Z ⟨A, ρ, ds, hs, eo, oc⟩
    have ei := owL_eq eo
    obtain ⟨a, ea, m1, m2, us, hu, hz, ru⟩ := hs.ow j _ ei
    obtain ⟨d, ds', ep, fin⟩ : ∃ d ds', popAt ds none = some (d, ds') ∧ ∀ v H2 us' a, Same H H2 → sg[j]? = some (some (.ref a)) → a ∈ A → a ∉ A0 → Rp (Hide A (upd H2 a (.lst us'))) v d → OwnAt A (upd H2 a (.lst us')) a (.list ds') → Z v (upd H2 a (.lst us')) := oc
    obtain ⟨v, us', r, o, c, _⟩ := pop_core (mg := gm X) hu m1 hz ru ep
    obtain ⟨c1, rfl⟩ := c rfl
    exact ⟨.ref a, ea, .inl ⟨rfl, us, .inl (.inl hu)⟩, a, us, v, rfl, rfl, hu, c1, fin v H _ a (Same.refl _) ea m1 m2 r o⟩
  | at' hN hv h1 h2 hl n he =>
    refine peBy (pe_bm PySem.F.plainAttrs_list PySem.F.slot_list_pop PySem.F.type_list_pop mt_popAt (pe_var hN hv h1 h2) (pa_cons he pa_nil (star_ne n)) rfl (one_few n) hl (star_ne n) rfl) ?_
    rintro sg H Z ⟨A, ρ, ds, hs, eo, oc⟩
    have ei := owL_eq eo
    obtain ⟨a, ea, m1, m2, us, hu, hz, ru⟩ := hs.ow j _ ei
    rename_i x0 p0 a0 c0 e0 m fe
    have oc' : Oc (gm X) A H (fun c d H' => W c d sg H') (fun o => ∃ d ds', popAt ds o = some (d, ds') ∧
      ∀ v H2 us' a, Same H H2 → sg[j]? = some (some (.ref a)) → a ∈ A → a ∉ A0 → Rp (Hide A (upd H2 a (.lst us'))) v d → OwnAt A (upd H2 a (.lst us')) a (.list ds') → Z v (upd H2 a (.lst us'))) (optM (some m) ρ) := oc
    refine ⟨.ref a, ea, .inl ⟨rfl, us, .inl (.inl hu)⟩, A0, A, ρ, hs, oc'.bind.mono fun y q w H2 s2 r2 => ?_⟩
    cases y with
    | int i =>
      obtain ⟨d, ds', ep, fin⟩ := q
      have hu2 : H2 a = some (.lst us) := s2 _ _ hu
      obtain ⟨v, us', r, o, _, c⟩ := pop_core (mg := gm X) hu2 m1 hz (ru.mono (hide_same s2)) ep
      obtain ⟨k, k1, k2, k3, k4, rfl⟩ := c i rfl
      exact ⟨a, us, i, k, v, rfl, by rw [r2.1.int], hu2, k1, k2, k3, k4, fin v H2 _ a s2 ea m1 m2 r o⟩
    | _ => exact q.elim
theorem popTo_some {T : Option Tg} {j : Nat} {ρ : Rho} {o : Option (PyData × List PyData)} {mg : Gm} {A : List Addr} {H : Hp} {D : Ends} (h : Post mg W A0 H0 rf A H D (popTo T j ρ o)) : ∃ d ds', o = some (d, ds') := by
  cases o with
  | none => exact h.elim
  | some p => exact ⟨p.1, p.2, rfl⟩
theorem soundS_popX {j : Nat} {k : Option M} {e : Expr} (hs : swapsWith e none pos.line X.env = pure false) (h : PopE X W j k e) : PS X (.Expr e pos) (tvS (gm X) W A0 H0 rf (sPop none j k)) := by
  refine psBy (ps_expr (pe_pop (A0 := A0) h) hs) ?_
  rintro D sg H ⟨A, ρ, st, p⟩
  unfold sPop at p
  cases eo : owL ρ[j]? with
  | none => rw [eo] at p; exact p.elim
  | some ds =>
    rw [eo] at p
    refine ⟨A, ρ, ds, st.st, eo, (lf_oc st p).mono fun o q => ?_⟩
    obtain ⟨d, ds', ep⟩ := popTo_some q
    rw [ep] at q
    refine ⟨d, ds', ep, fun v H2 us' a s2 ea m1 m2 r ow => ?_⟩
    have st2 := st.mono s2
    exact q A sg _ (st2.put m1 m2 (st2.st.chOw (owL_eq eo) ea m1 m2 ow)) ((Trk.same s2).trans (Trk.put m1))
theorem soundS_popS {j : Nat} {k : Option M} {e tg : Expr} {T : Tg} {S : List Nat} (hg : PG X tg (tvG X.K T S)) (hs : swapsWithSole [tg] e pos.line X.env = pure false) (hw : swappedStores [tg] e X.env = pure none) (n : noStar tg = true) (h : PopE X W j k e) :
    PS X (.Assign [tg] e pos) (tvS (gm X) W A0 H0 rf (sPop (some T) j k)) := by
  refine psBy (ps_asg (pe_pop (A0 := A0) h) hg hs hw (by cases tg <;> first | rfl | cases n)) ?_
  rintro D sg H ⟨A, ρ, st, p⟩
  unfold sPop at p
  cases eo : owL ρ[j]? with
  | none => rw [eo] at p; exact p.elim
  | some ds =>
    rw [eo] at p
    refine ⟨A, ρ, ds, st.st, eo, (lf_oc st p).mono fun o q => ?_⟩
    obtain ⟨d, ds', ep⟩ := popTo_some q
    rw [ep] at q
    refine ⟨d, ds', ep, fun v H2 us' a s2 ea m1 m2 r ow => ?_⟩
    have st2 := st.mono s2
    have st3 := st2.put m1 m2 (st2.st.chOw (owL_eq eo) ea m1 m2 ow)
    unfold popTo at q
    dsimp only at q
    cases eT : T d (ρ.set j (.ow (.list ds'))) with
    | exc c x => rw [eT] at q; exact q.elim
    | no => rw [eT] at q; exact q.elim
    | ok ρ' =>
      rw [eT] at q
      exact ⟨A0, A, _, d, ρ', st3.st, r, eT, fun sg' st' _ => q A sg' _ ⟨st', st3.same, st3.new⟩ ((Trk.same s2).trans (Trk.put m1))⟩
theorem soundS_appPop {x : Str} {i j : Nat} {k : Option M} {e : Expr} {p1 apos cpos : Pos} (hN : X.N[i]? = some x) (hv : Vis X.env.scope x) (h1 : (x == ("__debug__" : Str)) = false) (h2 : (x == ("__classdict__" : Str)) = false) (n : noStar e = true)
    (hl : (apos.endLine == cpos.line) = true) (h : PopE X W j k e) : PS X (.Expr (.Call (.Attribute (.Name x p1) "append" apos) [e] [] cpos) pos) (tvS (gm X) W A0 H0 rf (sAppPop i j k)) := by
  have call := pe_bm PySem.F.plainAttrs_list PySem.F.slot_list_append PySem.F.type_list_append mt_append (pe_var (pos := p1) hN hv h1 h2) (pa_cons (pe_pop (A0 := A0) h) pa_nil (star_ne n)) (cpos := cpos) (apos := apos) rfl (one_few n) hl (star_ne n) rfl
  refine psBy (ps_expr call rfl) ?_
  rintro D sg H ⟨A, ρ, st, p⟩
  unfold sAppPop at p
  cases eo : owL ρ[i]? with
  | none => rw [eo] at p; exact p.elim
  | some xs =>
  cases eo2 : owL ρ[j]? with
  | none => rw [eo, eo2] at p; exact p.elim
  | some ds =>
    rw [eo, eo2] at p
    have ei := owL_eq eo
    have ej := owL_eq eo2
    obtain ⟨b, eb, n1, n2, ws, hw, zw, rw'⟩ := st.st.ow i _ ei
    refine ⟨.ref b, eb, .inl ⟨rfl, ws, .inl (.inl hw)⟩, A, ρ, ds, st.st, eo2, (lf_oc st p).mono fun o q => ?_⟩
    cases ep : popAt ds o with
    | none => rw [ep] at q; exact q.elim
    | some pr =>
      obtain ⟨d, ds'⟩ := pr
      rw [ep] at q
      dsimp only at q
      split at q
      case isFalse => exact q.elim
      rename_i hc
      refine ⟨d, ds', rfl, fun v H2 us' a s2 ea m1 m2 r ow => ?_⟩
      have ne : b ≠ a := by
        rintro rfl
        exact hc.2 (st.st.inj i j _ _ ei ej (eb.trans ea.symm))
      have st2 := st.mono s2
      have st3 := st2.put m1 m2 (st2.st.chOw ej ea m1 m2 ow)
      have hw2 : H2 b = some (.lst ws) := s2 _ _ hw
      have hw3 : upd H2 a (.lst us') b = some (.lst ws) := by rw [upd_ne ne]; exact hw2
      have lt : ws.length < sizeLine := by rw [rw'.len]; exact hc.1
      have ei3 : (ρ.set j (.ow (.list ds')))[i]? = some (.ow (.list xs)) := by rw [List.getElem?_set_ne (fun e => hc.2 e.symm)]; exact ei
      have q1 : OwnAt A (upd (upd H2 a (.lst us')) b (.lst (ws ++ [v]))) b (.list (xs ++ [d])) := by
        refine ⟨ws ++ [v], upd_same, by rw [List.length_append]; exact lt, ?_⟩
        rw [hide_upd n1]
        refine RpAll.app ?_ (.one r)
        rw [hide_upd m1]
        exact rw'.mono (hide_same s2)
      refine ⟨b, ws, v, rfl, rfl, hw3, lt, ?_⟩
      exact q A sg _ (st3.put n1 n2 (st3.st.chOw ei3 eb n1 n2 q1)) ((Trk.same s2).trans ((Trk.put m1).trans (Trk.put n1)))
end
end Sm

/-! isinstance of a caught error that has its own dict. -/
namespace Sm
open PySem PySem.Spec PySem.Calls PyProof.Rows L2
/-- what the class must say beside XfC -/
structure IsC (K : PySem.W.Frag) (C : Addr) : Prop where
  x : XfC K C
  ac : PySem.W.findIn K (.ref C) "__class__" = some (some (.builtin "object.__class__"))
  gt : PySem.W.specialIn K (.builtin "object.__class__") "__get__" = some (some (.builtin "getset_descriptor.__get__"))
  tk : PySem.W.takesIn K (.builtin "object.__class__") = some true
  mo : PySem.W.mroIn K C (.type "object") = some true
section
variable {prog : Program} {w : World} {A : Around} {Ex : Value → Shared → Prop} {s : Shared} {K : PySem.W.Frag} {x C : Addr} {ox : Obj} {od : Option Obj}
theorem IsC.find (T : IsC K C) (od : Option Obj) : PySem.W.findObj K C od "__class__" = some (.bind (.builtin "getset_descriptor.__get__") (.builtin "object.__class__")) := by
  have hc : (PySem.W.clsIn K C).isSome = true := by
    have := T.x.hdC
    unfold PySem.W.hasDictIn at this
    cases e : PySem.W.clsIn K C with
    | none => rw [e] at this; cases this
    | some cd => rfl
  obtain ⟨cd, hc⟩ := Option.isSome_iff_exists.mp hc
  unfold PySem.W.findObj
  rw [hc, Option.bind_some, T.ac, Option.bind_some]
  simp [T.gt, T.tk]
theorem classOf (T : IsC K C) {Q : Option Value → Shared → Prop} (X : K.In s.heap) (I : PySem.W.InstAt s.heap x ox C od) (h : Q (some (.ref C)) { s with toks := s.toks + 1 }) : wpAny (model prog w) A (getAttr? (.ref x) "__class__") Q Ex s := by
  obtain ⟨hp, g, d, t, os⟩ := s
  have ty := I.type (M := model prog w)
  have ga := PySem.W.looks_findIn (M := model prog w) X T.x.ga
  have gg := PySem.W.looks_findIn (M := model prog w) X T.x.gg
  have fd := PySem.W.looks_find (M := model prog w) X I (T.find od)
  have sub : PySem.W.Looks (model prog w) hp (isInstance (.ref x) (.type "BaseException")) true := ty.andThen (PySem.W.looks_subIn X T.x.exC)
  have e0 : (false && onTheHeap (Value.builtin "BaseException.__getattribute__")) = false := rfl
  have e1 : (onTheHeap (Value.ref C) && Value.builtin "BaseException.__getattribute__" == Value.builtin "object.__getattribute__") = false := by
    rw [show (Value.builtin "BaseException.__getattribute__" == Value.builtin "object.__getattribute__") = false by decide +kernel]; rfl
  unfold getAttr? getAttrBy? getAttrBy
  refine wpAny_bind (wpAny_mkText (wpAny_bind (wpAny_attempt (wpAny_holding (wpAny_bind (ty.at (wpAny_bind (ga.at ?_)))))))); show wpAny _ _ (if (onTheHeap (Value.ref C) && _) = true then _ else _) _ _ _
  rw [e1, if_neg Bool.false_ne_true]; unfold getAttrByItsOwn hookBefore
  refine wpAny_bind ?_; rw [if_pos (show onTheHeap (Value.ref C) = true from rfl)]; refine gg.at ?_
  refine wpAny_bind (wpAny_attempt (wpAny_holding ?_)); unfold callGetattribute; rw [e0, if_neg Bool.false_ne_true]
  unfold boundAndCalled; rw [PySem.F.excAttr_ValueError.ga.bind (.ref x)]
  refine wpAny_bind (wpAny_pure ?_); show wpAny _ _ (call (.builtin "BaseException.__getattribute__") [.ref x, .str "__class__" t]) _ _ _
  refine wpAny_call (codeAny_call_builtin PySem.F.excAttr_ValueError.ga.plain PySem.F.entry_bexc_ga ?_)
  refine @PySem.W.check_slot (model prog w) _ _ ⟨hp, g, d, t + 1, os⟩ "BaseException.__getattribute__" "BaseException" "__getattribute__" (.ref x) [.str "__class__" t] [] _ (by decide +kernel) (by decide +kernel) sub (PySem.F.args_bexc_ga (.ref x) (.str "__class__" t)) ?_
  unfold Builtin.«object.__getattribute__»
  refine wpAny_bind (wpAny_of_eq (a := ((Value.ref x : Value), [Value.str "__class__" t])) (by first | rfl | (simp only [slotArgs]; rfl)) ?_)
  refine wpAny_bind (wpAny_pure (wpAny_bind (ty.at (wpAny_bind (fd.at ?_))))); show wpAny _ _ (holding [Value.builtin "object.__class__"] (call (.builtin "getset_descriptor.__get__") [.builtin "object.__class__", .ref x, .ref C]) >>= ret) _ _ _
  refine wpAny_bind (wpAny_holding (wpAny_call (PySem.W.class_get (s := ⟨hp, g, d, t + 1, os⟩) X I T.mo ?_))); refine wpAny_pure ?_
  show wpAny _ _ (handedOut (.ref C)) _ _ _
  rw [PySem.W.handedOut_of (v := .ref C) rfl]
  first
    | exact wpAny_pure (wpAny_pure h)
    | exact wpAny_pure h
    | exact wpAny_pure (wpAny_bind (wpAny_pure (wpAny_pure h)))
theorem kitOf (T : IsC K C) : PySem.W.KitX K (.ref x) (.ref C) (fun h => PySem.W.InstAt h x ox C od) := by
  have any : ∃ cd, PySem.W.clsIn K C = some cd := by
    have := T.x.hdC
    unfold PySem.W.hasDictIn at this
    cases e : PySem.W.clsIn K C with
    | none => rw [e] at this; cases this
    | some cd => exact ⟨cd, rfl⟩
  obtain ⟨cd, hc⟩ := any
  have look : ∃ d cd' sl, K.lookup C = some ⟨.type "type", d, .cls cd', sl⟩ ∨ ∃ c, K.lookup C = some ⟨c, d, .cls cd', sl⟩ := by
    unfold PySem.W.clsIn at hc
    split at hc
    · rename_i c' d' cd' sl' ho
      exact ⟨d', cd', sl', .inr ⟨c', ho⟩⟩
    · cases hc
  obtain ⟨d0, cd0, sl0, hl⟩ := look
  obtain ⟨c0, hl⟩ : ∃ c, K.lookup C = some ⟨c, d0, .cls cd0, sl0⟩ := by
    rcases hl with h | h
    · exact ⟨_, h⟩
    · exact h
  refine ⟨fun _ _ _ I => I.type, fun _ _ X _ => ?_, fun h tp dd its n sl X htp => ?_, fun X I k => classOf T X I k⟩
  · intro A' Q' E' s' k q
    unfold isType loadHead
    exact wpAny_bind (wpAny_loadPart (k _ _ (X _ _ hl)) (wpAny_pure q))
  · refine Bool.eq_false_iff.mpr fun q => ?_
    have e : C = tp := Value.ref.inj (beq_iff_eq.mp q)
    subst e
    have z := (X _ _ hl).symm.trans htp
    cases z
end
/-- isinstance(e, c), e the error that the suite holds, with its dict -/
def rIsD (K : PySem.W.Frag) (C a : Addr) (d : Option Addr) : List V → Hp → VK → Prop := fun xs H Q => ∃ (c : V) (cv : Value) (b : Bool) (dd : Addr) (fs : List (Str × V)), xs = [.ref a, c] ∧ d = some dd ∧ H dd = some (.xd fs) ∧ (∀ u, RelV c u → u = cv) ∧ PySem.W.kitOne K (.ref C) cv = some b ∧ Q (.bl b) H
theorem call_isD {X : Cx} {a C : Addr} {oe : Obj} {d : Option Addr} {pn : List (Addr × Obj)} (T : IsC X.K C) (hz : Zc (.ref C) d oe) (hf : ∃ vs, oe.data = .fields vs) : CallR (X.suite a ((a, oe) :: pn)) (.builtin "isinstance") (rIsD X.K C a d) := by
  intro pins s sg H xs us Q I r h
  obtain ⟨c, cv, b, dd, fs, rfl, ed, hx, hcv, e, q⟩ := h
  subst ed
  cases r with
  | cons rx rr =>
    cases rr with
    | cons rt rr =>
      cases rr
      cases rx
      have ec := hcv _ rt
      subst ec
      obtain ⟨ha, _⟩ := I.pin (a, oe) (List.mem_append.mpr (.inl List.mem_cons_self))
      obtain ⟨vs, hd⟩ := hf
      have ok : ObjOk X.prog X.w H s.heap dd (.xd fs) := I.hok dd _ hx
      obtain ⟨mA, hns, _⟩ := ok
      obtain ⟨od, ho, _⟩ := lookIn_ns hns
      have J : PySem.W.InstAt s.heap a oe C (some od) := ⟨ha, hz.1, by unfold PySem.W.notCls; rw [hd] <;> rfl, by rw [hz.2]; exact ho⟩
      exact PySem.W.kia_one (kitOf T) I.kIn J e (fun z => nomatch z) fun tk => ⟨.bl b, H, I.kept (t' := tk) fun _ _ z => z, rfl, q⟩
end Sm

/-! try: .. except C as e: return (isinstance(e, A), .., e.at). -/
namespace Sm
open PySem PySem.Spec PyProof.Rows L2
theorem get_any (K : PySem.W.Frag) : PySem.W.specialIn K (.builtin "object.__class__") "__get__" = some (some (.builtin "getset_descriptor.__get__")) := by kernel_rfl
theorem takes_any (K : PySem.W.Frag) : PySem.W.takesIn K (.builtin "object.__class__") = some true := by kernel_rfl
section
variable {K : PySem.W.Frag} {D fI C Cy : Addr} {x y : Str}
theorem ClsF.isC (h : ClsF K D fI x C) (r : RootF K D) (hx : x ≠ "CountError") : IsC K C := ⟨h.xf r hx, h.ac, get_any K, takes_any K, by rw [h.mro]; rfl⟩
theorem ClsF.kit (h : ClsF K D fI x C) (r : RootF K D) (hx : x ≠ "CountError") (hy : y ≠ "CountError") (h2 : ClsF K D fI y Cy) (same : x = y → C = Cy) : PySem.W.kitOne K (.ref C) (.ref Cy) = some (takesX x y) := by
  have one := h.one r hx (.inr ⟨hy, h2⟩) same
  unfold PySem.W.exmOne at one
  have hb : PySem.W.subIn K (.ref Cy) (.type "BaseException") = some true := (h2.sub r hy).oex.exC
  rw [hb, if_pos (by decide)] at one
  have hc : ((PySem.W.clsIn K Cy).isSome && PySem.W.typeIn K (.ref Cy) == some (.type "type")) = true := by
    obtain ⟨q, N, bs, sn, sub, ab, col, dd, k0, k1, k2, k3, k5, e⟩ := h2.lk
    unfold PySem.W.clsIn PySem.W.typeIn
    simp [e]
  unfold PySem.W.kitOne
  split
  · rename_i q
    have e : C = Cy := Value.ref.inj (beq_iff_eq.mp q)
    have : takesX x y = true := by
      obtain ⟨c1, a1, _, n1, _⟩ := h.cls
      obtain ⟨c2, a2, _, n2, _⟩ := h2.cls
      rw [e, a2] at a1
      cases a1
      unfold takesX
      rw [← n1, n2]
      simp
    rw [this]
  · exact one
end
/-- what such a row holds -/
def rowX (c : Str) (d : PyData) (ws : List (Option Str)) : PyData := .tuple (ws.map fun w => match w with
  | some z => .bool (takesX c z)
  | none => d)
def sTryR (sb : Sx) (xs : List Str) (y : Str) (ws : List (Option Str)) : Sx := fun ρ => match sb ρ with
  | .xc ρ' c d => if c ∈ xs ∧ boxed d = false then (if takesX c y = true then .rt (rowX c d ws) else .xc ρ' c d) else .no
  | .nx ρ' => .nx ρ'
  | .rt d => .rt d
  | .bk ρ' => .bk ρ'
  | .ct ρ' => .ct ρ'
  | .no => .no
inductive ItOk (X : Cx) (n : Str) (xs : List Str) : List Expr → List (Option Str) → Prop
  | nil : ItOk X n xs [] []
  | is {z : Str} {p p1 p2 p3 : Pos} {es : List Expr} {ws : List (Option Str)} (hz : z ∈ xs) (gl : Gl X z) (od : (z == ("__debug__" : Str)) = false) (r : ItOk X n xs es ws) :
      ItOk X n xs (.Call (.Name "isinstance" p) [.Name n p1, .Name z p2] [] p3 :: es) (some z :: ws)
  | at' {p1 p2 : Pos} {es : List Expr} {ws : List (Option Str)} (r : ItOk X n xs es ws) : ItOk X n xs (.Attribute (.Name n p1) "at" p2 :: es) (none :: ws)
def itV (f : Str → Bool) (v : V) (ws : List (Option Str)) : List V := ws.map fun w => match w with
  | some z => .bl (f z)
  | none => v
def tIts (K : PySem.W.Frag) (mg : Str → Option Value) (i : Nat) (ws : List (Option Str)) (a : Addr) (cls : Value) (dd : Option Addr) : TA := fun sg H Z => ∃ (Ca dx : Addr) (v : V) (f : Str → Bool), cls = .ref Ca ∧ IsC K Ca ∧ PySem.W.findIn K (.ref Ca) "at" = some none ∧ dd = some dx ∧
  H dx = some (.xd [(("at" : Str), v)]) ∧ sg[i]? = some (some (.ref a)) ∧ (∀ z, some z ∈ ws → ∃ Cz : Addr, mg z = some (.ref Cz) ∧ PySem.W.kitOne K (.ref Ca) (.ref Cz) = some (f z)) ∧ Z (itV f v ws) H
section
variable {X : Cx} {C : Cc} {W : WX} {A0 : List Addr} {H0 : Hp} {rf : Bool} {pos : Pos} {n : Str} {i : Nat} {xs : List Str}
theorem its_pa (hi : X.N[i]? = some n) (hl : X.env.kindOf n = some .local) (n1 : (n == ("__debug__" : Str)) = false) (n2 : (n == ("__classdict__" : Str)) = false) (gi : Gl X "isinstance") (mi : X.mg "isinstance" = none)
    {a : Addr} {oe : Obj} {cls : Value} {d : Option Addr} {pn : List (Addr × Obj)} (hz : Zc cls d oe) (hf : ∃ vs, oe.data = .fields vs) {es : List Expr} {ws : List (Option Str)} (ok : ItOk X n xs es ws) : PA (X.suite a ((a, oe) :: pn)) es (tIts X.K X.mg i ws a cls d) ∧ es.all noStar = true := by
  induction ok with
  | nil => exact ⟨paBy pa_nil fun sg H Z ⟨_, _, _, _, _, _, _, _, _, _, _, q⟩ => q, rfl⟩
  | @is z p p1 p2 p3 es ws hz' gl od r ih =>
    refine ⟨⟨fun ps pn1 st sg H Z inv q => ?_⟩, by show (true && _) = true; rw [ih.2]; rfl⟩
    obtain ⟨Ca, dx, v, f, ec, T, no, ed, hx, si, all, q⟩ := q
    obtain ⟨Cz, mz, kit⟩ := all z (by simp)
    subst ec
    have c1 : PE (X.suite a ((a, oe) :: pn)) (.Call (.Name "isinstance" p) [.Name n p1, .Name z p2] [] p3) _ := pe_callB (X := X.suite a ((a, oe) :: pn)) (call_isD T hz hf) gi mi (by decide +kernel) (pa_cons (pe_var (X := X.suite a ((a, oe) :: pn)) hi (.inl hl) n1 n2) (pa_cons (pe_glob (X := X.suite a ((a, oe) :: pn)) (v := .ref Cz) gl mz rfl od) pa_nil)) (by decide) rfl rfl rfl
    refine (pa_cons c1 ih.1 rfl).run ps pn1 st sg H Z inv ?_
    exact ⟨_, si, .ref Cz, .ref Cz, f z, dx, _, rfl, ed, hx, fun u h => h, kit, Ca, dx, v, f, rfl, T, no, ed, hx, si, fun z' m => all z' (List.mem_cons_of_mem _ m), q⟩
  | @at' p1 p2 es ws r ih =>
    refine ⟨⟨fun ps pn1 st sg H Z inv q => ?_⟩, by show (true && _) = true; rw [ih.2]; rfl⟩
    obtain ⟨Ca, dx, v, f, ec, T, no, ed, hx, si, all, q⟩ := q
    refine (pa_cons (su_at T.x no hz hf hi hl n1 n2) ih.1 rfl).run ps pn1 st sg H Z inv ?_
    exact ⟨_, si, rfl, ec, dx, _, v, ed, hx, rfl, Ca, dx, v, f, ec, T, no, ed, hx, si, fun z' m => all z' (List.mem_cons_of_mem _ m), q⟩
def tSuR (K : PySem.W.Frag) (mg : Str → Option Value) (i : Nat) (ws : List (Option Str)) : ClT := fun a cls dd D sg H => ∃ (Ca dx : Addr) (v : V) (f : Str → Bool), cls = .ref Ca ∧ IsC K Ca ∧ PySem.W.findIn K (.ref Ca) "at" = some none ∧ dd = some dx ∧ H dx = some (.xd [(("at" : Str), v)]) ∧
  (∃ sg0 : L2.St, sg = sg0.set i (some (.ref a))) ∧ (∀ z, some z ∈ ws → ∃ Cz : Addr, mg z = some (.ref Cz) ∧ PySem.W.kitOne K (.ref Ca) (.ref Cz) = some (f z)) ∧ ws.length ≤ sizeLine ∧ ∀ p, H p = none → D.rt (.ref p) (upd H p (.tup (itV f v ws)))
theorem suR_ok {es : List Expr} {ws : List (Option Str)} {k : Nat} {p5 p3 : Pos} (hi : X.N[i]? = some n) (hl : X.env.kindOf n = some .local) (n1 : (n == ("__debug__" : Str)) = false) (n2 : (n == ("__classdict__" : Str)) = false) (gi : Gl X "isinstance") (mi : X.mg "isinstance" = none) (ok : ItOk X n xs es ws) :
    ∀ (a : Addr) (oe : Obj) (cls : Value) (d : Option Addr) (pn : List (Addr × Obj)), Zc cls d oe → (∃ vs, oe.data = .fields vs) → PSs (X.suite a ((a, oe) :: pn)) [.Return (some (.Tuple es k p5)) p3] (tSuR X.K X.mg i ws a cls d) := by
  intro a oe cls d pn hz hf
  constructor
  rintro pn1 s1 sg H D inv ⟨Ca, dx, v, f, q1, T, no, q2, q3, q4, all, wl, q5⟩
  have q4 : sg[i]? = some (some (.ref a)) := by
    obtain ⟨sg0, rfl⟩ := q4
    have l1 : (sg0.set i (some (V.ref a))).length = X.N.length := inv.len
    have l2 := (List.getElem?_eq_some_iff.mp hi).1
    rw [List.length_set] at l1
    rw [List.getElem?_set_self (by omega)]
  refine (pss_one (ps_ret (pe_tup (its_pa (pn := pn) hi hl n1 n2 gi mi hz hf ok).1))).run pn1 s1 sg H D inv ?_
  exact ⟨Ca, dx, v, f, q1, T, no, q2, q3, q4, all, by unfold itV; rw [List.length_map]; exact wl, q5⟩
theorem soundS_tryR {es : List Expr} {ws : List (Option Str)} {k : Nat} {np hp p3 p5 : Pos} {y : Str} {sb : Sx} {body : List Stmt} (g : Good X C W) (htr : C.tr = true) (hne : C.exs ≠ []) (hi : X.N[i]? = some n) (hl : X.env.kindOf n = some .local)
    (n1 : (n == ("__debug__" : Str)) = false) (n2 : (n == ("__classdict__" : Str)) = false) (hy : y = "CountError" ∨ y ∈ C.exs) (gy : Gl X y) (oy : (y == ("__debug__" : Str)) = false) (gi : Gl X "isinstance") (mi : X.mg "isinstance" = none) (ok : ItOk X n C.exs es ws) (wl : ws.length ≤ 1000)
    (hb : ∀ (W' : WX) (pn : List (Addr × Obj)) (xe : Value → Shared → Prop), Good (X.tr pn xe) C W' → PSs (X.tr pn xe) body (tvS (gm X) W' A0 H0 rf sb)) :
    PS X (.Try body [.ExceptHandler (some (.Name y np)) (some n) [.Return (some (.Tuple es k p5)) p3] hp] [] [] pos) (tvS (gm X) W A0 H0 rf (sTryR sb C.exs y ws)) := by
  rcases g.exs with z | ⟨hlv, D, fI, fd, mD, rD, F, hbb, tI, all⟩
  · exact absurd z hne
  obtain ⟨hst, hf⟩ := g.tr htr
  obtain ⟨Cy, my, cy⟩ : ∃ Cy : Addr, X.mg y = some (.ref Cy) ∧ ((y = "CountError" ∧ Cy = D) ∨ (y ≠ "CountError" ∧ ClsF X.K D fI y Cy)) := by
    rcases hy with rfl | h
    · exact ⟨D, mD, .inl ⟨rfl, rfl⟩⟩
    · obtain ⟨a1, a2, a3, a4⟩ := all y h
      exact ⟨a2, a3, .inr ⟨a1, a4⟩⟩
  have okc : ClsOk X n [.ExceptHandler (some (.Name y np)) (some n) [.Return (some (.Tuple es k p5)) p3] hp] [(.ref Cy, tSuR X.K X.mg i ws)] := .cons ⟨gy, oy, .inl my⟩ (suR_ok hi hl n1 n2 gi mi ok) .nil
  refine psBy (ps_tryAs hst hf (by rw [g.N]; exact g.nd) hi hl g.tk (tb := fun W' => tvS (gm X) W' A0 H0 rf sb) (fun W' pn xe tk pw => hb W' pn xe ⟨g.sc, g.N, g.nd, g.calm, g.room, g.gd, g.fn, tk, pw, g.fns, g.blt, g.fzf, g.gls, g.exs, g.tr, g.gcd⟩) okc) ?_
  rintro Dn sg H ⟨A, ρ, hs1, pq⟩
  refine ⟨A, ρ, hs1, ?_⟩
  unfold sTryR at pq
  cases e : sb ρ with
  | nx ρ' => rw [e] at pq; exact pq
  | rt d => rw [e] at pq; exact pq
  | bk ρ' => rw [e] at pq; exact pq
  | ct ρ' => rw [e] at pq; exact pq
  | no => rw [e] at pq; exact pq
  | xc ρ' c d =>
    rw [e] at pq
    dsimp only at pq
    split at pq
    case isFalse => exact pq.elim
    rename_i hc
    intro A' sg' H' st' tr' Ca dx v m hx hv
    obtain ⟨nx, Cc', mC, kc⟩ := all c hc.1
    obtain rfl : Cc' = Ca := by
      have q : X.mg c = some (.ref Ca) := m
      rw [mC] at q
      cases q; rfl
    refine ⟨takesX c y, kc.one rD nx cy ?_, fun hb a na => ?_, fun hb => ?_⟩
    · intro e1
      rcases cy with ⟨a1, a2⟩ | ⟨a1, a2⟩
      · exact absurd (e1.trans a1) nx
      · rw [e1, my] at mC
        cases mC
        rfl
    · rw [if_pos hb] at pq
      have allz : ∀ z, some z ∈ ws → ∃ Cz : Addr, X.mg z = some (.ref Cz) ∧ PySem.W.kitOne X.K (.ref Cc') (.ref Cz) = some (takesX c z) := by
        intro z mz
        have zx : z ∈ C.exs := by
          clear okc e pq wl
          induction ok with
          | nil => cases mz
          | is hz' _ _ _ ih =>
            rcases List.mem_cons.mp mz with e | mz
            · cases e; exact hz'
            · exact ih mz
          | at' _ ih =>
            rcases List.mem_cons.mp mz with e | mz
            · cases e
            · exact ih mz
        obtain ⟨nz, Cz, mz', kz⟩ := all z zx
        refine ⟨Cz, mz', kc.kit rD nx nz kz fun e1 => ?_⟩
        rw [e1, mz'] at mC
        cases mC
        rfl
      refine ⟨Cc', dx, v, fun z => takesX c z, rfl, kc.isC rD nx, kc.no, rfl, hx, ⟨sg', rfl⟩, allz, by rw [sizeLine_eq]; omega, fun p hp => ?_⟩
      have rall : RpAll (Hide A0 H') (itV (fun z => takesX c z) v ws) (ws.map fun w => match w with
          | some z => .bool (takesX c z)
          | none => d) := by
        clear okc ok e pq wl allz
        induction ws with
        | nil => exact .nil
        | cons w ws ih =>
          cases w with
          | none => exact .cons (hv.mono (hide_sub st'.st.sub)) ih
          | some z => exact .cons (.bl _) ih
      exact pq (.ref p) _ (st'.same.trans (same_new hp)) (Res.newT (fun b hb => st'.st.dom b (st'.st.sub b hb)) rall (by unfold itV; rw [List.length_map, sizeLine_eq]; omega) hp)
    · rw [if_neg (by rw [hb]; decide)] at pq
      exact pq A' sg' H' st' tr' Cc' dx v m hx hv
end
end Sm

/-! The compiler of expressions, and that it is sound. -/
namespace Sm
open PySem PySem.Spec L2

/-! ### built-ins by name -/
inductive Bt where
  | len | abs | max | min | int | sum | any | all | list | tuple | repr | sorted
def Bt.nm : Bt → Str
  | .len => "len" | .abs => "abs" | .max => "max" | .min => "min" | .int => "int" | .sum => "sum" | .any => "any" | .all => "all" | .list => "list" | .tuple => "tuple" | .repr => "repr" | .sorted => "sorted"
noncomputable def Bt.sem : Bt → List PyData → Rs PyData
  | .len => dLen | .abs => dAbs | .max => dMax | .min => dMin | .int => dInt | .sum => dSum | .any => dAny | .all => dAll | .list => dList | .tuple => dTuple | .repr => dRepr | .sorted => dSorted
def Bt.id : Bt → String
  | .len => "len" | .abs => "abs" | .max => "max" | .min => "min" | .int => "int" | .sum => "sum" | .any => "any" | .all => "all" | .list => "list" | .tuple => "tuple" | .repr => "repr" | .sorted => "sorted"
def Bt.val : Bt → Value
  | .len => .builtin "len" | .abs => .builtin "abs" | .max => .builtin "max" | .min => .builtin "min" | .int => .type "int" | .sum => .builtin "sum" | .any => .builtin "any" | .all => .builtin "all" | .list => .type "list" | .tuple => .type "tuple" | .repr => .builtin "repr" | .sorted => .builtin "sorted"
def allBt : List Bt := [.len, .abs, .max, .min, .int, .sum, .any, .all, .list, .tuple, .repr, .sorted]
def btOf (x : Str) : Option Bt := allBt.find? fun b => b.nm == x
theorem btOf_nm {x : Str} {b : Bt} (h : btOf x = some b) : x = b.nm := by
  have q := List.find?_some h
  simpa using (beq_iff_eq.mp q).symm
theorem Bt.boot (b : Bt) : bootBuiltins b.nm = some b.val := by cases b <;> decide +kernel
theorem Bt.names (b : Bt) : b.nm ≠ "__name__" ∧ (b.nm == ("__debug__" : Str)) = false := by cases b <;> decide +kernel
theorem Bt.kind (b : Bt) : b.val = .builtin b.id ∨ b.val = .type b.id := by cases b <;> first | exact .inl rfl | exact .inr rfl
theorem Bt.nx (b : Bt) (ds : List PyData) (c : Str) (x : PyData) : b.sem ds ≠ .exc c x := by
  cases b <;> simp only [Bt.sem]
  · unfold dLen; split <;> first | exact okI_nx | (split <;> first | exact okI_nx | simp) | simp
  · unfold dAbs; split <;> first | exact okI_nx | simp
  · unfold dMax; split
    · exact okI_nx
    · split <;> first | exact okI_nx | simp
    · simp
  · unfold dMin; split
    · exact okI_nx
    · split <;> first | exact okI_nx | exact minT_nx _ _ _ | simp
    · simp
  · unfold dInt; split <;> first | exact okI_nx | simp
  · unfold dSum; split
    · split <;> first | exact okI_nx | simp
    · simp
  · unfold dAny; split
    · split <;> first | exact okB_nx | simp
    · simp
  · unfold dAll; split
    · split <;> first | exact okB_nx | simp
    · simp
  · unfold dList; split <;> simp
  · unfold dTuple; split <;> simp
  · unfold dRepr; split
    · split <;> simp
    · simp
  · exact dSorted_nx ds c x
theorem dGcd_nx (ds : List PyData) (c : Str) (x : PyData) : dGcd ds ≠ .exc c x := by unfold dGcd; split <;> simp
theorem Bt.call {X : Cx} (hc : X.calm = true) (hg : X.A.guards = some []) (hu : X.A.units + 65 < cLine) (b : Bt) : CallR X b.val (rCall b.sem true) := by
  cases b
  · exact callV_len
  · exact callV_abs
  · exact callV_max hc
  · exact callV_min hc hu
  · exact callV_int
  · exact callV_sum hc
  · exact callV_any hc
  · exact callV_all hc
  · exact callV_list
  · exact callV_tuple
  · exact callV_repr hg hu
  · exact callV_sorted hc hu
/-- by the count of arguments: sum of two is sum of lists -/
noncomputable def Bt.semN (b : Bt) (n : Nat) : List PyData → Rs PyData :=
  match b with
  | .sum => if n = 2 then dSum2 else dSum
  | b => b.sem
theorem Bt.nxN (b : Bt) (n : Nat) (ds : List PyData) (c : Str) (x : PyData) : b.semN n ds ≠ .exc c x := by
  unfold Bt.semN
  split
  · split
    · exact dSum2_nx ds c x
    · exact Bt.nx .sum ds c x
  · exact Bt.nx _ ds c x
theorem Bt.callN {X : Cx} (hc : X.calm = true) (hg : X.A.guards = some []) (hu : X.A.units + 65 < cLine) (b : Bt) (n : Nat) : CallR X b.val (rCall (b.semN n) true) := by
  unfold Bt.semN
  split
  · split
    · exact callV_sum2 hc
    · exact callV_sum hc
  · exact Bt.call hc hg hu _
/-- the second argument of isinstance: the name list -/
def isLst (x : Str) (as : List Expr) : Option Str := match as with
  | [.Name y _] => if decide (x = ("isinstance" : Str)) && (decide (y = ("list" : Str)) || decide (y = ("int" : Str))) then some y else none
  | _ => none
def isTyD (y : Str) : List PyData → Rs PyData := if y = ("list" : Str) then dIsL else dIsI
theorem isLst_eq {x : Str} {as : List Expr} {y : Str} (h : isLst x as = some y) : ∃ q, as = [.Name y q] ∧ x = "isinstance" ∧ (y = "list" ∨ y = "int") := by
  unfold isLst at h
  split at h
  · split at h
    · rename_i q hq
      cases h
      have hq' : x = "isinstance" ∧ (y = "list" ∨ y = "int") := by simpa using hq
      exact ⟨_, rfl, hq'.1, hq'.2⟩
    · cases h
  · cases h

/-! ### names -/
def ixIn (x : Str) : List Str → Option Nat
  | [] => none
  | y :: ys => if x = y then some 0 else (ixIn x ys).map (· + 1)
theorem ixIn_get {x : Str} : ∀ {l : List Str} {i : Nat}, ixIn x l = some i → l[i]? = some x
  | [], _, h => by cases h
  | y :: ys, i, h => by
    unfold ixIn at h
    split at h
    · rename_i e; cases h; subst e; rfl
    · cases e : ixIn x ys with
      | none => rw [e] at h; cases h
      | some j =>
        rw [e] at h
        cases h
        show ys[j]? = some x
        exact ixIn_get e
def visB (C : Cc) (x : Str) : Bool := match C.sc.names.lookup x with
  | some .local => true
  | some .cell => true
  | some .free => true
  | _ => false
def locB (C : Cc) (x : Str) : Bool := match C.sc.names.lookup x with
  | some .local => true
  | some .cell => C.fnc x
  | _ => false
def glB (C : Cc) (x : Str) : Bool := match C.sc.names.lookup x with
  | some .globalImplicit => true
  | _ => false
def oddB (x : Str) : Bool := decide (x = ("__debug__" : Str)) || decide (x = ("__classdict__" : Str))
theorem odd_of {x : Str} (h : oddB x = false) : (x == ("__debug__" : Str)) = false ∧ (x == ("__classdict__" : Str)) = false := by
  unfold oddB at h
  simp only [Bool.or_eq_false_iff, decide_eq_false_iff_not] at h
  exact ⟨beq_eq_false_iff_ne.mpr h.1, beq_eq_false_iff_ne.mpr h.2⟩
section
variable {X : Cx} {C : Cc} {W : WX} {x : Str}
theorem Good.vis (g : Good X C W) (h : visB C x = true) : Vis X.env.scope x := by
  unfold visB at h
  rw [g.sc]
  split at h
  · exact .inl ‹_›
  · exact .inr (.inl ‹_›)
  · exact .inr (.inr ‹_›)
  · cases h
theorem Good.loc (g : Good X C W) (h : locB C x = true) : Loc X.env.scope x ∧ (X.fn x = true ∨ X.env.scope.names.lookup x = some .local) := by
  unfold locB at h
  rw [g.sc]
  split at h
  · exact ⟨.inl ‹_›, .inr ‹_›⟩
  · exact ⟨.inr ‹_›, .inl (g.fn x h)⟩
  · cases h
theorem Good.gl (g : Good X C W) (h : glB C x = true) : Gl X x := by
  unfold glB at h
  show X.env.scope.names.lookup x = some .globalImplicit
  rw [g.sc]
  split at h
  · assumption
  · cases h
theorem Good.ix (g : Good X C W) {i : Nat} (h : ixIn x C.N = some i) : X.N[i]? = some x := by rw [g.N]; exact ixIn_get h
theorem Good.nodup (g : Good X C W) : X.N.Nodup := by rw [g.N]; exact g.nd
theorem Good.un (g : Good X C W) : X.A.units + 65 < cLine := by have := g.room.un; omega
end

/-! ### the compiler -/
def flatD : PyData → Bool
  | .int _ => true
  | .bool _ => true
  | .none => true
  | .str _ => true
  | _ => false
def isSlice : Expr → Bool
  | .Slice .. => true
  | _ => false
/-- the block of a comprehension -/
def blkCc (C : Cc) (scope : Scope) : Cc := { C with sc := relS scope C.sc, fnc := fun x => scope.names.lookup x == some .cell, tr := false }
def ownOf (N : List Str) (scope : Scope) : List (Str × Nat) := scope.names.filterMap fun y => match y.2 with
  | .local => (ixIn y.1 N).map fun i => (y.1, i)
  | .cell => (ixIn y.1 N).map fun i => (y.1, i)
  | _ => none
def isSetE : Expr → Bool
  | .Set .. => true
  | _ => false
def isTupE : Expr → Bool
  | .Tuple .. => true
  | _ => false
def plainT : Expr → Bool
  | .BoolOp .. => false
  | .IfExp .. => false
  | .UnaryOp .Not _ _ => false
  | .Compare .. => false
  | _ => true
theorem plainT_ok {e : Expr} {env : Env} (h : plainT e = true) : ∀ whole, isTrue e env whole = (do let v ← whole; standAt e.pos; holding [v] (truthy v)) := by
  intro whole
  cases e <;> first | rfl | (cases h; done) | skip
  rename_i op a p
  cases op <;> first | rfl | cases h
/-- what a method is asked of -/
def plainB : Expr → Bool
  | .Name .. => true
  | .Subscript .. => true
  | _ => false
theorem plainB_ok {a : Expr} {m : Str} {env : Env} (h : plainB a = true) : attributeBase a m env (eval a env) = eval a env := by
  cases a <;> first | rfl | cases h
noncomputable section
mutual
def cE : Nat → Cc → Bool → Expr → Option (M × Bool)
  | 0, _, _, _ => none
  | n + 1, C, kp, e => match cFz n C e with
    | some p => some p
    | none => match cDd n C e with
    | some p => some p
    | none => match e with
    | .Name x _ => if oddB x then none else match ixIn x C.N with
      | some i => if visB C x && decide (C.fz ≠ some i) then some (mVar kp i, false) else none
      | none => if glB C x then (match C.gls.lookup x with
        | some d => if flatD d then some (mC d, false) else none
        | none => none) else none
    | .Constant (.int i) _ _ => some (mC (.int i), true)
    | .Constant (.bool b) _ _ => some (mC (.bool b), true)
    | .Constant .none _ _ => some (mC .none, true)
    | .Constant (.str x) _ _ => if x.length ≤ 1000 then some (mC (.str x), true) else none
    | .BinOp a op b _ => do
      let f ← dBin op
      let ma ← cE n C false a
      let mb ← cE n C false b
      some (mBin f ma.1 mb.1, true)
    | .UnaryOp .Not a _ => do
      let ma ← cE n C false a
      some (mNot ma.1, true)
    | .UnaryOp .USub a _ => do
      let ma ← cE n C false a
      some (mUn dNeg ma.1, true)
    | .UnaryOp .Invert a _ => do
      let ma ← cE n C false a
      some (mUn dInv ma.1, true)
    | .BoolOp _ [a] _ => do
      let ma ← cE n C kp a
      some (ma.1, false)
    | .BoolOp .And (a :: b :: rest) p => do
      let ma ← cE n C kp a
      let mb ← cE n C kp (.BoolOp .And (b :: rest) p)
      some (mAnd ma.1 mb.1, false)
    | .BoolOp .Or (a :: b :: rest) p => do
      let ma ← cE n C kp a
      let mb ← cE n C kp (.BoolOp .Or (b :: rest) p)
      some (mOr ma.1 mb.1, false)
    | .Compare a [op] [b] _ => do
      let ma ← cE n C false a
      let mb ← cE n C false b
      if behindInMarks op b then none else some (mBin (dCmp op) ma.1 mb.1, true)
    | .Compare a [op, op'] [b, c] _ => do
      let ma ← cE n C false a
      let mb ← cE n C false b
      let mc ← cE n C false c
      if behindInMarks op' c then none else some (mChain (dCmp op) (dCmp op') ma.1 mb.1 mc.1, true)
    | .Compare a [op, op', op''] [b, c, d] _ => do
      let ma ← cE n C false a
      let mb ← cE n C false b
      let mc ← cE n C false c
      let md ← cE n C false d
      if lastMarks [op, op', op''] [b, c, d] then none else some (mChain3 (dCmp op) (dCmp op') (dCmp op'') ma.1 mb.1 mc.1 md.1, true)
    | .Call (.Name x _) (a :: as) [] _ => if oddB x || !glB C x then none else match C.fns.lookup x with
      | some I => do
        let ms ← cEs n C true (a :: as)
        if ms.length = I.ar then some (mCall I.sem ms, I.fr) else none
      | none => match btOf x with
        | some b => do
          let ms ← cEs n C false (a :: as)
          if x ∈ C.blt then some (mCall (b.semN ms.length) ms, true) else none
        | none => if C.gcd && decide (x = ("gcd" : Str)) then do
            let ms ← cEs n C false (a :: as)
            some (mCall dGcd ms, true)
          else match isLst x as with
            | some y => do
              let ma ← cE n C false a
              if x ∈ C.blt && y ∈ C.blt && glB C y && noStar a then some (mCall (isTyD y) [ma.1], true) else none
            | none => none
    | .IfExp c a b _ => do
      let t ← cT n C c
      let ma ← cE n C kp a
      let mb ← cE n C kp b
      some (mIf t ma.1 mb.1, ma.2 && mb.2)
    | .Tuple es _ _ => do
      let ms ← cEs n C true es
      if ms.length ≤ 1000 then some (mTup ms, true) else none
    | .List es _ => (match cEs n C true es with
      | some ms => if ms.length ≤ 1000 then some (mLst ms, true) else none
      | none => do
        let ms ← cEsS n C es
        some (mLstS ms, true))
    | .Subscript a (.Slice none none (some (.UnaryOp .USub (.Constant (.int 1) _ _) _)) _) _ => do
      let ma ← cE n C false a
      some (mUn dRev ma.1, true)
    | .Subscript a (.Slice lo hi none _) _ => do
      let ma ← cE n C false a
      let ml ← cO n C lo
      let mh ← cO n C hi
      some (mSl ma.1 ml mh, true)
    | .Subscript a b _ => if isSlice b then none else do
      let ma ← cE n C false a
      let mb ← cE n C false b
      some (mBin dIx ma.1 mb.1, false)
    | .ListComp elt [⟨tg, iter, ifs, 0⟩] scope _ => do
      let it ← cI n C false tg iter
      let C' := blkCc C scope
      let own := ownOf C.N scope
      let T ← cG n C' tg
      let t ← cIf n C' ifs
      let me ← cE n C' true elt
      if blkC C.N C.sc scope own && T.2.all (fun i => decide (i ∈ own.map (·.2))) && !isSetE iter then some (mComp it T.1 t me.1 (own.map (·.2)), true) else none
    | _ => none
def cFz : Nat → Cc → Expr → Option (M × Bool)
  | 0, _, _ => none
  | n + 1, C, e => match e with
    | .Call (.Name x _) [.Name y _] [] _ => if !oddB x && !oddB y && glB C x && visB C y then (match C.fz with
      | some i => if ixIn y C.N = some i then (if decide (x = ("len" : Str)) && decide (x ∈ C.blt) then some (mFzLen i, true) else match C.fzf.lookup x with
        | some I => some (mFzCall I.1 i, I.2)
        | none => none) else none
      | none => none) else none
    | .Subscript (.Name y _) b _ => if !oddB y && visB C y && !isSlice b then (match C.fz with
      | some i => if ixIn y C.N = some i then (do
        let mb ← cE n C false b
        some (mFzIx i mb.1, true)) else none
      | none => none) else none
    | .Call (.Name x _) [.Call (.Name y _) [a] [] _] [] _ => if x = ("list" : Str) ∧ y = ("range" : Str) ∧ x ∈ C.blt ∧ y ∈ C.blt ∧ glB C x = true ∧ glB C y = true ∧ noStar a = true then do
        let ma ← cE n C false a
        some (mLr1 ma.1, true)
      else if x = ("len" : Str) ∧ y = ("set" : Str) ∧ x ∈ C.blt ∧ y ∈ C.blt ∧ glB C x = true ∧ glB C y = true ∧ noStar a = true then do
        let ma ← cE n C false a
        some (mLenSet ma.1, true)
      else if x = ("sorted" : Str) ∧ y = ("set" : Str) ∧ x ∈ C.blt ∧ y ∈ C.blt ∧ glB C x = true ∧ glB C y = true ∧ noStar a = true then do
        let ma ← cE n C false a
        some (mSortSet ma.1, true)
      else none
    | .Call (.Name x _) [.SetComp elt [⟨tg, iter, ifs, 0⟩] scope _] [] _ => if x = ("sorted" : Str) ∧ x ∈ C.blt ∧ glB C x = true then do
        let it ← cI n C false tg iter
        let C' := blkCc C scope
        let own := ownOf C.N scope
        let T ← cG n C' tg
        let t ← cIf n C' ifs
        let me ← cE n C' true elt
        if blkC C.N C.sc scope own && T.2.all (fun i => decide (i ∈ own.map (·.2))) && !isSetE iter then some (mSortSet (mComp it T.1 t me.1 (own.map (·.2))), true) else none
      else none
    | .Call (.Attribute a m apos) [e] [] cpos => if plainB a = true ∧ noStar e = true ∧ (apos.endLine == cpos.line) = true ∧ (m = ("index" : Str) ∨ m = ("count" : Str)) then do
        let ma ← cE n C false a
        let me ← cE n C false e
        some (mLm (if m = ("index" : Str) then dIndex else dCount) ma.1 me.1, true)
      else none
    | .Call (.Name x _) [.Call (.Name y _) [a, b] [] _] [] _ => if x = ("list" : Str) ∧ y = ("range" : Str) ∧ x ∈ C.blt ∧ y ∈ C.blt ∧ glB C x = true ∧ glB C y = true ∧ noStar a = true ∧ noStar b = true then do
        let ma ← cE n C false a
        let mb ← cE n C false b
        some (mLr2 ma.1 mb.1, true)
      else none
    | _ => none
def cDd : Nat → Cc → Expr → Option (M × Bool)
  | 0, _, _ => none
  | n + 1, C, e => match e with
    | .Dict [] [] _ => some (mC (.dict []), true)
    | .Dict ks vs _ => do
      let kms ← cPrs n C ks vs
      if kms ≠ [] ∧ kms.length ≤ 15 then some (mDict kms, true) else none
    | .Call (.Attribute a m apos) [e, f] [] cpos => if plainB a = true ∧ noStar e = true ∧ noStar f = true ∧ (apos.endLine == cpos.line) = true ∧ m = ("get" : Str) then do
        let ma ← cE n C false a
        let me ← cE n C false e
        let mf ← cE n C true f
        some (mGet2 ma.1 me.1 mf.1, false)
      else none
    | .Call (.Attribute a m apos) [] [] cpos => if plainB a = true ∧ (apos.endLine == cpos.line) = true ∧ m = ("bit_length" : Str) then do
        let ma ← cE n C false a
        some (mBits ma.1, true)
      else none
    | .ListComp elt [⟨.Tuple elts kk tpos, .Call (.Attribute (.Name d _) m apos) [] [] cpos, ifs, 0⟩] scope _ => if oddB d = false ∧ visB C d = true ∧ (apos.endLine == cpos.line) = true ∧ m = ("items" : Str) then (match ixIn d C.N with
      | some i => do
        let C' := blkCc C scope
        let own := ownOf C.N scope
        let T ← cG n C' (.Tuple elts kk tpos)
        let t ← cIf n C' ifs
        let me ← cE n C' true elt
        if blkC C.N C.sc scope own && T.2.all (fun i => decide (i ∈ own.map (·.2))) then some (mCompI i T.1 t me.1 (own.map (·.2)), true) else none
      | none => none) else none
    | .ListComp elt [⟨tg, iter, ifs, 0⟩, ⟨tg1, iter1, ifs1, 0⟩] scope _ => do
      let it ← cI n C false tg iter
      let C' := blkCc C scope
      let own := ownOf C.N scope
      let T ← cG n C' tg
      let t ← cIf n C' ifs
      let it1 ← cI n C' true tg1 iter1
      let T1 ← cG n C' tg1
      let t1 ← cIf n C' ifs1
      let me ← cE n C' true elt
      if blkC C.N C.sc scope own && T.2.all (fun i => decide (i ∈ own.map (·.2))) && T1.2.all (fun i => decide (i ∈ own.map (·.2))) && !isSetE iter && !isSetE iter1 then some (mComp2 it T.1 t it1 T1.1 t1 me.1 (own.map (·.2)) T1.2, true) else none
    | .Call (.Name x _) [.Call (.Attribute a m apos) [] [] cpos] [] _ => if x = ("sorted" : Str) ∧ x ∈ C.blt ∧ glB C x = true ∧ plainB a = true ∧ (apos.endLine == cpos.line) = true ∧ m = ("items" : Str) then do
        let ma ← cE n C false a
        some (mSortItems ma.1, true)
      else none
    | .Call (.Name x _) [.SetComp elt [⟨tg, iter, ifs, 0⟩, ⟨tg1, iter1, ifs1, 0⟩] scope _] [] _ => if x = ("sorted" : Str) ∧ x ∈ C.blt ∧ glB C x = true then do
        let it ← cI n C false tg iter
        let C' := blkCc C scope
        let own := ownOf C.N scope
        let T ← cG n C' tg
        let t ← cIf n C' ifs
        let it1 ← cI n C' true tg1 iter1
        let T1 ← cG n C' tg1
        let t1 ← cIf n C' ifs1
        let me ← cE n C' true elt
        if blkC C.N C.sc scope own && T.2.all (fun i => decide (i ∈ own.map (·.2))) && T1.2.all (fun i => decide (i ∈ own.map (·.2))) && !isSetE iter && !isSetE iter1 then some (mSortSet (mComp2 it T.1 t it1 T1.1 t1 me.1 (own.map (·.2)) T1.2), true) else none
      else none
    | _ => none
def cPrs : Nat → Cc → List (Option Expr) → List Expr → Option (List (M × M))
  | 0, _, _, _ => none
  | n + 1, C, ks, vs => match ks, vs with
    | [], [] => some []
    | some k :: ks, v :: vs => do
      let a ← cE n C true k
      let b ← cE n C true v
      let r ← cPrs n C ks vs
      some ((a.1, b.1) :: r)
    | _, _ => none
def cO : Nat → Cc → Option Expr → Option (Option M)
  | 0, _, _ => none
  | _ + 1, _, none => some none
  | n + 1, C, some e => do
    let m ← cE n C false e
    some (some m.1)
def cEs : Nat → Cc → Bool → List Expr → Option (List M)
  | 0, _, _, _ => none
  | _ + 1, _, _, [] => some []
  | n + 1, C, kp, e :: es => do
    let m ← cE n C kp e
    let ms ← cEs n C kp es
    if noStar e then some (m.1 :: ms) else none
def cEsS : Nat → Cc → List Expr → Option (List (Bool × M))
  | 0, _, _ => none
  | _ + 1, _, [] => some []
  | n + 1, C, e :: es => match e with
    | .Starred a _ => do
      let m ← cE n C false a
      let ms ← cEsS n C es
      some ((true, m.1) :: ms)
    | e => if noStar e then do
        let m ← cE n C true e
        let ms ← cEsS n C es
        some ((false, m.1) :: ms)
      else none
def cT : Nat → Cc → Expr → Option Ts
  | 0, _, _ => none
  | n + 1, C, e => match e with
    | .BoolOp _ [a] _ => cT n C a
    | .BoolOp .And (a :: b :: rest) p => do
      let t ← cT n C a
      let u ← cT n C (.BoolOp .And (b :: rest) p)
      some (tAnd t u)
    | .BoolOp .Or (a :: b :: rest) p => do
      let t ← cT n C a
      let u ← cT n C (.BoolOp .Or (b :: rest) p)
      some (tOr t u)
    | .BoolOp _ [] _ => none
    | .IfExp .. => none
    | .UnaryOp .Not a _ => do
      let t ← cT n C a
      some (tNot t)
    | .Compare a [op] [b] _ => do
      let ma ← cE n C false a
      let mb ← cE n C false b
      if behindInMarks op b then none else some (tBl (mBin (dCmp op) ma.1 mb.1))
    | .Compare a [op, op'] [b, c] _ => do
      let ma ← cE n C false a
      let mb ← cE n C false b
      let mc ← cE n C false c
      if behindInMarks op' c then none else some (tBl (mChain (dCmp op) (dCmp op') ma.1 mb.1 mc.1))
    | .Compare a [op, op', op''] [b, c, d] _ => do
      let ma ← cE n C false a
      let mb ← cE n C false b
      let mc ← cE n C false c
      let md ← cE n C false d
      if lastMarks [op, op', op''] [b, c, d] then none else some (tBl (mChain3 (dCmp op) (dCmp op') (dCmp op'') ma.1 mb.1 mc.1 md.1))
    | _ => if plainT e then do
        let m ← cE n C false e
        some (tVal m.1)
      else none
def cIf : Nat → Cc → List Expr → Option Ts
  | 0, _, _ => none
  | n + 1, C, l => match l with
    | [] => some fun _ => .ok true
    | [c] => cT n C c
    | _ => none
def cG : Nat → Cc → Expr → Option (Tg × List Nat)
  | 0, _, _ => none
  | n + 1, C, e => match e with
    | .Name x _ => match ixIn x C.N with
      | some i => if locB C x then some (tNm i, [i]) else none
      | none => none
    | .Tuple es _ _ => do
      let p ← cGs n C es
      if es.length = p.1.length then some (tTp p.1, p.2) else none
    | _ => none
def cGs : Nat → Cc → List Expr → Option (List Tg × List Nat)
  | 0, _, _ => none
  | _ + 1, _, [] => some ([], [])
  | n + 1, C, e :: es => do
    let T ← cG n C e
    let Ts ← cGs n C es
    if noStar e then some (T.1 :: Ts.1, T.2 ++ Ts.2) else none
def cI : Nat → Cc → Bool → Expr → Expr → Option Its
  | 0, _, _, _, _ => none
  | n + 1, C, kp, tg, e => match e with
    | .Call (.Name x p) [a] [] q =>
      if glB C x && decide (x ∈ C.blt) && decide (x = ("range" : Str)) then do
        let ms ← cEs n C false [a]
        some (iCall iR1 ms)
      else if glB C x && decide (x ∈ C.blt) && decide (x = ("enumerate" : Str)) && isTupE tg then do
        let ms ← cEs n C kp [a]
        some (iCall iEnumD ms)
      else do
        let m ← cE n C kp (.Call (.Name x p) [a] [] q)
        some (iSeq m.1)
    | .Call (.Name x p) [a, b, c] [] q =>
      if glB C x && decide (x ∈ C.blt) && decide (x = ("range" : Str)) then do
        let ms ← cEs n C false [a, b, c]
        some (iCall iR3 ms)
      else do
        let m ← cE n C kp (.Call (.Name x p) [a, b, c] [] q)
        some (iSeq m.1)
    | .Call (.Name x p) [a, b] [] q =>
      if glB C x && decide (x ∈ C.blt) && decide (x = ("range" : Str)) then do
        let ms ← cEs n C false [a, b]
        some (iCall iR2 ms)
      else if glB C x && decide (x ∈ C.blt) && decide (x = ("zip" : Str)) && isTupE tg then do
        let ms ← cEs n C kp [a, b]
        some (iCall iZipD ms)
      else do
        let m ← cE n C kp (.Call (.Name x p) [a, b] [] q)
        some (iSeq m.1)
    | _ => do
      let m ← cE n C kp e
      some (iSeq m.1)
end
end

section
variable {X : Cx} {W : WX} {a b c : Expr} {pos : Pos} {ma mb mc : M} {kp : Bool}
theorem chain_in {f g : PyData → PyData → Rs PyData} {sg : St} {H : Hp} {Z : VK} (nf : ∀ d e c x, f d e ≠ .exc c x) (ng : ∀ d e c x, g d e ≠ .exc c x) (h : tvM (gm X) W (mChain f g ma mb mc) kp true sg H Z) :
    tChain (rBin f) (rBin g) (tvM (gm X) W ma false false) (tvM (gm X) W mb false false) (tvM (gm X) W mc false false) sg H Z := by
  obtain ⟨A0, A, ρ, hs, ho⟩ := h
  refine ⟨A0, A, ρ, hs, ho.bind.mono fun d h1 v H1 s1 r1 => ?_⟩
  refine ⟨A0, A, ρ, hs.mono s1, (h1.later s1).bind.mono fun e h2 w H2 s2 r2 => ?_⟩
  have hs2 := (hs.mono s1).mono s2
  have h3 := (Oc.later s2 h2).bind
  cases z : f d e with
  | exc c x => exact absurd z (nf d e c x)
  | no => rw [z] at h3; exact h3.elim
  | ok z' =>
    rw [z] at h3
    refine ⟨A, d, e, z', hs2.dom, r1.1.mono s2, r2.1, z, fun u H3 s3 r3 => ?_⟩
    cases z' with
    | bool k =>
      refine ⟨k, r3.1.bool, ?_⟩
      cases k with
      | false =>
        have h4 : ∀ v H', Same H H' → Res A kp true H H' v (.bool false) → Z v H' := h3
        exact h4 _ H3 (s1.trans (s2.trans s3)) (Res.weak (res_bool _))
      | true =>
        have h4 : Oc (gm X) A H2 (fun c d H' => W c d sg H') (fun d => ∀ v H', Same H H' → Res A kp true H H' v d → Z v H') (mc ρ >>= fun w => g e w) := h3
        refine ⟨A0, A, ρ, hs2.mono s3, (h4.later s3).bind.mono fun e2 h5 w2 H4 s4 r4 => ?_⟩
        cases z2 : g e e2 with
        | exc c x => exact absurd z2 (ng e e2 c x)
        | no => rw [z2] at h5; exact h5.elim
        | ok z3 =>
          rw [z2] at h5
          exact ⟨A, e, e2, z3, ((hs2.mono s3).mono s4).dom, (r2.1.mono s3).mono s4, r4.1, z2, fun u2 H5 s5 r5 => h5 u2 H5 (s1.trans (s2.trans (s3.trans (s4.trans s5)))) ⟨.inl r5.1.kept, fun _ => freshUp (s1.trans (s2.trans (s3.trans s4))) (r5.2 rfl)⟩⟩
    | _ => exact h3.elim
theorem chain3_in {md : M} {f g k : PyData → PyData → Rs PyData} {sg : St} {H : Hp} {Z : VK} (nf : ∀ d e c x, f d e ≠ .exc c x) (ng : ∀ d e c x, g d e ≠ .exc c x) (nk : ∀ d e c x, k d e ≠ .exc c x) (h : tvM (gm X) W (mChain3 f g k ma mb mc md) kp true sg H Z) :
    tChain3 (rBin f) (rBin g) (rBin k) (tvM (gm X) W ma false false) (tvM (gm X) W mb false false) (tvM (gm X) W mc false false) (tvM (gm X) W md false false) sg H Z := by
  obtain ⟨A0, A, ρ, hs, ho⟩ := h
  refine ⟨A0, A, ρ, hs, ho.bind.mono fun d h1 v H1 s1 r1 => ?_⟩
  refine ⟨A0, A, ρ, hs.mono s1, (h1.later s1).bind.mono fun e h2 w H2 s2 r2 => ?_⟩
  have hs2 := (hs.mono s1).mono s2
  have h3 := (Oc.later s2 h2).bind
  cases z : f d e with
  | exc c x => exact absurd z (nf d e c x)
  | no => rw [z] at h3; exact h3.elim
  | ok z' =>
    rw [z] at h3
    refine ⟨A, d, e, z', hs2.dom, r1.1.mono s2, r2.1, z, fun u H3 s3 r3 => ?_⟩
    cases z' with
    | bool q =>
      refine ⟨q, r3.1.bool, ?_⟩
      cases q with
      | false =>
        have h4 : ∀ v H', Same H H' → Res A kp true H H' v (.bool false) → Z v H' := h3
        exact h4 _ H3 (s1.trans (s2.trans s3)) (Res.weak (res_bool _))
      | true =>
        have h4 : Oc (gm X) A H2 (fun c d H' => W c d sg H') (fun d => ∀ v H', Same H H' → Res A kp true H H' v d → Z v H') (mc ρ >>= fun w => g e w >>= fun z2 => match z2 with
          | .bool true => (md ρ >>= fun u => k w u)
          | .bool false => okB false
          | _ => .no) := h3
        refine ⟨A0, A, ρ, hs2.mono s3, (h4.later s3).bind.mono fun e2 h5 w2 H4 s4 r4 => ?_⟩
        have h6 := (Oc.later s4 h5).bind
        have hs4 := (hs2.mono s3).mono s4
        cases z2 : g e e2 with
        | exc c x => exact absurd z2 (ng e e2 c x)
        | no => rw [z2] at h6; exact h6.elim
        | ok z3 =>
          rw [z2] at h6
          refine ⟨A, e, e2, z3, hs4.dom, (r2.1.mono s3).mono s4, r4.1, z2, fun u2 H5 s5 r5 => ?_⟩
          cases z3 with
          | bool q2 =>
            refine ⟨q2, r5.1.bool, ?_⟩
            cases q2 with
            | false =>
              have h7 : ∀ v H', Same H H' → Res A kp true H H' v (.bool false) → Z v H' := h6
              exact h7 _ H5 (s1.trans (s2.trans (s3.trans (s4.trans s5)))) (Res.weak (res_bool _))
            | true =>
              have h7 : Oc (gm X) A H4 (fun c d H' => W c d sg H') (fun d => ∀ v H', Same H H' → Res A kp true H H' v d → Z v H') (md ρ >>= fun u => k e2 u) := h6
              refine ⟨A0, A, ρ, hs4.mono s5, (h7.later s5).bind.mono fun e3 h8 w3 H6 s6 r6 => ?_⟩
              cases z4 : k e2 e3 with
              | exc c x => exact absurd z4 (nk e2 e3 c x)
              | no => rw [z4] at h8; exact h8.elim
              | ok z5 =>
                rw [z4] at h8
                exact ⟨A, e2, e3, z5, ((hs4.mono s5).mono s6).dom, (r4.1.mono s5).mono s6, r6.1, z4, fun u3 H7 s7 r7 => h8 u3 H7 (s1.trans (s2.trans (s3.trans (s4.trans (s5.trans (s6.trans s7)))))) ⟨.inl r7.1.kept, fun _ => freshUp (s1.trans (s2.trans (s3.trans (s4.trans (s5.trans s6))))) (r7.2 rfl)⟩⟩
          | _ => exact h6.elim
    | _ => exact h3.elim
theorem sound_chain3 {d : Expr} {md : M} {op op' op'' : CmpOp} (hu : X.A.units + 65 < cLine) (hm : lastMarks [op, op', op''] [b, c, d] = false) (ha : PE X a (tvM (gm X) W ma false false)) (hb : PE X b (tvM (gm X) W mb false false)) (hc : PE X c (tvM (gm X) W mc false false)) (hd : PE X d (tvM (gm X) W md false false)) :
    PE X (.Compare a [op, op', op''] [b, c, d] pos) (tvM (gm X) W (mChain3 (dCmp op) (dCmp op') (dCmp op'') ma mb mc md) kp true) :=
  peBy (pe_chain3 (opV_cmp hu op) (opV_cmp hu op') (opV_cmp hu op'') ha hb hc hd hm) fun sg H Z h => chain3_in (fun _ _ _ _ => cmp_nx) (fun _ _ _ _ => cmp_nx) (fun _ _ _ _ => cmp_nx) h
theorem sound_tchain3 {d : Expr} {md : M} {op op' op'' : CmpOp} (hu : X.A.units + 65 < cLine) (hm : lastMarks [op, op', op''] [b, c, d] = false) (ha : PE X a (tvM (gm X) W ma false false)) (hb : PE X b (tvM (gm X) W mb false false)) (hc : PE X c (tvM (gm X) W mc false false)) (hd : PE X d (tvM (gm X) W md false false)) :
    PT X (.Compare a [op, op', op''] [b, c, d] pos) (tvT (gm X) W (tBl (mChain3 (dCmp op) (dCmp op') (dCmp op'') ma mb mc md))) := by
  refine ptBy (pt_chain3 (opV_cmp hu op) (opV_cmp hu op') (opV_cmp hu op'') ha hb hc hd hm) fun sg H Z h => ?_
  refine chain3_in (kp := true) (W := W) (fun _ _ _ _ => cmp_nx) (fun _ _ _ _ => cmp_nx) (fun _ _ _ _ => cmp_nx) ?_
  obtain ⟨A0, A, ρ, hs, ho⟩ := h
  refine ⟨A0, A, ρ, hs, ho.bind.mono fun d h1 v H1 s1 r1 => ?_⟩
  cases d with
  | bool k => exact ⟨k, r1.1.bool, h1 H1 s1⟩
  | _ => exact h1.elim
theorem sound_chain {op op' : CmpOp} (hu : X.A.units + 65 < cLine) (hm : behindInMarks op' c = false) (ha : PE X a (tvM (gm X) W ma false false)) (hb : PE X b (tvM (gm X) W mb false false)) (hc : PE X c (tvM (gm X) W mc false false)) :
    PE X (.Compare a [op, op'] [b, c] pos) (tvM (gm X) W (mChain (dCmp op) (dCmp op') ma mb mc) kp true) :=
  peBy (pe_chain (opV_cmp hu op) (opV_cmp hu op') ha hb hc hm) fun sg H Z h => chain_in (fun _ _ _ _ => cmp_nx) (fun _ _ _ _ => cmp_nx) h
theorem sound_tchain {op op' : CmpOp} (hu : X.A.units + 65 < cLine) (hm : behindInMarks op' c = false) (ha : PE X a (tvM (gm X) W ma false false)) (hb : PE X b (tvM (gm X) W mb false false)) (hc : PE X c (tvM (gm X) W mc false false)) :
    PT X (.Compare a [op, op'] [b, c] pos) (tvT (gm X) W (tBl (mChain (dCmp op) (dCmp op') ma mb mc))) := by
  refine ptBy (pt_chain (opV_cmp hu op) (opV_cmp hu op') ha hb hc hm) fun sg H Z h => ?_
  refine chain_in (kp := true) (W := W) (fun _ _ _ _ => cmp_nx) (fun _ _ _ _ => cmp_nx) ?_
  obtain ⟨A0, A, ρ, hs, ho⟩ := h
  refine ⟨A0, A, ρ, hs, ho.bind.mono fun d h1 v H1 s1 r1 => ?_⟩
  cases d with
  | bool k => exact ⟨k, r1.1.bool, h1 H1 s1⟩
  | _ => exact h1.elim
end
def isBO : Expr → Bool
  | .BoolOp .. => true
  | _ => false
theorem fr_off {X : Cx} {W : WX} {e : Expr} {m : M} {kp fr : Bool} (h : PE X e (tvM (gm X) W m kp fr)) : PE X e (tvM (gm X) W m kp false) := peBy h fun sg H Z ⟨A0, A, ρ, hs, ho⟩ => ⟨A0, A, ρ, hs, ho.mono fun d q v H1 s1 r1 => q v H1 s1 ⟨r1.1, fun z => nomatch z⟩⟩
theorem kp_off {X : Cx} {W : WX} {e : Expr} {m : M} {fr : Bool} (h : PE X e (tvM (gm X) W m true fr)) : PE X e (tvM (gm X) W m false fr) := peBy h fun sg H Z ⟨A0, A, ρ, hs, ho⟩ => ⟨A0, A, ρ, hs, ho.mono fun d q v H1 s1 r1 => q v H1 s1 ⟨r1.1.weak, r1.2⟩⟩
/-- what is claimed at a fuel -/
structure SoundE (n : Nat) : Prop where
  z : ∀ {C X W kp e p}, Good X C W → cFz n C e = some p → PE X e (tvM (gm X) W p.1 kp p.2)
  e : ∀ {C X W kp e p}, Good X C W → cE n C kp e = some p → PE X e (tvM (gm X) W p.1 kp p.2)
  o : ∀ {C X W e m}, Good X C W → cO n C e = some m → match e, m with | none, none => True | some e, some m => PE X e (tvM (gm X) W m false false) | _, _ => False
  es : ∀ {C X W kp es ms}, Good X C W → cEs n C kp es = some ms → PA X es (tvA (gm X) W ms kp) ∧ es.all noStar = true
  t : ∀ {C X W e t}, Good X C W → cT n C e = some t → PT X e (tvT (gm X) W t) ∧ (isBO e = true → PW X e (tvT (gm X) W t))
  ifs : ∀ {C X W e t}, Good X C W → cIf n C e = some t → PTs X e (tvT (gm X) W t)
  g : ∀ {C X W e T}, Good X C W → cG n C e = some T → PG X e (tvG X.K T.1 T.2)
  gs : ∀ {C X W e T}, Good X C W → cGs n C e = some T → PGs X e (tvGs X.K T.1 T.2) ∧ e.all noStar = true
  i : ∀ {C X W kp tg e t}, Good X C W → cI n C kp tg e = some t → PI X tg e (tvI (gm X) W kp t)
  ess : ∀ {C X W es ms}, Good X C W → cEsS n C es = some ms → PA X es (tvAS (gm X) W ms)
  d : ∀ {C X W kp e p}, Good X C W → cDd n C e = some p → PE X e (tvM (gm X) W p.1 kp p.2)
  prs : ∀ {C X W ks vs kms}, Good X C W → cPrs n C ks vs = some kms → PrOk X W ks vs kms
theorem flat_of {d : PyData} (h : flatD d = true) : (∀ ds, d ≠ .list ds) ∧ ∀ ds, d ≠ .dict ds := by
  cases d <;> simp [flatD] at h ⊢
/-- the block of a comprehension has its facts -/
theorem Good.blk {X : Cx} {C : Cc} {W : WX} (g : Good X C W) (s : Shared) (H : Hp) (scope : Scope) (Cd : Addr) (cl : List (Str × Addr)) (fp : List Addr) : Good (X.blk s H scope (compEnvC scope cl Cd X.env) fp) (blkCc C scope) noW := by
  refine ⟨?_, g.N, g.nd, g.calm, g.room, g.gd, fun x h => h, fun u s' ⟨_, _, _, _, _, _, _, _, _, _, _, _, _, _, _, _, z⟩ => z, PassesOwn.never, g.fns, g.blt, g.fzf, g.gls, g.exs, fun z => (nomatch z), g.gcd⟩
  show relS scope X.env.scope = relS scope C.sc
  rw [g.sc]
theorem bindO {α β : Type} {o : Option α} {f : α → Option β} {b : β} (h : (o >>= f) = some b) : ∃ a, o = some a ∧ f a = some b := by
  cases o with
  | none => cases h
  | some a => exact ⟨a, rfl, h⟩
theorem plain_ix {b : Expr} (h : isSlice b = false) : PlainIx b := by
  intro o i
  cases b <;> first | rfl | cases h
theorem notSet {e : Expr} {env : Env} (h : isSetE e = false) : ∀ x, foldedSetIterable e env x = pure x := by
  intro x
  cases e <;> first | rfl | cases h
theorem tgOk_cGs : ∀ n, (∀ {C e T}, cG n C e = some T → TgOk T.1) ∧ ∀ {C es T}, cGs n C es = some T → ∀ t ∈ T.1, TgOk t
  | 0 => ⟨fun {C e T} h => by simp [cG] at h, fun {C es T} h => by simp [cGs] at h⟩
  | n + 1 => by
    have ih := tgOk_cGs n
    refine ⟨fun {C e T} h => ?_, fun {C es T} h => ?_⟩
    · unfold cG at h
      split at h
      · split at h
        · split at h
          · cases h
            exact tgOk_nm _
          · cases h
        · cases h
      · obtain ⟨p, h1, h⟩ := bindO h
        split at h
        · cases h
          exact tgOk_tp (ih.2 h1)
        · cases h
      · cases h
    · cases es with
      | nil =>
        simp only [cGs, Option.some.injEq] at h
        subst h
        intro t m
        cases m
      | cons e es =>
        unfold cGs at h
        obtain ⟨T1, h1, h⟩ := bindO h
        obtain ⟨Ts, h2, h⟩ := bindO h
        split at h
        · cases h
          intro t m
          rcases List.mem_cons.mp m with rfl | m
          · exact ih.1 h1
          · exact ih.2 h2 t m
        · cases h
theorem tgOk_cG (n : Nat) {C : Cc} {e : Expr} {T : Tg × List Nat} (h : cG n C e = some T) : TgOk T.1 := (tgOk_cGs n).1 h
theorem soundE : ∀ n, SoundE n
  | 0 => by constructor <;> intros <;> simp_all [cE, cFz, cDd, cPrs, cO, cEs, cEsS, cT, cIf, cG, cGs, cI]
  | n + 1 => by
    have ih := soundE n
    refine ⟨?_, ?_, ?_, ?_, ?_, ?_, ?_, ?_, ?_, ?_, ?_, ?_⟩
    · intro C X W kp e p g h
      unfold cFz at h
      split at h
      · rename_i x _ y _ _
        split at h
        · rename_i hx
          simp only [Bool.and_eq_true, Bool.not_eq_true'] at hx
          obtain ⟨⟨⟨x1, x2⟩, x3⟩, x4⟩ := hx
          have o1 := odd_of x1
          have o2 := odd_of x2
          split at h
          · rename_i i _
            split at h
            · rename_i hi
              split at h
              · rename_i hl
                simp only [Bool.and_eq_true, decide_eq_true_eq] at hl
                cases h
                have e1 := hl.1
                subst e1
                exact sound_fzLen (g.ix hi) (g.vis x4) o2.1 o2.2 (g.gl x3) (g.blt _ hl.2)
              · split at h
                · rename_i I hI
                  cases h
                  obtain ⟨f, fd, ps, k, F, hk, hm, hkeep, hb⟩ := g.fzf x I hI
                  exact sound_fzCall (g.ix hi) (g.vis x4) o2.1 o2.2 F (g.room.mono hk) g.gd (g.gl x3) hm hkeep hb g.tk o1.1
                · cases h
            · cases h
          · cases h
        · cases h
      · rename_i y _ b _
        split at h
        · rename_i hx
          simp only [Bool.and_eq_true, Bool.not_eq_true'] at hx
          obtain ⟨⟨x1, x2⟩, x3⟩ := hx
          have o1 := odd_of x1
          split at h
          · rename_i i _
            split at h
            · rename_i hi
              obtain ⟨mb, h1, h⟩ := bindO h
              cases h
              exact sound_fzIx (plain_ix x3) (g.ix hi) (g.vis x2) o1.1 o1.2 (fr_off (ih.e g h1))
            · cases h
          · cases h
        · cases h
      · split at h
        · rename_i q
          obtain ⟨rfl, rfl, q1, q2, q3, q4, q5⟩ := q
          obtain ⟨ma, h1, h⟩ := bindO h
          cases h
          exact sound_lr1 g.calm q5 (g.gl q3) (g.blt _ q1) (g.gl q4) (g.blt _ q2) (ih.e g h1)
        · split at h
          · rename_i q
            obtain ⟨rfl, rfl, q1, q2, q3, q4, q5⟩ := q
            obtain ⟨ma, h1, h⟩ := bindO h
            cases h
            exact sound_lenSet g.calm q5 (g.gl q3) (g.blt _ q1) (g.gl q4) (g.blt _ q2) (ih.e g h1)
          · split at h
            · rename_i q
              obtain ⟨rfl, rfl, q1, q2, q3, q4, q5⟩ := q
              obtain ⟨ma, h1, h⟩ := bindO h
              cases h
              exact sound_sortSet g.calm q5 (g.gl q3) (g.blt _ q1) (g.gl q4) (g.blt _ q2) (ih.e g h1)
            · cases h
      · split at h
        · rename_i q
          obtain ⟨rfl, q1, q2⟩ := q
          obtain ⟨it, h1, h⟩ := bindO h
          obtain ⟨T, h2, h⟩ := bindO h
          obtain ⟨t, h3, h⟩ := bindO h
          obtain ⟨me, h4, h⟩ := bindO h
          split at h
          · rename_i hok
            cases h
            simp only [Bool.and_eq_true, List.all_eq_true, decide_eq_true_eq, Bool.not_eq_true'] at hok
            have ok := blkOk_by hok.1.1
            rw [← g.sc] at ok
            have okN := g.N
            exact sound_sortSC (fr := me.2) g.calm (g.gl q2) (g.blt _ q1) g.nodup (by rw [okN]; exact ok) hok.1.2 (ih.i g h1) (fun s H Cd cl fp => ih.g (g.blk s H _ Cd cl fp) h2) (fun s H Cd cl fp => ih.ifs (g.blk s H _ Cd cl fp) h3) (fun s H Cd cl fp => ih.e (g.blk s H _ Cd cl fp) h4) (notSet hok.2)
          · cases h
        · cases h
      · split at h
        · rename_i q
          obtain ⟨q1, q2, q3, q4⟩ := q
          obtain ⟨ma, h1, h⟩ := bindO h
          obtain ⟨me, h2, h⟩ := bindO h
          cases h
          rcases q4 with rfl | rfl
          · exact sound_index g.un (plainB_ok q1) q2 q3 (ih.e g h1) (ih.e g h2)
          · exact sound_count (plainB_ok q1) q2 q3 (ih.e g h1) (ih.e g h2)
        · cases h
      · split at h
        · rename_i q
          obtain ⟨rfl, rfl, q1, q2, q3, q4, q5, q6⟩ := q
          obtain ⟨ma, h1, h⟩ := bindO h
          obtain ⟨mb, h2, h⟩ := bindO h
          cases h
          exact sound_lr2 g.calm q5 q6 (g.gl q3) (g.blt _ q1) (g.gl q4) (g.blt _ q2) (ih.e g h1) (ih.e g h2)
        · cases h
      · cases h
    · intro C X W kp e p g h
      unfold cE at h
      split at h
      · rename_i p' hz
        cases h
        exact ih.z g hz
      split at h
      · rename_i p' hz
        cases h
        exact ih.d g hz
      rename_i hzd
      clear hzd
      split at h
      · -- a name
        split at h
        · cases h
        rename_i x _ _ hodd
        have od := odd_of (by simpa using hodd)
        split at h
        · rename_i i hi
          split at h
          · rename_i hv
            cases h
            have hv' := Bool.and_eq_true_iff.mp hv
            exact sound_var (g.ix hi) (g.vis hv'.1) od.1 od.2
          · cases h
        · split at h
          · rename_i hgl
            split at h
            · rename_i d hd
              split at h
              · rename_i hf
                cases h
                obtain ⟨u, v, h1, h2, h3⟩ := g.gls _ d hd
                have nn := flat_of hf
                exact sound_c (pe_glob (g.gl hgl) h1 h2 od.1) h3 nn.1 nn.2
              · cases h
            · cases h
          · cases h
      · cases h
        exact sound_c pe_int (fun _ => .int _) (fun _ z => nomatch z) (fun _ z => nomatch z)
      · cases h
        exact sound_c pe_bl (fun _ => .bl _) (fun _ z => nomatch z) (fun _ z => nomatch z)
      · cases h
        exact sound_c pe_non (fun _ => .non) (fun _ z => nomatch z) (fun _ z => nomatch z)
      · split at h
        · rename_i hl
          cases h
          exact sound_c pe_str (fun _ => .str _ (Nat.le_trans hl (by decide))) (fun _ z => nomatch z) (fun _ z => nomatch z)
        · cases h
      · obtain ⟨f, hf, h⟩ := bindO h
        obtain ⟨ma, h1, h⟩ := bindO h
        obtain ⟨mb, h2, h⟩ := bindO h
        cases h
        exact sound_bin (opV_bin hf) (fun _ _ _ _ => bin_nx hf) (fr_off (ih.e g h1)) (fr_off (ih.e g h2))
      · obtain ⟨ma, h1, h⟩ := bindO h
        cases h
        exact sound_not (fr_off (ih.e g h1))
      · obtain ⟨ma, h1, h⟩ := bindO h
        cases h
        exact sound_un unV_neg (fun d c x => by unfold dNeg; split <;> first | exact okI_nx | simp) (fr_off (ih.e g h1))
      · obtain ⟨ma, h1, h⟩ := bindO h
        cases h
        exact sound_un unV_inv (fun d c x => by unfold dInv; split <;> first | exact okI_nx | simp) (fr_off (ih.e g h1))
      · obtain ⟨ma, h1, h⟩ := bindO h
        cases h
        have q := ih.e g h1
        exact pe_one (fr_off q)
      · obtain ⟨ma, h1, h⟩ := bindO h
        obtain ⟨mb, h2, h⟩ := bindO h
        cases h
        exact sound_and (fr_off (ih.e g h1)) (fr_off (ih.e g h2))
      · obtain ⟨ma, h1, h⟩ := bindO h
        obtain ⟨mb, h2, h⟩ := bindO h
        cases h
        exact sound_or (fr_off (ih.e g h1)) (fr_off (ih.e g h2))
      · obtain ⟨ma, h1, h⟩ := bindO h
        obtain ⟨mb, h2, h⟩ := bindO h
        split at h
        · cases h
        · rename_i hm
          cases h
          exact sound_cmp g.un (by simpa using hm) (fr_off (ih.e g h1)) (fr_off (ih.e g h2))
      · obtain ⟨ma, h1, h⟩ := bindO h
        obtain ⟨mb, h2, h⟩ := bindO h
        obtain ⟨mc, h3, h⟩ := bindO h
        split at h
        · cases h
        · rename_i hm
          cases h
          exact sound_chain g.un (by simpa using hm) (fr_off (ih.e g h1)) (fr_off (ih.e g h2)) (fr_off (ih.e g h3))
      · obtain ⟨ma, h1, h⟩ := bindO h
        obtain ⟨mb, h2, h⟩ := bindO h
        obtain ⟨mc, h3, h⟩ := bindO h
        obtain ⟨md, h4, h⟩ := bindO h
        split at h
        · cases h
        · rename_i hm
          cases h
          exact sound_chain3 g.un (by simpa using hm) (fr_off (ih.e g h1)) (fr_off (ih.e g h2)) (fr_off (ih.e g h3)) (fr_off (ih.e g h4))
      · -- a call
        split at h
        · cases h
        rename_i x _ a as _ _ hx
        have hx' : oddB x = false ∧ glB C x = true := by simpa using hx
        have od := odd_of hx'.1
        split at h
        · rename_i I hI
          obtain ⟨ms, h1, h⟩ := bindO h
          split at h
          · rename_i hl
            cases h
            obtain ⟨f, fd, ps, k, F, hk, hm, hkeep, hb⟩ := g.fns x I hI
            obtain ⟨ha, hn⟩ := ih.es g h1
            exact sound_call F (g.room.mono hk) g.gd (g.gl hx'.2) hm hkeep hb g.tk od.1 hl hn ha
          · cases h
        · split at h
          rotate_left
          · split at h
            · rename_i hgc
              obtain ⟨ms, h1, h⟩ := bindO h
              cases h
              have hgc' : C.gcd = true ∧ x = "gcd" := by simpa using hgc
              obtain ⟨ha, hn⟩ := ih.es g h1
              have hn' := Bool.and_eq_true_iff.mp (show (noStar a && as.all noStar) = true from hn)
              exact pe_cAny dGcd_nx (pe_callBfun callV_gcd (g.gl hx'.2) (by rw [hgc'.2]; exact g.gcd hgc'.1) ha od.1 (star_ne hn'.1) (star_plain hn'.2))
            · split at h
              · rename_i y hy
                obtain ⟨ma, h1, h⟩ := bindO h
                split at h
                · rename_i hq
                  cases h
                  have hq' : ((x ∈ C.blt ∧ y ∈ C.blt) ∧ glB C y = true) ∧ noStar a = true := by simpa using hq
                  obtain ⟨q, rfl, ex, ey⟩ := isLst_eq hy
                  rcases ey with ey | ey
                  · rw [show isTyD y = dIsL from if_pos ey]
                    exact sound_isl (ih.e g h1) hq'.2 ex ey (g.gl hx'.2) (g.blt x hq'.1.1.1) (g.gl hq'.1.2) (g.blt y hq'.1.1.2)
                  · rw [show isTyD y = dIsI from if_neg (by rw [ey]; decide)]
                    exact sound_isi (ih.e g h1) hq'.2 ex ey (g.gl hx'.2) (g.blt x hq'.1.1.1) (g.gl hq'.1.2) (g.blt y hq'.1.1.2)
                · cases h
              · cases h
          rename_i b hb
          obtain ⟨ms, h1, h⟩ := bindO h
          split at h
          · rename_i hbl
            cases h
            obtain ⟨ha, hn⟩ := ih.es g h1
            have e := btOf_nm hb
            have bn := Bt.names b
            exact pe_bltAny (Bt.kind b) (Bt.callN g.calm g.gd g.un b _) (Bt.nxN b _) (g.gl hx'.2) (g.blt x hbl) (by rw [e]; exact Bt.boot b) hn (by rw [e]; exact bn.1) (by rw [e]; exact bn.2) ha
          · cases h
      · obtain ⟨t, h1, h⟩ := bindO h
        obtain ⟨ma, h2, h⟩ := bindO h
        obtain ⟨mb, h3, h⟩ := bindO h
        cases h
        exact sound_if (ih.t g h1).1 (ih.e g h2) (ih.e g h3)
      · obtain ⟨ms, h1, h⟩ := bindO h
        split at h
        · rename_i hl
          cases h
          exact sound_tup (Nat.le_trans hl (by decide)) (ih.es g h1).1
        · cases h
      · split at h
        · rename_i ms h1
          split at h
          · rename_i hl
            cases h
            exact sound_lst (Nat.le_trans hl (by decide)) (ih.es g h1).1
          · cases h
        · obtain ⟨ms, h1, h⟩ := bindO h
          cases h
          exact sound_lstS (ih.ess g h1)
      · obtain ⟨ma, h1, h⟩ := bindO h
        cases h
        exact sound_rev (fr_off (ih.e g h1))
      · obtain ⟨ma, h1, h⟩ := bindO h
        obtain ⟨ml, h2, h⟩ := bindO h
        obtain ⟨mh, h3, h⟩ := bindO h
        cases h
        exact sound_slice (fr_off (ih.e g h1)) (ih.o g h2) (ih.o g h3)
      · split at h
        · cases h
        rename_i hns
        obtain ⟨ma, h1, h⟩ := bindO h
        obtain ⟨mb, h2, h⟩ := bindO h
        cases h
        refine sound_ix g.un ?_ (fr_off (ih.e g h1)) (fr_off (ih.e g h2))
        exact plain_ix (by simpa using hns)
      · -- a comprehension
        rename_i elt tg iter ifs scope _ _
        obtain ⟨it, h1, h⟩ := bindO h
        obtain ⟨T, h2, h⟩ := bindO h
        obtain ⟨t, h3, h⟩ := bindO h
        obtain ⟨me, h4, h⟩ := bindO h
        split at h
        · rename_i hok
          cases h
          simp only [Bool.and_eq_true, Bool.not_eq_true', List.all_eq_true, decide_eq_true_eq] at hok
          refine sound_comp (own := ownOf C.N scope) (fr := me.2) g.calm g.nodup ?_ hok.1.2 (ih.i g h1) (fun s H Cd cl fp => ih.g (g.blk s H scope Cd cl fp) h2) (fun s H Cd cl fp => ih.ifs (g.blk s H scope Cd cl fp) h3) (fun s H Cd cl fp => ?_) (notSet hok.2)
          · rw [g.N, g.sc]
            exact blkOk_by hok.1.1
          · have q := ih.e (g.blk s H scope Cd cl fp) h4
            exact q
        · cases h
      · cases h
    · intro C X W e m g h
      cases e with
      | none => simp only [cO, Option.some.injEq] at h; subst h; exact True.intro
      | some e =>
        unfold cO at h
        obtain ⟨ma, h1, h⟩ := bindO h
        cases h
        exact fr_off (ih.e g h1)
    · intro C X W kp es ms g h
      cases es with
      | nil => simp only [cEs, Option.some.injEq] at h; subst h; exact ⟨sound_nil, rfl⟩
      | cons e es =>
        unfold cEs at h
        obtain ⟨m, h1, h⟩ := bindO h
        obtain ⟨ms', h2, h⟩ := bindO h
        split at h
        · rename_i hn
          cases h
          have r := ih.es g h2
          exact ⟨sound_cons hn (ih.e g h1) r.1, by simp [hn, r.2]⟩
        · cases h
    · intro C X W e t g h
      unfold cT at h
      split at h
      · have q := ih.t g h
        rename_i op a _ 
        refine ⟨(show PW X _ _ from ?_).pt, fun _ => ?_⟩
        · cases op
          · exact pw_and1 q.1
          · exact pw_or1 q.1
        · cases op
          · exact pw_and1 q.1
          · exact pw_or1 q.1
      · obtain ⟨t1, h1, h⟩ := bindO h
        obtain ⟨t2, h2, h⟩ := bindO h
        cases h
        have q := sound_tand (ih.t g h1).1 ((ih.t g h2).2 rfl)
        exact ⟨q.pt, fun _ => q⟩
      · obtain ⟨t1, h1, h⟩ := bindO h
        obtain ⟨t2, h2, h⟩ := bindO h
        cases h
        have q := sound_tor (ih.t g h1).1 ((ih.t g h2).2 rfl)
        exact ⟨q.pt, fun _ => q⟩
      · cases h
      · cases h
      · obtain ⟨t1, h1, h⟩ := bindO h
        cases h
        exact ⟨sound_tnot (ih.t g h1).1, fun z => nomatch z⟩
      · obtain ⟨ma, h1, h⟩ := bindO h
        obtain ⟨mb, h2, h⟩ := bindO h
        split at h
        · cases h
        · rename_i hm
          cases h
          exact ⟨sound_tcmp g.un (by simpa using hm) (fr_off (ih.e g h1)) (fr_off (ih.e g h2)), fun z => nomatch z⟩
      · obtain ⟨ma, h1, h⟩ := bindO h
        obtain ⟨mb, h2, h⟩ := bindO h
        obtain ⟨mc, h3, h⟩ := bindO h
        split at h
        · cases h
        · rename_i hm
          cases h
          exact ⟨sound_tchain g.un (by simpa using hm) (fr_off (ih.e g h1)) (fr_off (ih.e g h2)) (fr_off (ih.e g h3)), fun z => nomatch z⟩
      · obtain ⟨ma, h1, h⟩ := bindO h
        obtain ⟨mb, h2, h⟩ := bindO h
        obtain ⟨mc, h3, h⟩ := bindO h
        obtain ⟨md, h4, h⟩ := bindO h
        split at h
        · cases h
        · rename_i hm
          cases h
          exact ⟨sound_tchain3 g.un (by simpa using hm) (fr_off (ih.e g h1)) (fr_off (ih.e g h2)) (fr_off (ih.e g h3)) (fr_off (ih.e g h4)), fun z => nomatch z⟩
      · split at h
        · rename_i hp
          obtain ⟨m, h1, h⟩ := bindO h
          cases h
          refine ⟨sound_tval (plainT_ok hp) (fr_off (ih.e g h1)), fun z => ?_⟩
          cases e <;> first | (cases z; done) | (cases hp; done)
        · cases h
    · intro C X W es t g h
      unfold cIf at h
      split at h
      · cases h
        refine ⟨fun pn st sg H Z inv q => ?_⟩
        obtain ⟨A0, A, ρ, hs, ho⟩ := q
        exact (pts_nil (X := X)).run pn st sg H Z inv (ho H (Same.refl _))
      · exact pts_one (ih.t g h).1
      · cases h
    · intro C X W e T g h
      unfold cG at h
      split at h
      · split at h
        · rename_i i hi
          split at h
          · rename_i hl
            cases h
            have l := g.loc hl
            exact soundG_nm g.nodup (g.ix hi) l.1 l.2
          · cases h
        · cases h
      · obtain ⟨p, h1, h⟩ := bindO h
        split at h
        · rename_i hl
          cases h
          have r := ih.gs g h1
          exact soundG_tup g.calm r.2 hl r.1
        · cases h
      · cases h
    · intro C X W es T g h
      cases es with
      | nil => simp only [cGs, Option.some.injEq] at h; subst h; exact ⟨soundG_nil, rfl⟩
      | cons e es =>
        unfold cGs at h
        obtain ⟨m, h1, h⟩ := bindO h
        obtain ⟨ms', h2, h⟩ := bindO h
        split at h
        · rename_i hn
          cases h
          have r := ih.gs g h2
          exact ⟨soundG_cons hn (ih.g g h1) r.1, by simp [hn, r.2]⟩
        · cases h
    · intro C X W kp tg e t g h
      unfold cI at h
      have gen : ∀ {e' : Expr} {m : M × Bool}, cE n C kp e' = some m → PI X tg e' (tvI (gm X) W kp (iSeq m.1)) := fun h1 => soundI_seq (ih.e g h1)
      split at h
      · rename_i x p a q
        split at h
        · rename_i hc
          simp only [Bool.and_eq_true, decide_eq_true_eq] at hc
          obtain ⟨ms, h1, h⟩ := bindO h
          cases h
          have r := ih.es g h1
          have e1 := hc.2
          subst e1
          exact soundI_range1 (by simpa using r.2) (g.gl hc.1.1) (g.blt _ hc.1.2) r.1
        · split at h
          · rename_i hc
            simp only [Bool.and_eq_true, decide_eq_true_eq] at hc
            obtain ⟨ms, h1, h⟩ := bindO h
            cases h
            have r := ih.es g h1
            have e1 := hc.1.2
            subst e1
            have ht := hc.2
            cases tg <;> simp only [isTupE, Bool.false_eq_true] at ht
            exact soundI_enum (by simpa using r.2) (g.gl hc.1.1.1) (g.blt _ hc.1.1.2) r.1
          · obtain ⟨m, h1, h⟩ := bindO h
            cases h
            exact gen h1
      · rename_i x p a b c q
        split at h
        · rename_i hc
          simp only [Bool.and_eq_true, decide_eq_true_eq] at hc
          obtain ⟨ms, h1, h⟩ := bindO h
          cases h
          have r := ih.es g h1
          have e1 := hc.2
          subst e1
          have n3 : noStar a = true ∧ noStar b = true ∧ noStar c = true := by simpa using r.2
          exact soundI_range3 n3.1 n3.2.1 n3.2.2 (g.gl hc.1.1) (g.blt _ hc.1.2) r.1
        · obtain ⟨m, h1, h⟩ := bindO h
          cases h
          exact gen h1
      · rename_i x p a b q
        split at h
        · rename_i hc
          simp only [Bool.and_eq_true, decide_eq_true_eq] at hc
          obtain ⟨ms, h1, h⟩ := bindO h
          cases h
          have r := ih.es g h1
          have e1 := hc.2
          subst e1
          have n2 : noStar a = true ∧ noStar b = true := by simpa using r.2
          exact soundI_range2 n2.1 n2.2 (g.gl hc.1.1) (g.blt _ hc.1.2) r.1
        · split at h
          · rename_i hc
            simp only [Bool.and_eq_true, decide_eq_true_eq] at hc
            obtain ⟨ms, h1, h⟩ := bindO h
            cases h
            have r := ih.es g h1
            have e1 := hc.1.2
            subst e1
            have n2 : noStar a = true ∧ noStar b = true := by simpa using r.2
            have ht := hc.2
            cases tg <;> simp only [isTupE, Bool.false_eq_true] at ht
            exact soundI_zip n2.1 n2.2 (g.gl hc.1.1.1) (g.blt _ hc.1.1.2) r.1
          · obtain ⟨m, h1, h⟩ := bindO h
            cases h
            exact gen h1
      · obtain ⟨m, h1, h⟩ := bindO h
        cases h
        exact gen h1
    · intro C X W es ms g h
      cases es with
      | nil =>
        simp only [cEsS, Option.some.injEq] at h
        subst h
        exact soundS_nilA
      | cons e es =>
        unfold cEsS at h
        split at h
        · obtain ⟨m, h1, h⟩ := bindO h
          obtain ⟨ms, h2, h⟩ := bindO h
          cases h
          exact soundS_starA (ih.e g h1) (ih.ess g h2)
        · split at h
          · rename_i hn
            obtain ⟨m, h1, h⟩ := bindO h
            obtain ⟨ms, h2, h⟩ := bindO h
            cases h
            exact soundS_consA hn (ih.e g h1) (ih.ess g h2)
          · cases h
    · intro C X W kp e p g h
      unfold cDd at h
      split at h
      · cases h
        exact sound_dict0
      · obtain ⟨kms, h1, h⟩ := bindO h
        split at h
        · rename_i q
          cases h
          exact sound_dict g.un (ih.prs g h1) q.1 q.2
        · cases h
      · split at h
        · rename_i q
          obtain ⟨q1, q2, q3, q4, rfl⟩ := q
          obtain ⟨ma, h1, h⟩ := bindO h
          obtain ⟨me, h2, h⟩ := bindO h
          obtain ⟨mf, h3, h⟩ := bindO h
          cases h
          exact sound_get2 g.un (plainB_ok q1) q2 q3 q4 (ih.e g h1) (ih.e g h2) (ih.e g h3)
        · cases h
      · split at h
        · rename_i q
          obtain ⟨q1, q2, rfl⟩ := q
          obtain ⟨ma, h1, h⟩ := bindO h
          cases h
          exact sound_bits (plainB_ok q1) q2 (ih.e g h1)
        · cases h
      · split at h
        · rename_i scope _ q
          obtain ⟨q1, q2, q3, rfl⟩ := q
          split at h
          · rename_i i hi
            obtain ⟨T, h2, h⟩ := bindO h
            obtain ⟨t, h3, h⟩ := bindO h
            obtain ⟨me, h4, h⟩ := bindO h
            split at h
            · rename_i hok
              cases h
              simp only [Bool.and_eq_true, List.all_eq_true, decide_eq_true_eq] at hok
              have od := odd_of q1
              refine sound_compI (own := ownOf C.N scope) (fr := me.2) g.calm g.nodup ?_ hok.2 (pe_var (g.ix hi) (g.vis q2) od.1 od.2) rfl q3 (fun s H Cd cl fp => ih.g (g.blk s H scope Cd cl fp) h2) (fun s H Cd cl fp => ih.ifs (g.blk s H scope Cd cl fp) h3) (fun s H Cd cl fp => ?_)
              · rw [g.N, g.sc]
                exact blkOk_by hok.1
              · have q := ih.e (g.blk s H scope Cd cl fp) h4
                exact q
            · cases h
          · cases h
        · cases h
      · rename_i scope _
        obtain ⟨it, h1, h⟩ := bindO h
        obtain ⟨T, h2, h⟩ := bindO h
        obtain ⟨t, h3, h⟩ := bindO h
        obtain ⟨it1, h4, h⟩ := bindO h
        obtain ⟨T1, h5, h⟩ := bindO h
        obtain ⟨t1, h6, h⟩ := bindO h
        obtain ⟨me, h7, h⟩ := bindO h
        split at h
        · rename_i hok
          cases h
          simp only [Bool.and_eq_true, List.all_eq_true, decide_eq_true_eq, Bool.not_eq_true'] at hok
          obtain ⟨⟨⟨⟨k1, k2⟩, k3⟩, k4⟩, k5⟩ := hok
          refine sound_comp2 (own := ownOf C.N scope) (fr := me.2) g.calm g.nodup ?_ k3 (tgOk_cG n h2) k2 (fun i m => m) (ih.i g h1) (fun s H Cd cl fp => ih.g (g.blk s H scope Cd cl fp) h2) (fun s H Cd cl fp => ih.ifs (g.blk s H scope Cd cl fp) h3) (fun s H Cd cl fp => ih.i (g.blk s H scope Cd cl fp) h4) (fun s H Cd cl fp => ih.g (g.blk s H scope Cd cl fp) h5) (fun s H Cd cl fp => ih.ifs (g.blk s H scope Cd cl fp) h6) (fun s H Cd cl fp => ih.e (g.blk s H scope Cd cl fp) h7) (notSet k4) (fun env x => notSet k5 x)
          rw [g.N, g.sc]
          exact blkOk_by k1
        · cases h
      · split at h
        · rename_i q
          obtain ⟨rfl, q1, q2, q3, q4, rfl⟩ := q
          obtain ⟨ma, h1, h⟩ := bindO h
          cases h
          exact sound_sortItems g.calm g.un (g.gl q2) (g.blt _ q1) (plainB_ok q3) q4 (ih.e g h1)
        · cases h
      · split at h
        · rename_i q
          obtain ⟨rfl, q1, q2⟩ := q
          obtain ⟨it, h1, h⟩ := bindO h
          obtain ⟨T, h2, h⟩ := bindO h
          obtain ⟨t, h3, h⟩ := bindO h
          obtain ⟨it1, h4, h⟩ := bindO h
          obtain ⟨T1, h5, h⟩ := bindO h
          obtain ⟨t1, h6, h⟩ := bindO h
          obtain ⟨me, h7, h⟩ := bindO h
          split at h
          · rename_i hok
            cases h
            simp only [Bool.and_eq_true, List.all_eq_true, decide_eq_true_eq, Bool.not_eq_true'] at hok
            obtain ⟨⟨⟨⟨k1, k2⟩, k3⟩, k4⟩, k5⟩ := hok
            have ok := blkOk_by k1
            rw [← g.sc] at ok
            have okN := g.N
            exact sound_sortSC2 (fr := me.2) g.calm (g.gl q2) (g.blt _ q1) g.nodup (by rw [okN]; exact ok) k3 (tgOk_cG n h2) k2 (fun i m => m) (ih.i g h1) (fun s H Cd cl fp => ih.g (g.blk s H _ Cd cl fp) h2) (fun s H Cd cl fp => ih.ifs (g.blk s H _ Cd cl fp) h3) (fun s H Cd cl fp => ih.i (g.blk s H _ Cd cl fp) h4) (fun s H Cd cl fp => ih.g (g.blk s H _ Cd cl fp) h5) (fun s H Cd cl fp => ih.ifs (g.blk s H _ Cd cl fp) h6) (fun s H Cd cl fp => ih.e (g.blk s H _ Cd cl fp) h7) (notSet k4) (fun env x => notSet k5 x)
          · cases h
        · cases h
      · cases h
    · intro C X W ks vs kms g h
      unfold cPrs at h
      split at h
      · cases h
        exact .nil
      · obtain ⟨a, h1, h⟩ := bindO h
        obtain ⟨b, h2, h⟩ := bindO h
        obtain ⟨r, h3, h⟩ := bindO h
        cases h
        exact .cons (ih.e g h1) (ih.e g h2) (ih.prs g h3)
      · cases h
end Sm

/-! x = f(y), y owned and lent: what comes back is new, and holds scalars alone. -/
namespace Sm
open PySem PySem.Spec L2
def scal : PyData → Bool
  | .list _ => false
  | .tuple _ => false
  | .dict _ => false
  | _ => true
def flatS : PyData → Bool
  | .list ds => ds.all scal
  | d => scal d
def sLet (is : List Nat) (i : Nat) (m : M) : Sx := fun ρ => match m (frzAll is ρ) with
  | .ok d => if flatS d = true then .nx (ρ.set i (.sh d)) else .no
  | _ => .no
theorem rp_scal {H H' : Hp} {v : V} {d : PyData} (h : scal d = true) (r : Rp H v d) : Rp H' v d := by
  cases r <;> first | exact .non | exact .bl _ | exact .int _ | (refine .str _ ?_; assumption) | cases h
theorem rpAll_scal {H H' : Hp} : ∀ {vs : List V} {ds : List PyData}, ds.all scal = true → RpAll H vs ds → RpAll H' vs ds
  | _, _, _, .nil => .nil
  | _, _, h, .cons r rs => by
    rw [List.all_cons, Bool.and_eq_true] at h
    exact .cons (rp_scal h.1 r) (rpAll_scal h.2 rs)
section
variable {X : Cx} {W : WX} {A0 : List Addr} {H0 : Hp} {rf : Bool} {pos : Pos} {e : Expr} {m : M}
theorem soundS_let {x : Str} {i : Nat} {is : List Nat} {p1 : Pos} (nd : X.N.Nodup) (hi : X.N[i]? = some x) (hx : Loc X.env.scope x) (hf : X.fn x = true ∨ X.env.scope.names.lookup x = some .local) (he : PE X e (tvM (gm X) W m true true)) (hs : swapsWith e (some (.Name x p1)) pos.line X.env = pure false) :
    PS X (.Assign [.Name x p1] e pos) (tvS (gm X) W A0 H0 rf (sLet is i m)) := by
  refine psBy (ps_set nd hi hx he hs hf) ?_
  rintro D sg H ⟨A, ρ, hs, p⟩
  obtain ⟨B, h1⟩ := StA.frzAll is hs.st
  refine ⟨A0, B, _, h1, ?_⟩
  unfold sLet at p
  cases ed : m (frzAll is ρ) with
  | exc c d => rw [ed] at p; exact p.elim
  | no => rw [ed] at p; exact p.elim
  | ok d =>
    rw [ed] at p
    intro v H1 s1 r1
    have hs1 := hs.mono s1
    have go : flatS d = true → Rp (Hide A H1) v d → D.nx (sg.set i (some v)) H1 := fun f r => by
      dsimp only at p
      rw [if_pos f] at p
      exact p A _ H1 ⟨hs1.st.setSh r, hs1.same, hs1.new⟩ (Trk.same s1)
    by_cases f : flatS d = true
    · refine go f ?_
      cases d with
      | list ds =>
        obtain ⟨a, rfl, na, us, h2, h3, h4⟩ := r1.2 rfl
        have nA : a ∉ A := fun m => by
          obtain ⟨o, z⟩ := hs.st.dom a m
          rw [na] at z
          cases z
        exact .lst (by rw [hide_out nA]; exact h2) h3 (rpAll_scal f h4)
      | tuple ds => cases f
      | dict ds => cases f
      | _ => exact rp_scal rfl r1.1.kept
    · dsimp only at p
      rw [if_neg f] at p
      exact p.elim
end
end Sm

/-! x[i], x[j] = a, b: two stores into one owned list, from the left. -/
namespace Sm
open PySem PySem.Spec L2
/-- a told value is stored; then F -/
def putK (i : Nat) (k : M) (d : PyData) (ρ : Rho) (F : Rho → Out) : Out := match owL ρ[i]? with
  | some ds => lf (k ρ) ρ fun e => match e with
    | .int j => (match ixN ds.length j with
      | some p => F (ρ.set i (.ow (.list (ds.set p d))))
      | none => .no)
    | _ => .no
  | none => .no
def sPut2 (i : Nat) (k1 k2 m : M) : Sx := fun ρ => lf (m ρ) ρ fun d => match d with
  | .tuple [d1, d2] => putK i k1 d1 ρ fun ρ' => putK i k2 d2 ρ' fun ρ'' => .nx ρ''
  | _ => .no
theorem putK_sub {mg : Gm} {W : WX} {A0 A : List Addr} {H0 H : Hp} {rf : Bool} {D : Ends} {ρ : Rho} {sg : St} {i : Nat} {k : M} {v : V} {d : PyData} {F : Rho → Out} {Z : St → Hp → Prop} (hs : Sto mg.K A0 H0 A ρ sg H) (rv : Rp (Hide A H) v d)
    (p : Post mg W A0 H0 rf A H D (putK i k d ρ F)) (hz : ∀ H' ρ', Sto mg.K A0 H0 A ρ' sg H' → Trk A H A H' → Post mg W A0 H0 rf A H' D (F ρ') → Z sg H') : gSub (tVar i) (tvM mg W k false false) rSetL v sg H Z := by
  unfold putK at p
  cases eo : owL ρ[i]? with
  | none => rw [eo] at p; exact p.elim
  | some ds =>
    rw [eo] at p
    have ei := owL_eq eo
    obtain ⟨a, ea, m1, m2, us, hu, hz', ru⟩ := hs.st.ow i _ ei
    refine ⟨.ref a, ea, A0, A, ρ, hs.st, (lf_oc hs p).mono fun e q3 w H3 s3 r3 => ?_⟩
    cases e with
    | int j =>
      have q' : Post mg W A0 H0 rf A H D (match ixN ds.length j with | some p => F (ρ.set i (.ow (.list (ds.set p d)))) | none => .no) := q3
      cases ej : ixN ds.length j with
      | none => rw [ej] at q'; exact q'.elim
      | some pl =>
        rw [ej] at q'
        have hu3 : H3 a = some (.lst us) := s3 _ _ hu
        refine ⟨a, us, j, pl, rfl, r3.1.int, hu3, by rw [ru.len]; exact ej, ?_⟩
        have hs3 := hs.mono s3
        have q1 : OwnAt A (upd H3 a (.lst (us.set pl v))) a (.list (ds.set pl d)) := by
          refine ⟨us.set pl v, upd_same, by rw [List.length_set]; exact hz', ?_⟩
          rw [hide_upd m1]
          exact (ru.mono (hide_same s3)).set pl (rv.mono (hide_same s3))
        have tk : Trk A H A (upd H3 a (.lst (us.set pl v))) := (Trk.same s3).trans (Trk.put m1)
        exact hz _ _ (hs3.put m1 m2 (hs3.st.chOw ei ea m1 m2 q1)) tk (Post.on tk q')
    | _ => exact q3.elim
section
variable {X : Cx} {W : WX} {A0 : List Addr} {H0 : Hp} {rf : Bool} {m k1 k2 : M} {pos : Pos}
theorem soundS_put2 {x : Str} {i : Nat} {a b e1 e2 : Expr} {p1 p2 p3 p4 pt pt2 : Pos} {kt kt2 : Nat} {fr : Bool} (hc : X.calm = true) (hN : X.N[i]? = some x) (hv : Vis X.env.scope x) (h1 : (x == ("__debug__" : Str)) = false) (h2 : (x == ("__classdict__" : Str)) = false)
    (hs : swapsWithSole [.Tuple [.Subscript (.Name x p1) e1 p2, .Subscript (.Name x p3) e2 p4] kt pt] (.Tuple [a, b] kt2 pt2) pos.line X.env = pure false)
    (hw : swappedStores [.Tuple [.Subscript (.Name x p1) e1 p2, .Subscript (.Name x p3) e2 p4] kt pt] (.Tuple [a, b] kt2 pt2) X.env = pure none)
    (ha1 : ∀ v, assign (.Subscript (.Name x p1) e1 p2) X.env v = (do
      let ov ← holding [v] (eval (.Name x p1) X.env); let iv ← holding [v, ov] (eval e1 X.env)
      standAt p2; holding [v, ov, iv] (setItem ov iv v); release [v, ov, iv] []))
    (ha2 : ∀ v, assign (.Subscript (.Name x p3) e2 p4) X.env v = (do
      let ov ← holding [v] (eval (.Name x p3) X.env); let iv ← holding [v, ov] (eval e2 X.env)
      standAt p4; holding [v, ov, iv] (setItem ov iv v); release [v, ov, iv] []))
    (he : PE X (.Tuple [a, b] kt2 pt2) (tvM (gm X) W m true fr)) (hk1 : PE X e1 (tvM (gm X) W k1 false false)) (hk2 : PE X e2 (tvM (gm X) W k2 false false)) :
    PS X (.Assign [.Tuple [.Subscript (.Name x p1) e1 p2, .Subscript (.Name x p3) e2 p4] kt pt] (.Tuple [a, b] kt2 pt2) pos) (tvS (gm X) W A0 H0 rf (sPut2 i k1 k2 m)) := by
  refine psBy (ps_asg he (pg_tup hc (pgs_cons (pg_sub (pe_var hN hv h1 h2) hk1 set_list ha1) (pgs_cons (pg_sub (pe_var hN hv h1 h2) hk2 set_list ha2) pgs_nil))) hs hw rfl) ?_
  rintro D sg H ⟨A, ρ, hs, p⟩
  unfold sPut2 at p
  refine ⟨A0, A, ρ, hs.st, (lf_oc hs p).mono fun d q v H2 s2 r2 => ?_⟩
  have hs2 := hs.mono s2
  have q2 := Post.on (Trk.same s2) q
  match d, r2, q2 with
  | .tuple [d1, d2], r2, q2 =>
    cases r2.1.kept with
    | @tup a' vs _ g1 g2 g3 =>
      cases g3 with
      | @cons v1 vr _ _ c1 c2 =>
        cases c2 with
        | @cons v2 vr2 _ _ c3 c4 =>
          cases c4
          refine ⟨a', [v1, v2], rfl, .inl (.inl (hide_le _ _ g1)), rfl, v1, [v2], rfl, ?_⟩
          refine putK_sub hs2 c1 q2 fun H' ρ' s' tk p' => ?_
          refine ⟨v2, [], rfl, putK_sub s' (c3.mono tk.kept) p' fun H'' ρ'' s'' tk2 p'' => ?_⟩
          exact ⟨rfl, p'' A sg H'' s'' (Trk.refl _ _)⟩
end
end Sm
namespace Sm
open PySem PySem.Spec L2
theorem sw_none {x y e1 e2 a b : Expr} {p2 p4 pt pt2 : Pos} {kt kt2 : Nat} {env : Env} : swappedStores [.Tuple [.Subscript x e1 p2, .Subscript y e2 p4] kt pt] (.Tuple [a, b] kt2 pt2) env = pure none := by
  unfold swappedStores
  simp
end Sm

/-! The compiler of statements and defs. -/
namespace Sm
open PySem PySem.Spec L2

structure Kc where
  mv : List Nat
  rf : Bool
  fzs : List (Nat × List Nat)
  lds : List (Nat × List Nat) := []
  dcs : List Nat := []
def sNo : Sx := fun _ => .no
def isComp : Expr → Bool
  | .ListComp .. => true
  | .SetComp .. => true
  | .DictComp .. => true
  | _ => false
theorem noSwap {e : Expr} {t : Option Expr} {l : Nat} {env : Env} (h : isComp e = false) : swapsWith e t l env = pure false := by cases e <;> first | rfl | cases h
theorem noSwap1 {tg e : Expr} {l : Nat} {env : Env} (h : isComp e = false) : swapsWithSole [tg] e l env = pure false := by
  show swapsWith e (some tg) l env = pure false
  exact noSwap h
theorem subAsg {x : Str} {p1 p2 : Pos} {k : Expr} {env : Env} (h : isSlice k = false) : ∀ v, assign (.Subscript (.Name x p1) k p2) env v = (do
      let ov ← holding [v] (eval (.Name x p1) env); let iv ← holding [v, ov] (eval k env)
      standAt p2; holding [v, ov, iv] (setItem ov iv v); release [v, ov, iv] []) := by
  intro v
  cases k <;> first | rfl | cases h
theorem noSwapped {tg e : Expr} {env : Env} (h : isTupE e = false) : swappedStores [tg] e env = pure none := by
  cases e <;> first | (cases h; done) | (cases tg <;> rfl)
def sPar (i j : Nat) (a b : M) : Sx := fun ρ => lf (mAll [a, b] ρ) ρ fun ds => match ds with
  | [d, e] => .nx ((ρ.set i (.sh d)).set j (.sh e))
  | _ => .no
section
variable {X : Cx} {W : WX} {A0 : List Addr} {H0 : Hp} {rf : Bool} {pos : Pos} {e : Expr} {m : M}
theorem soundS_no {st : Stmt} : PS X st (tvS (gm X) W A0 H0 rf sNo) := psBy ps_never fun D sg H ⟨_, _, _, p⟩ => p
theorem soundS_par {i j : Nat} {x y : Str} {a b : Expr} {ma mb : M} {px py pt pt2 : Pos} {kt k2 : Nat} (hc : X.calm = true) (nd : X.N.Nodup) (hi : X.N[i]? = some x) (hj : X.N[j]? = some y) (hij : i ≠ j)
    (hx : X.env.scope.names.lookup x = some .local) (hy : X.env.scope.names.lookup y = some .local) (ha : PA X [a, b] (tvA (gm X) W [ma, mb] true))
    (hw : swappedStores [.Tuple [.Name x px, .Name y py] kt pt] (.Tuple [a, b] k2 pt2) X.env = pure (some [x, y])) :
    PS X (.Assign [.Tuple [.Name x px, .Name y py] kt pt] (.Tuple [a, b] k2 pt2) pos) (tvS (gm X) W A0 H0 rf (sPar i j ma mb)) := by
  refine psBy (ps_par hc nd hi hj hij hx hy ha hw) ?_
  rintro D sg H ⟨A, ρ, hs, p⟩
  refine ⟨A0, A, ρ, hs.st, (lf_oc hs p).mono fun ds q vs H1 s1 r1 => ?_⟩
  cases r1 with
  | nil => exact q.elim
  | cons r1 r2 =>
    cases r2 with
    | nil => exact q.elim
    | cons r2 r3 =>
      cases r3 with
      | nil =>
        have hs1 := hs.mono s1
        exact ⟨_, _, rfl, q A _ H1 ⟨(hs1.st.setSh r1.kept).setSh r2.kept, hs1.same, hs1.new⟩ (Trk.same s1)⟩
      | cons _ _ => exact q.elim
/-- name = [..] on one line, not owned -/
theorem soundS_lcS {elt tg iter : Expr} {ifs : List Expr} {scope : Scope} {own : List (Str × Nat)} {it : Its} {T : Tg} {t : Ts} {el : M} {S : List Nat} {fr : Bool} {i : Nat} {y : Str} {py p2 : Pos}
    (hc : X.calm = true) (nd : X.N.Nodup) (hy : X.N[i]? = some y) (hyl : X.env.scope.names.lookup y = some .local) (hsw : swapsWith (.ListComp elt [⟨tg, iter, ifs, 0⟩] scope p2) (some (.Name y py)) pos.line X.env = pure true)
    (ok : BlkOk X.N X.env.scope scope own) (hS : ∀ i ∈ S, i ∈ own.map (·.2)) (hi : PI X tg iter (tvI (gm X) W false it))
    (hg : ∀ (s : Shared) (H : Hp) (C : Addr) (cl : List (Str × Addr)) (fp : List Addr), PG (X.blk s H scope (compEnvC scope cl C X.env) fp) tg (tvG X.K T S))
    (ht : ∀ (s : Shared) (H : Hp) (C : Addr) (cl : List (Str × Addr)) (fp : List Addr), PTs (X.blk s H scope (compEnvC scope cl C X.env) fp) ifs (tvT (gm X) noW t))
    (he : ∀ (s : Shared) (H : Hp) (C : Addr) (cl : List (Str × Addr)) (fp : List Addr), PE (X.blk s H scope (compEnvC scope cl C X.env) fp) elt (tvM (gm X) noW el true fr))
    (hf : ∀ x, foldedSetIterable iter X.env x = pure x) : PS X (.Assign [.Name y py] (.ListComp elt [⟨tg, iter, ifs, 0⟩] scope p2) pos) (tvS (gm X) W A0 H0 rf (sSet (tNm i) (mComp it T t el (own.map (·.2))))) := by
  refine psBy (ps_setLc hc nd hy hyl hsw hi ok hg ht he hf) ?_
  rintro D sg H ⟨A, ρ, hs, p⟩
  refine comp_in (mg := gm X) (W := W) (kp := true) hS ?_
  refine ⟨A0, A, ρ, hs.st, (lf_oc hs p).mono fun d q v H1 s1 r1 => ?_⟩
  have hs1 := hs.mono s1
  exact q A _ H1 ⟨hs1.st.setSh r1.1.kept, hs1.same, hs1.new⟩ (Trk.same s1)
theorem soundS_lcI {elt d : Expr} {elts : List Expr} {kk : Nat} {tpos apos cpos : Pos} {ifs : List Expr} {scope : Scope} {own : List (Str × Nat)} {j : Nat} {T : Tg} {t : Ts} {el : M} {S : List Nat} {fr : Bool} {i : Nat} {y : Str} {py p2 : Pos}
    (hc : X.calm = true) (nd : X.N.Nodup) (hy : X.N[i]? = some y) (hyl : X.env.scope.names.lookup y = some .local) (hsw : swapsWith (.ListComp elt [⟨.Tuple elts kk tpos, .Call (.Attribute d "items" apos) [] [] cpos, ifs, 0⟩] scope p2) (some (.Name y py)) pos.line X.env = pure true)
    (ok : BlkOk X.N X.env.scope scope own) (hS : ∀ i ∈ S, i ∈ own.map (·.2)) (hd : PE X d (tVar j)) (hb : attributeBase d "items" X.env (eval d X.env) = eval d X.env) (hl : (apos.endLine == cpos.line) = true)
    (hg : ∀ (s : Shared) (H : Hp) (C : Addr) (cl : List (Str × Addr)) (fp : List Addr), PG (X.blk s H scope (compEnvC scope cl C X.env) fp) (.Tuple elts kk tpos) (tvG X.K T S))
    (ht : ∀ (s : Shared) (H : Hp) (C : Addr) (cl : List (Str × Addr)) (fp : List Addr), PTs (X.blk s H scope (compEnvC scope cl C X.env) fp) ifs (tvT (gm X) noW t))
    (he : ∀ (s : Shared) (H : Hp) (C : Addr) (cl : List (Str × Addr)) (fp : List Addr), PE (X.blk s H scope (compEnvC scope cl C X.env) fp) elt (tvM (gm X) noW el true fr)) :
    PS X (.Assign [.Name y py] (.ListComp elt [⟨.Tuple elts kk tpos, .Call (.Attribute d "items" apos) [] [] cpos, ifs, 0⟩] scope p2) pos) (tvS (gm X) W A0 H0 rf (sOwn i (mCompI j T t el (own.map (·.2))))) := by
  refine psBy (ps_lock (ps_setLc hc nd hy hyl hsw (pi_items hd hb hl) ok hg ht he (fun _ => rfl))) ?_
  rintro D sg H ⟨A, ρ, hs, p⟩
  refine compI_in (mg := gm X) (W := W) (kp := true) (Z := fun v H' => D.nx (sg.set i (some v)) H') hS ?_
  exact ⟨A0, A, ρ, hs.st, (lf_oc hs p).mono fun d q v H1 s1 r1 => own_post hs q s1 r1⟩
theorem soundS_lcIS {elt d : Expr} {elts : List Expr} {kk : Nat} {tpos apos cpos : Pos} {ifs : List Expr} {scope : Scope} {own : List (Str × Nat)} {j : Nat} {T : Tg} {t : Ts} {el : M} {S : List Nat} {fr : Bool} {i : Nat} {y : Str} {py p2 : Pos}
    (hc : X.calm = true) (nd : X.N.Nodup) (hy : X.N[i]? = some y) (hyl : X.env.scope.names.lookup y = some .local) (hsw : swapsWith (.ListComp elt [⟨.Tuple elts kk tpos, .Call (.Attribute d "items" apos) [] [] cpos, ifs, 0⟩] scope p2) (some (.Name y py)) pos.line X.env = pure true)
    (ok : BlkOk X.N X.env.scope scope own) (hS : ∀ i ∈ S, i ∈ own.map (·.2)) (hd : PE X d (tVar j)) (hb : attributeBase d "items" X.env (eval d X.env) = eval d X.env) (hl : (apos.endLine == cpos.line) = true)
    (hg : ∀ (s : Shared) (H : Hp) (C : Addr) (cl : List (Str × Addr)) (fp : List Addr), PG (X.blk s H scope (compEnvC scope cl C X.env) fp) (.Tuple elts kk tpos) (tvG X.K T S))
    (ht : ∀ (s : Shared) (H : Hp) (C : Addr) (cl : List (Str × Addr)) (fp : List Addr), PTs (X.blk s H scope (compEnvC scope cl C X.env) fp) ifs (tvT (gm X) noW t))
    (he : ∀ (s : Shared) (H : Hp) (C : Addr) (cl : List (Str × Addr)) (fp : List Addr), PE (X.blk s H scope (compEnvC scope cl C X.env) fp) elt (tvM (gm X) noW el true fr)) :
    PS X (.Assign [.Name y py] (.ListComp elt [⟨.Tuple elts kk tpos, .Call (.Attribute d "items" apos) [] [] cpos, ifs, 0⟩] scope p2) pos) (tvS (gm X) W A0 H0 rf (sSet (tNm i) (mCompI j T t el (own.map (·.2))))) := by
  refine psBy (ps_lock (ps_setLc hc nd hy hyl hsw (pi_items hd hb hl) ok hg ht he (fun _ => rfl))) ?_
  rintro D sg H ⟨A, ρ, hs, p⟩
  refine compI_in (mg := gm X) (W := W) (kp := true) (Z := fun v H' => D.nx (sg.set i (some v)) H') hS ?_
  refine ⟨A0, A, ρ, hs.st, (lf_oc hs p).mono fun d q v H1 s1 r1 => ?_⟩
  have hs1 := hs.mono s1
  exact q A _ H1 ⟨hs1.st.setSh r1.1.kept, hs1.same, hs1.new⟩ (Trk.same s1)
end

def funB (C : Cc) : Bool := match C.sc.kind with
  | .function => true
  | _ => false
def lclB (C : Cc) (x : Str) : Bool := match C.sc.names.lookup x with
  | some .local => true
  | _ => false
def stLine : Stmt → Nat
  | .Assign _ _ p => p.line
  | .Expr _ p => p.line
  | .Return _ p => p.line
  | .For _ _ _ _ p => p.line
  | .While _ _ _ p => p.line
  | .If _ _ _ p => p.line
  | _ => 0
def isCall : Expr → Bool
  | .Call .. => true
  | _ => false
theorem call_nocomp {e : Expr} (h : isCall e = true) : isComp e = false := by cases e <;> first | rfl | cases h
def swOk (C : Cc) (x y : Str) (px py : Pos) (a b : Expr) : Bool :=
  funB C && lclB C x && lclB C y && decide (px.line = py.line) && decide (x ≠ y) && noStar a && noStar b && !(foldedForSure 8 a && foldedForSure 8 b) && !(constantsAlone 8 a && constantsAlone 8 b)
theorem lcl_of {C : Cc} {x : Str} (h : lclB C x = true) : C.sc.names.lookup x = some .local := by
  unfold lclB at h
  split at h
  · assumption
  · cases h
theorem fun_of {C : Cc} (h : funB C = true) : C.sc.kind = .function := by
  unfold funB at h
  split at h
  · assumption
  · cases h
theorem sw_of {X : Cx} {C : Cc} {W : WX} (g : Good X C W) {x y : Str} {px py pt pt2 : Pos} {kt k2 : Nat} {a b : Expr} (h : swOk C x y px py a b = true) :
    swappedStores [.Tuple [.Name x px, .Name y py] kt pt] (.Tuple [a, b] k2 pt2) X.env = pure (some [x, y]) := by
  unfold swOk at h
  simp only [Bool.and_eq_true, Bool.not_eq_true', decide_eq_true_eq] at h
  obtain ⟨⟨⟨⟨⟨⟨⟨⟨h1, h2⟩, h3⟩, h4⟩, h5⟩, h6⟩, h7⟩, h8⟩, h9⟩ := h
  have hb : X.env.blockKind = .function := by
    unfold Env.blockKind
    rw [g.sc, fun_of h1]
    rfl
  have kx : X.env.kindOf x = some .local := by
    show X.env.scope.names.lookup x = _
    rw [g.sc]; exact lcl_of h2
  have ky : X.env.kindOf y = some .local := by
    show X.env.scope.names.lookup y = _
    rw [g.sc]; exact lcl_of h3
  have el : (py.line == (Expr.Name x px).pos.line) = true := by
    show (py.line == px.line) = true
    rw [h4]; exact beq_self_eq_true _
  have hne : ([x, y] : List Str).eraseDups.length = 2 := by
    simp [List.eraseDups_cons, h5, Ne.symm h5]
  unfold swappedStores
  simp only [hb, kx, ky, h4, List.length_cons, List.length_nil, List.head?_cons, List.any_cons, List.any_nil, List.filterMap_cons, List.filterMap_nil, List.all_cons, List.all_nil, h8, h9, Bool.and_true, Option.map_some, Option.getD_some, el, beq_self_eq_true, Bool.and_self, if_true]
  rw [if_neg (by decide)]
  split
  · exact absurd h6 (by simp [noStar])
  · split
    · exact absurd h7 (by simp [noStar])
    · simp only [Bool.or_self, Bool.false_eq_true, if_false, List.length_cons, List.length_nil, hne]
      rw [if_neg (by decide)]

def compOk (C : Cc) (i : Nat) (y : Str) (py : Pos) (st : Nat) (p2 : Pos) (scope : Scope) : Bool :=
  funB C && lclB C y && (py.line == p2.line) && !(scope.names.any fun (n, k) => n == y && (k == .local || k == .cell)) && decide (ixIn y C.N = some i)
/-- name = [..]: the parts of the comprehension -/
noncomputable def cLc (n : Nat) (C : Cc) (elt tg iter : Expr) (ifs : List Expr) (scope : Scope) : Option M := do
  let it ← cI n C false tg iter
  let T ← cG n (blkCc C scope) tg
  let t ← cIf n (blkCc C scope) ifs
  let me ← cE n (blkCc C scope) true elt
  if blkC C.N C.sc scope (ownOf C.N scope) && T.2.all (fun i => decide (i ∈ (ownOf C.N scope).map (·.2))) && !isSetE iter then some (mComp it T.1 t me.1 ((ownOf C.N scope).map (·.2))) else none
noncomputable def cLcI (n : Nat) (C : Cc) (elt tg iter : Expr) (ifs : List Expr) (scope : Scope) : Option M := match tg, iter with
  | .Tuple elts kk tpos, .Call (.Attribute (.Name d _) m apos) [] [] cpos => if oddB d = false ∧ visB C d = true ∧ (apos.endLine == cpos.line) = true ∧ m = ("items" : Str) then (match ixIn d C.N with
    | some i => do
      let T ← cG n (blkCc C scope) (.Tuple elts kk tpos)
      let t ← cIf n (blkCc C scope) ifs
      let me ← cE n (blkCc C scope) true elt
      if blkC C.N C.sc scope (ownOf C.N scope) && T.2.all (fun i => decide (i ∈ (ownOf C.N scope).map (·.2))) then some (mCompI i T.1 t me.1 ((ownOf C.N scope).map (·.2))) else none
    | none => none) else none
  | _, _ => none
noncomputable def cLx (n : Nat) (C : Cc) (elt tg iter : Expr) (ifs : List Expr) (scope : Scope) : Option M := match cLcI n C elt tg iter ifs scope with
  | some m => some m
  | none => cLc n C elt tg iter ifs scope
def celB (C : Cc) (x : Str) : Bool := match C.sc.names.lookup x with
  | some .cell => true
  | _ => false
theorem cel_sw {X : Cx} {C : Cc} {W : WX} (g : Good X C W) {y : Str} (h : celB C y = true) {py p2 : Pos} {l : Nat} {scope : Scope} {elt : Expr} {gs : List Comprehension} : swapsWith (.ListComp elt gs scope p2) (some (.Name y py)) l X.env = pure false := by
  have k : X.env.kindOf y = some .cell := by
    show X.env.scope.names.lookup y = _
    rw [g.sc]
    unfold celB at h
    split at h
    · assumption
    · cases h
  unfold swapsWith
  simp only [k]
  rw [show ((some NameKind.cell == some NameKind.local) = false) from rfl]
  simp
theorem cel_sw1 {X : Cx} {C : Cc} {W : WX} (g : Good X C W) {y : Str} (h : celB C y = true) {py p2 : Pos} {l : Nat} {scope : Scope} {elt : Expr} {gs : List Comprehension} : swapsWithSole [.Name y py] (.ListComp elt gs scope p2) l X.env = pure false := by
  show swapsWith (.ListComp elt gs scope p2) (some (.Name y py)) l X.env = pure false
  exact cel_sw g h
/-- a clause 'except y as n' that returns -/
def cH1 (C : Cc) (n : Str) : ExceptHandler → Option Cl
  | .ExceptHandler (some (.Name y _)) (some n1) [.Return (some (.Attribute (.Name n2 _) at' _)) _] _ =>
    if n1 = n ∧ n2 = n ∧ at' = ("at" : Str) ∧ (y = ("CountError" : Str) ∨ y ∈ C.exs) ∧ glB C y = true ∧ oddB y = false then some (y, none) else none
  | .ExceptHandler (some (.Name y _)) (some n1) [.Return (some (.Tuple [.Constant (.str s) _ _, .Attribute (.Name n2 _) at' _] _ _)) _] _ =>
    if n1 = n ∧ n2 = n ∧ at' = ("at" : Str) ∧ (y = ("CountError" : Str) ∨ y ∈ C.exs) ∧ glB C y = true ∧ oddB y = false ∧ s.length ≤ 1000 then some (y, some s) else none
  | _ => none
def cH (C : Cc) (n : Str) : List ExceptHandler → Option (List Cl)
  | [] => some []
  | h :: hs => do
    let p ← cH1 C n h
    let l ← cH C n hs
    some (p :: l)
theorem cH1_ok {X : Cx} {C : Cc} {W : WX} (g : Good X C W) {n : Str} {h : ExceptHandler} {p : Cl} (e : cH1 C n h = some p) :
    (∀ {hs : List ExceptHandler} {l : List Cl}, HdOk X n C.exs hs l → HdOk X n C.exs (h :: hs) (p :: l)) ∧ ∀ s, p.2 = some s → s.length ≤ sizeLine := by
  unfold cH1 at e
  split at e
  · split at e
    · rename_i q
      cases e
      obtain ⟨rfl, rfl, rfl, q1, q2, q3⟩ := q
      exact ⟨fun r => .one q1 (g.gl q2) (odd_of q3).1 r, fun s z => nomatch z⟩
    · cases e
  · split at e
    · rename_i q
      cases e
      obtain ⟨rfl, rfl, rfl, q1, q2, q3, q4⟩ := q
      refine ⟨fun r => .two q1 (g.gl q2) (odd_of q3).1 r, fun s z => ?_⟩
      cases z
      rw [sizeLine_eq]
      omega
    · cases e
  · cases e
theorem cH_ok {X : Cx} {C : Cc} {W : WX} (g : Good X C W) {n : Str} : ∀ {hs : List ExceptHandler} {l : List Cl}, cH C n hs = some l → HdOk X n C.exs hs l ∧ ∀ p ∈ l, ∀ s, p.2 = some s → s.length ≤ sizeLine
  | [], l, e => by cases e; exact ⟨.nil, fun _ z => nomatch z⟩
  | h :: hs, l, e => by
    unfold cH at e
    obtain ⟨p, e1, e⟩ := bindO e
    obtain ⟨l1, e2, e⟩ := bindO e
    cases e
    have a := cH1_ok g e1
    have b := cH_ok g e2
    refine ⟨a.1 b.1, fun q hq => ?_⟩
    rcases List.mem_cons.mp hq with rfl | hq
    · exact a.2
    · exact b.2 q hq
/-- name = zip(a, b); return [.. for .. in name] -/
noncomputable def cZr (n : Nat) (C : Cc) (st : Stmt) (rest : List Stmt) : Option Sx := match st, rest with
  | .Assign [.Name y _] (.Call (.Name z _) [a, b] [] _) _, [.Return (some (.ListComp elt [⟨.Tuple elts kk tp, .Name y2 _, ifs, 0⟩] scope _)) _] =>
    match ixIn y C.N with
    | some i => if y2 = y ∧ z = ("zip" : Str) ∧ z ∈ C.blt ∧ glB C z = true ∧ lclB C y = true ∧ oddB y = false ∧ noStar a = true ∧ noStar b = true then do
        let ms ← cEs n C false [a, b]
        let T ← cG n (blkCc C scope) (.Tuple elts kk tp)
        let t ← cIf n (blkCc C scope) ifs
        let me ← cE n (blkCc C scope) true elt
        if blkC C.N C.sc scope (ownOf C.N scope) && T.2.all (fun i => decide (i ∈ (ownOf C.N scope).map (·.2))) then some (sRet (mCompZ (iCall iZipD ms) T.1 t me.1 ((ownOf C.N scope).map (·.2)) i)) else none
      else none
    | none => none
  | _, _ => none
theorem cZr_ok {X : Cx} {C : Cc} {W : WX} {A0 : List Addr} {H0 : Hp} {rf : Bool} (g : Good X C W) {n : Nat} {st : Stmt} {rest : List Stmt} {s : Sx} (h : cZr n C st rest = some s) : PSs X (st :: rest) (tvS (gm X) W A0 H0 rf s) := by
  have ie := soundE n
  unfold cZr at h
  split at h
  · split at h
    · rename_i i hi
      split at h
      · rename_i q
        obtain ⟨rfl, rfl, q3, q4, q5, q6, q7, q8⟩ := q
        obtain ⟨ms, h1, h⟩ := bindO h
        obtain ⟨T, h2, h⟩ := bindO h
        obtain ⟨t, h3, h⟩ := bindO h
        obtain ⟨me, h4, h⟩ := bindO h
        split at h
        · rename_i hok
          cases h
          simp only [Bool.and_eq_true, List.all_eq_true, decide_eq_true_eq] at hok
          have ok := blkOk_by hok.1
          rw [← g.sc] at ok
          have okN := g.N
          have od := odd_of q6
          exact soundS_zr (fr := me.2) g.calm g.nodup (g.ix hi) (by rw [g.sc]; exact lcl_of q5) od.1 od.2 (g.gl q4) (g.blt _ q3) q7 q8 (ie.es g h1).1 (by rw [okN]; exact ok) hok.2 (fun s H Cd cl fp => ie.g (g.blk s H _ Cd cl fp) h2)
            (fun s H Cd cl fp => ie.ifs (g.blk s H _ Cd cl fp) h3) (fun s H Cd cl fp => ie.e (g.blk s H _ Cd cl fp) h4)
        · cases h
      · cases h
    · cases h
  · cases h
/-- x.pop(), x.pop(k) -/
noncomputable def popE (n : Nat) (C : Cc) : Expr → Option (Nat × Option M)
  | .Call (.Attribute (.Name x _) at' apos) [] [] cpos => (match ixIn x C.N with
    | some j => if at' = ("pop" : Str) ∧ visB C x = true ∧ oddB x = false ∧ (apos.endLine == cpos.line) = true then some (j, none) else none
    | none => none)
  | .Call (.Attribute (.Name x _) at' apos) [k] [] cpos => (match ixIn x C.N with
    | some j => if at' = ("pop" : Str) ∧ visB C x = true ∧ oddB x = false ∧ (apos.endLine == cpos.line) = true ∧ noStar k = true then (do
      let m ← cE n C false k
      some (j, some m.1)) else none
    | none => none)
  | _ => none
theorem popE_ok {X : Cx} {C : Cc} {W : WX} (g : Good X C W) {n : Nat} {e : Expr} {j : Nat} {k : Option M} (h : popE n C e = some (j, k)) : PopE X W j k e ∧ isCall e = true ∧ noStar e = true := by
  have ie := soundE n
  unfold popE at h
  split at h
  · split at h
    · rename_i i hi
      split at h
      · rename_i q
        obtain ⟨rfl, q2, q3, q4⟩ := q
        cases h
        have od := odd_of q3
        exact ⟨.last (g.ix hi) (g.vis q2) od.1 od.2 q4, rfl, rfl⟩
      · cases h
    · cases h
  · split at h
    · rename_i i hi
      split at h
      · rename_i q
        obtain ⟨rfl, q2, q3, q4, q5⟩ := q
        obtain ⟨m, h1, h⟩ := bindO h
        cases h
        have od := odd_of q3
        exact ⟨.at' (g.ix hi) (g.vis q2) od.1 od.2 q4 q5 (ie.e g h1), rfl, rfl⟩
      · cases h
    · cases h
  · cases h
/-- statements that pop -/
noncomputable def cPop (n : Nat) (C : Cc) : Stmt → Option Sx
  | .Expr (.Call (.Attribute (.Name x _) at' apos) [e] [] cpos) _ => if at' = ("append" : Str) ∧ visB C x = true ∧ oddB x = false ∧ (apos.endLine == cpos.line) = true then (match ixIn x C.N, popE n C e with
    | some i, some (j, k) => some (sAppPop i j k)
    | _, _ => none) else (match popE n C (.Call (.Attribute (.Name x cpos) at' apos) [e] [] cpos) with
    | some (j, k) => some (sPop none j k)
    | none => none)
  | .Expr (.Call (.Attribute (.Name x _) at' apos) [] [] cpos) _ => (match popE n C (.Call (.Attribute (.Name x cpos) at' apos) [] [] cpos) with
    | some (j, k) => some (sPop none j k)
    | none => none)
  | .Assign [tg] e _ => (match popE n C e with
    | some (j, k) => (if noStar tg = true then (do
      let T ← cG n C tg
      some (sPop (some T.1) j k)) else none)
    | none => none)
  | _ => none
theorem call_notup {e : Expr} (h : isCall e = true) : isTupE e = false := by cases e <;> first | rfl | cases h
theorem popE_pos {n : Nat} {C : Cc} {x at' : Str} {p p' apos cpos : Pos} {es : List Expr} : popE n C (.Call (.Attribute (.Name x p) at' apos) es [] cpos) = popE n C (.Call (.Attribute (.Name x p') at' apos) es [] cpos) := by
  cases es with
  | nil => rfl
  | cons e es => cases es <;> rfl
theorem cPop_ok {X : Cx} {C : Cc} {W : WX} {A0 : List Addr} {H0 : Hp} {rf : Bool} (g : Good X C W) {n : Nat} {st : Stmt} {s : Sx} (h : cPop n C st = some s) : PS X st (tvS (gm X) W A0 H0 rf s) := by
  have ie := soundE n
  unfold cPop at h
  split at h
  · rename_i x p1 at' apos e cpos pos
    split at h
    · rename_i q
      obtain ⟨rfl, q2, q3, q4⟩ := q
      have od := odd_of q3
      split at h
      · rename_i i j k hi hp
        cases h
        obtain ⟨a, _, c⟩ := popE_ok g hp
        exact soundS_appPop (g.ix hi) (g.vis q2) od.1 od.2 c q4 a
      · cases h
    · split at h
      · rename_i j k hp
        cases h
        rw [popE_pos (p' := p1)] at hp
        obtain ⟨a, b, _⟩ := popE_ok g hp
        exact soundS_popX (noSwap (call_nocomp b)) a
      · cases h
  · rename_i x p1 at' apos cpos pos
    split at h
    · rename_i j k hp
      cases h
      rw [popE_pos (p' := p1)] at hp
      obtain ⟨a, b, _⟩ := popE_ok g hp
      exact soundS_popX (noSwap (call_nocomp b)) a
    · cases h
  · split at h
    · rename_i j k hp
      split at h
      · rename_i hn
        obtain ⟨T, h1, h⟩ := bindO h
        cases h
        obtain ⟨a, b, _⟩ := popE_ok g hp
        exact soundS_popS (ie.g g h1) (noSwap1 (call_nocomp b)) (noSwapped (call_notup b)) hn a
      · cases h
    · cases h
  · cases h
/-- the items of a row that a handler tells -/
def cIt (C : Cc) (n : Str) : List Expr → Option (List (Option Str))
  | [] => some []
  | .Call (.Name i _) [.Name n1 _, .Name z _] [] _ :: es => if i = ("isinstance" : Str) ∧ n1 = n ∧ z ∈ C.exs ∧ glB C z = true ∧ oddB z = false then (cIt C n es).map (some z :: ·) else none
  | .Attribute (.Name n1 _) at' _ :: es => if n1 = n ∧ at' = ("at" : Str) then (cIt C n es).map (none :: ·) else none
  | _ => none
theorem cIt_ok {X : Cx} {C : Cc} {W : WX} (g : Good X C W) {n : Str} : ∀ {es : List Expr} {ws : List (Option Str)}, cIt C n es = some ws → ItOk X n C.exs es ws := by
  intro es
  induction es with
  | nil => intro ws h; cases h; exact .nil
  | cons e es ih =>
    intro ws h
    unfold cIt at h
    split at h
    · cases ‹_ :: _ = []›
    · rename_i q
      injection q with q1 q2
      subst q1 q2
      split at h
      · rename_i hq
        obtain ⟨rfl, rfl, h3, h4, h5⟩ := hq
        obtain ⟨ws', e1, rfl⟩ := Option.map_eq_some_iff.mp h
        exact .is h3 (g.gl h4) (odd_of h5).1 (ih e1)
      · cases h
    · rename_i q
      injection q with q1 q2
      subst q1 q2
      split at h
      · rename_i hq
        obtain ⟨rfl, rfl⟩ := hq
        obtain ⟨ws', e1, rfl⟩ := Option.map_eq_some_iff.mp h
        exact .at' (ih e1)
      · cases h
    · cases h
/-- the one clause that tells a row -/
def cRow (C : Cc) (n : Str) : List ExceptHandler → Option (Str × List (Option Str))
  | [.ExceptHandler (some (.Name y _)) (some n1) [.Return (some (.Tuple es _ _)) _] _] => if n1 = n ∧ (y = ("CountError" : Str) ∨ y ∈ C.exs) ∧ glB C y = true ∧ oddB y = false ∧ glB C ("isinstance" : Str) = true ∧ ("isinstance" : Str) ∈ C.blt then (match cIt C n es with
    | some ws => if ws.length ≤ 1000 then some (y, ws) else none
    | none => none) else none
  | _ => none
theorem cRow_ok {C : Cc} {n : Str} {hs : List ExceptHandler} {y : Str} {ws : List (Option Str)} (h : cRow C n hs = some (y, ws)) : ∃ np es k p5 p3 hp, hs = [.ExceptHandler (some (.Name y np)) (some n) [.Return (some (.Tuple es k p5)) p3] hp] ∧ (y = ("CountError" : Str) ∨ y ∈ C.exs) ∧ glB C y = true ∧ oddB y = false ∧ glB C ("isinstance" : Str) = true ∧ ("isinstance" : Str) ∈ C.blt ∧ cIt C n es = some ws ∧ ws.length ≤ 1000 := by
  unfold cRow at h
  split at h
  · split at h
    · rename_i q
      obtain ⟨rfl, q2, q3, q4, q5, q6⟩ := q
      split at h
      · rename_i ws' e
        split at h
        · rename_i wl
          cases h
          exact ⟨_, _, _, _, _, _, rfl, q2, q3, q4, q5, q6, e, wl⟩
        · cases h
      · cases h
    · cases h
  · cases h
def hdName : ExceptHandler → Option Str
  | .ExceptHandler _ n _ _ => n
noncomputable section
mutual
def cS : Nat → Cc → Kc → Stmt → Option Sx
  | 0, _, _, _ => none
  | n + 1, C, K, st => match K.fzs.lookup (stLine st) with
    | some is => (cS1 n C K st).map (sFz is)
    | none => cS1 n C K st
def cS1 : Nat → Cc → Kc → Stmt → Option Sx
  | 0, _, _, _ => none
  | n + 1, C, K, st => match cPop n C st with
    | some s => some s
    | none => match st with
    | .Pass _ => some sSkip
    | .Break _ => some fun ρ => .bk ρ
    | .Continue _ => some fun ρ => .ct ρ
    | .Raise (some (.Call (.Name x _) [a] [] _)) none _ => if x ∈ C.exs ∧ glB C x = true ∧ oddB x = false ∧ noStar a = true then (do
        let m ← cE n C true a
        some (sRs x m.1)) else some sNo
    | .Raise .. => some sNo
    | .Return none _ => some (sRet (mC .none))
    | .Return (some (.Name x p1)) _ => (match ixIn x C.N with
      | some i => if visB C x && !oddB x && decide (C.fz ≠ some i) then some (sRetV K.rf i) else none
      | none => none)
    | .Return (some e) _ => do
      let m ← cE n C true e
      if !K.rf || m.2 then some (sRet m.1) else none
    | .If c a b _ => do
      let t ← cT n C c
      let sa ← cSs n C K a
      let sb ← cSs n C K b
      some (sIf (match K.lds.lookup (stLine st) with
        | some is => tLend is t
        | none => t) sa sb)
    | .While c body [] _ => do
      let t ← cT n C c
      let sb ← cSs n C K body
      some (sWhile t sb)
    | .For tg iter body [] _ => do
      let it ← cI n C true tg iter
      let T ← cG n C tg
      let sb ← cSs n C K body
      if isSetE iter then none else some (sFor it T.1 sb)
    | .Expr (.Call (.Attribute (.Name x _) at' apos) [e] [] cpos) _ => (match ixIn x C.N with
      | some i => if visB C x && !oddB x && noStar e && (apos.endLine == cpos.line) then (do
        let m ← cE n C true e
        if at' = ("append" : Str) then some (sApp i m.1) else if at' = ("extend" : Str) then some (sExt i m.1) else if at' = ("remove" : Str) then some (sRem i m.1) else none) else none
      | none => none)
    | .Expr e _ => if isCall e then (do
        let m ← cE n C false e
        some (sExpr m.1)) else none
    | .Assign [.Name y py] (.ListComp elt [⟨tg, iter, ifs, 0⟩] scope p2) pos => (match ixIn y C.N with
      | some i => if compOk C i y py pos.line p2 scope then (do
        let m ← cLx n C elt tg iter ifs scope
        some (if i ∈ K.mv then sOwn i m else sSet (tNm i) m)) else if celB C y = true ∧ locB C y = true then (do
        let m ← cE n C true (.ListComp elt [⟨tg, iter, ifs, 0⟩] scope p2)
        if i ∈ K.mv then (if m.2 then some (sOwn i m.1) else none) else some (sSet (tNm i) m.1)) else none
      | none => none)
    | .Assign [.Name y _] e _ => (match ixIn y C.N with
      | some i => if isComp e then none else if locB C y && !isTupE e then (do
        let m ← cE n C true e
        if i ∈ K.mv then (if m.2 then some (sOwn i m.1) else none) else (match K.lds.lookup (stLine st) with
          | some is => if m.2 then some (sLet is i m.1) else none
          | none => some (sSet (tNm i) m.1))) else (if locB C y && isTupE e then (do
        let m ← cE n C true e
        some (sSet (tNm i) m.1)) else none)
      | none => none)
    | .Assign [.Tuple [.Name x px, .Name y py] _ _] (.Tuple [a, b] _ _) _ => (match ixIn x C.N, ixIn y C.N with
      | some i, some j => if swOk C x y px py a b && decide (i ≠ j) then (do
        let ma ← cE n C true a
        let mb ← cE n C true b
        some (sPar i j ma.1 mb.1)) else none
      | _, _ => none)
    | .Assign [.Tuple [.Subscript (.Name x _) k1 _, .Subscript (.Name y _) k2 _] _ _] (.Tuple [a, b] kt2 pt2) _ => (match ixIn x C.N with
      | some i => if visB C x && !oddB x && decide (x = y) && !isSlice k1 && !isSlice k2 then (do
        let m1 ← cE n C false k1
        let m2 ← cE n C false k2
        let m ← cE n C true (.Tuple [a, b] kt2 pt2)
        some (sPut2 i m1.1 m2.1 m.1)) else none
      | none => none)
    | .Assign [.Subscript (.Name x _) k _] e _ => (match ixIn x C.N with
      | some i => if visB C x && !oddB x && !isSlice k && !isComp e then (do
        let mk ← cE n C false k
        let m ← cE n C true e
        some (if i ∈ K.dcs then sPutD i mk.1 m.1 else sPut i mk.1 m.1)) else none
      | none => none)
    | .Assign [tg] e _ => if isComp e || isTupE e || !noStar tg then none else do
      let T ← cG n C tg
      let m ← cE n C true e
      some (sSet T.1 m.1)
    | .Try body (h0 :: hs) [] [] _ => (match hdName h0 with
      | some nm => (match ixIn nm C.N with
        | some i => if C.tr = true ∧ C.exs ≠ [] ∧ lclB C nm = true ∧ oddB nm = false then (match cH C nm (h0 :: hs) with
          | some l => (do
            let sb ← cSs n C K body
            some (sTry sb C.exs l))
          | none => (match cRow C nm (h0 :: hs) with
            | some p => (do
              let sb ← cSs n C K body
              some (sTryR sb C.exs p.1 p.2))
            | none => none)) else none
        | none => none)
      | none => none)
    | _ => none
def cSs : Nat → Cc → Kc → List Stmt → Option Sx
  | 0, _, _, _ => none
  | _ + 1, _, _, [] => some sSkip
  | n + 1, C, K, st :: rest => match cZr n C st rest with
    | some s => some s
    | none => do
      let a ← cS n C K st
      let b ← cSs n C K rest
      some (sSeq a b)
end
end
theorem name_noswapped {y : Str} {p : Pos} {e : Expr} {env : Env} : swappedStores [.Name y p] e env = pure none := by cases e <;> rfl
theorem sub_noswapped {a b : Expr} {p : Pos} {e : Expr} {env : Env} : swappedStores [.Subscript a b p] e env = pure none := by cases e <;> rfl
structure SoundS (n : Nat) : Prop where
  s : ∀ {C K X W A0 H0 st s}, Good X C W → cS n C K st = some s → PS X st (tvS (gm X) W A0 H0 K.rf s)
  s1 : ∀ {C K X W A0 H0 st s}, Good X C W → cS1 n C K st = some s → PS X st (tvS (gm X) W A0 H0 K.rf s)
  ss : ∀ {C K X W A0 H0 st s}, Good X C W → cSs n C K st = some s → PSs X st (tvS (gm X) W A0 H0 K.rf s)
theorem compSw {X : Cx} {C : Cc} {W : WX} (g : Good X C W) {i : Nat} {y : Str} {py p2 : Pos} {l : Nat} {scope : Scope} {elt : Expr} {gs : List Comprehension} (h : compOk C i y py l p2 scope = true) :
    swapsWith (.ListComp elt gs scope p2) (some (.Name y py)) l X.env = pure true ∧ X.N[i]? = some y ∧ X.env.scope.names.lookup y = some .local := by
  unfold compOk at h
  simp only [Bool.and_eq_true, Bool.not_eq_true', decide_eq_true_eq] at h
  obtain ⟨⟨⟨⟨h1, h2⟩, h3⟩, h4⟩, h5⟩ := h
  have hl : X.env.scope.names.lookup y = some .local := by rw [g.sc]; exact lcl_of h2
  exact ⟨sw_true (by rw [g.sc]; exact fun_of h1) hl h3 h4, g.ix h5, hl⟩
theorem soundS : ∀ n, SoundS n
  | 0 => by constructor <;> intros <;> simp_all [cS, cS1, cSs]
  | n + 1 => by
    have ih := soundS n
    have ie := soundE n
    refine ⟨?_, ?_, ?_⟩
    · intro C K X W A0 H0 st s g h
      unfold cS at h
      split at h
      · rename_i is _
        cases e : cS1 n C K st with
        | none => rw [e] at h; cases h
        | some s' =>
          rw [e] at h
          cases h
          exact psBy (ih.s1 (A0 := A0) (H0 := H0) g e) fun D sg H q => fz_in q
      · exact ih.s1 g h
    · intro C K X W A0 H0 st s g h
      unfold cS1 at h
      split at h
      · rename_i s' hz
        cases h
        exact cPop_ok g hz
      split at h
      · cases h; exact soundS_pass
      · cases h; exact soundS_brk
      · cases h; exact soundS_cont
      · split at h
        · rename_i q
          obtain ⟨q1, q2, q3, q4⟩ := q
          obtain ⟨m, h1, h⟩ := bindO h
          cases h
          have he := ie.e (kp := true) g h1
          exact soundS_raise g q1 (g.gl q2) (odd_of q3).1 (sound_cons q4 he sound_nil) (star_ne q4)
        · cases h; exact soundS_no
      · cases h; exact soundS_no
      · cases h; exact soundS_retN
      · split at h
        · rename_i i hi
          split at h
          · rename_i hv
            cases h
            simp only [Bool.and_eq_true, Bool.not_eq_true'] at hv
            have od := odd_of hv.1.2
            exact soundS_retV (g.ix hi) (g.vis hv.1.1) od.1 od.2
          · cases h
        · cases h
      · obtain ⟨m, h1, h⟩ := bindO h
        split at h
        · rename_i hf
          cases h
          refine soundS_ret (fun z => ?_) (ie.e g h1)
          rw [z] at hf
          simpa using hf
        · cases h
      · obtain ⟨t, h1, h⟩ := bindO h
        obtain ⟨sa, h2, h⟩ := bindO h
        obtain ⟨sb, h3, h⟩ := bindO h
        cases h
        refine soundS_if ?_ (ih.ss g h2) (ih.ss g h3)
        split
        · exact lendT (ie.t g h1).1
        · exact (ie.t g h1).1
      · obtain ⟨t, h1, h⟩ := bindO h
        obtain ⟨sb, h3, h⟩ := bindO h
        cases h
        exact soundS_while g.own (ie.t g h1).1 (ih.ss g h3)
      · obtain ⟨it, h1, h⟩ := bindO h
        obtain ⟨T, h2, h⟩ := bindO h
        obtain ⟨sb, h3, h⟩ := bindO h
        split at h
        · cases h
        · rename_i hs
          cases h
          exact soundS_for g.own g.calm (ie.i g h1) (ie.g g h2) (ih.ss g h3) (notSet (by simpa using hs))
      · split at h
        · rename_i i hi
          split at h
          · rename_i hv
            simp only [Bool.and_eq_true, Bool.not_eq_true'] at hv
            obtain ⟨⟨⟨v1, v2⟩, v3⟩, v4⟩ := hv
            have od := odd_of v2
            obtain ⟨m, h1, h⟩ := bindO h
            split at h
            · rename_i ea
              cases h
              subst ea
              exact soundS_app (g.ix hi) (g.vis v1) od.1 od.2 v3 v4 (ie.e g h1)
            · split at h
              · rename_i ea
                cases h
                subst ea
                exact soundS_ext (g.ix hi) (g.vis v1) od.1 od.2 v3 v4 (ie.e g h1)
              · split at h
                · rename_i ea
                  cases h
                  subst ea
                  exact soundS_rem g.calm g.tk (g.ix hi) (g.vis v1) od.1 od.2 v3 v4 (kp_off (ie.e g h1))
                · cases h
          · cases h
        · cases h
      · split at h
        · rename_i hcl
          obtain ⟨m, h1, h⟩ := bindO h
          cases h
          exact soundS_expr (noSwap (call_nocomp hcl)) (ie.e g h1)
        · cases h
      · split at h
        · rename_i i hi
          split at h
          · rename_i hk
            obtain ⟨m, h1, h⟩ := bindO h
            unfold cLx at h1
            split at h1
            · rename_i m' hm
              cases h1
              unfold cLcI at hm
              split at hm
              · split at hm
                · rename_i q
                  obtain ⟨q1, q2, q3, rfl⟩ := q
                  split at hm
                  · rename_i j hj
                    obtain ⟨T, g2, hm⟩ := bindO hm
                    obtain ⟨t, g3, hm⟩ := bindO hm
                    obtain ⟨me, g4, hm⟩ := bindO hm
                    split at hm
                    · rename_i hok
                      cases hm
                      simp only [Bool.and_eq_true, List.all_eq_true, decide_eq_true_eq] at hok
                      obtain ⟨w1, w2, w3⟩ := compSw g hk
                      have ok := blkOk_by hok.1
                      rw [← g.sc] at ok
                      have okN := g.N
                      have od := odd_of q1
                      split at h
                      · cases h
                        exact soundS_lcI (fr := me.2) g.calm g.nodup w2 w3 w1 (by rw [okN]; exact ok) hok.2 (pe_var (g.ix hj) (g.vis q2) od.1 od.2) rfl q3 (fun s H Cd cl fp => ie.g (g.blk s H _ Cd cl fp) g2) (fun s H Cd cl fp => ie.ifs (g.blk s H _ Cd cl fp) g3) (fun s H Cd cl fp => ie.e (g.blk s H _ Cd cl fp) g4)
                      · cases h
                        exact soundS_lcIS (fr := me.2) g.calm g.nodup w2 w3 w1 (by rw [okN]; exact ok) hok.2 (pe_var (g.ix hj) (g.vis q2) od.1 od.2) rfl q3 (fun s H Cd cl fp => ie.g (g.blk s H _ Cd cl fp) g2) (fun s H Cd cl fp => ie.ifs (g.blk s H _ Cd cl fp) g3) (fun s H Cd cl fp => ie.e (g.blk s H _ Cd cl fp) g4)
                    · cases hm
                  · cases hm
                · cases hm
              · cases hm
            · unfold cLc at h1
              obtain ⟨it, g1, h1⟩ := bindO h1
              obtain ⟨T, g2, h1⟩ := bindO h1
              obtain ⟨t, g3, h1⟩ := bindO h1
              obtain ⟨me, g4, h1⟩ := bindO h1
              split at h1
              · rename_i hok
                cases h1
                simp only [Bool.and_eq_true, Bool.not_eq_true', List.all_eq_true, decide_eq_true_eq] at hok
                obtain ⟨w1, w2, w3⟩ := compSw g hk
                have ok := blkOk_by hok.1.1
                rw [← g.sc] at ok
                have okN := g.N
                split at h
                · cases h
                  exact soundS_lc (fr := me.2) g.calm g.nodup w2 w3 w1 (by rw [okN]; exact ok) hok.1.2 (ie.i g g1) (fun s H Cd cl fp => ie.g (g.blk s H _ Cd cl fp) g2) (fun s H Cd cl fp => ie.ifs (g.blk s H _ Cd cl fp) g3) (fun s H Cd cl fp => ie.e (g.blk s H _ Cd cl fp) g4) (notSet hok.2)
                · cases h
                  exact soundS_lcS (fr := me.2) g.calm g.nodup w2 w3 w1 (by rw [okN]; exact ok) hok.1.2 (ie.i g g1) (fun s H Cd cl fp => ie.g (g.blk s H _ Cd cl fp) g2) (fun s H Cd cl fp => ie.ifs (g.blk s H _ Cd cl fp) g3) (fun s H Cd cl fp => ie.e (g.blk s H _ Cd cl fp) g4) (notSet hok.2)
              · cases h1
          · split at h
            · rename_i hcl
              have l := g.loc hcl.2
              obtain ⟨m, h1, h⟩ := bindO h
              split at h
              · split at h
                · rename_i hf
                  cases h
                  have q := ie.e (kp := true) g h1
                  rw [hf] at q
                  exact soundS_own g.nodup (g.ix hi) l.1 l.2 q (cel_sw g hcl.1)
                · cases h
              · cases h
                exact soundS_set (ie.e g h1) (soundG_nm g.nodup (g.ix hi) l.1 l.2) (cel_sw1 g hcl.1) name_noswapped rfl
            · cases h
        · cases h
      · split at h
        · rename_i i hi
          split at h
          · cases h
          rename_i hcp
          split at h
          · rename_i hv
            simp only [Bool.and_eq_true, Bool.not_eq_true'] at hv
            have l := g.loc hv.1
            obtain ⟨m, h1, h⟩ := bindO h
            split at h
            · split at h
              · rename_i hf
                cases h
                have q := ie.e (kp := true) g h1
                rw [hf] at q
                exact soundS_own g.nodup (g.ix hi) l.1 l.2 q (noSwap (by simpa using hcp))
              · cases h
            · split at h
              · split at h
                · rename_i hf
                  cases h
                  have q := ie.e (kp := true) g h1
                  rw [hf] at q
                  exact soundS_let g.nodup (g.ix hi) l.1 l.2 q (noSwap (by simpa using hcp))
                · cases h
              · cases h
                exact soundS_set (ie.e g h1) (soundG_nm g.nodup (g.ix hi) l.1 l.2) (noSwap1 (by simpa using hcp)) name_noswapped rfl
          · split at h
            · rename_i hv
              simp only [Bool.and_eq_true] at hv
              have l := g.loc hv.1
              obtain ⟨m, h1, h⟩ := bindO h
              cases h
              exact soundS_set (ie.e g h1) (soundG_nm g.nodup (g.ix hi) l.1 l.2) (noSwap1 (by simpa using hcp)) name_noswapped rfl
            · cases h
        · cases h
      · split at h
        · rename_i i j hi hj
          split at h
          · rename_i hk
            simp only [Bool.and_eq_true, decide_eq_true_eq] at hk
            obtain ⟨ma, h1, h⟩ := bindO h
            obtain ⟨mb, h2, h⟩ := bindO h
            cases h
            have hk1 := hk.1
            unfold swOk at hk1
            simp only [Bool.and_eq_true, Bool.not_eq_true', decide_eq_true_eq] at hk1
            obtain ⟨⟨⟨⟨⟨⟨⟨⟨k1, k2⟩, k3⟩, k4⟩, k5⟩, k6⟩, k7⟩, k8⟩, k9⟩ := hk1
            refine soundS_par g.calm g.nodup (g.ix hi) (g.ix hj) hk.2 (by rw [g.sc]; exact lcl_of k2) (by rw [g.sc]; exact lcl_of k3) ?_ (sw_of g hk.1)
            exact sound_cons k6 (ie.e g h1) (sound_cons k7 (ie.e g h2) sound_nil)
          · cases h
        · cases h
      · split at h
        · rename_i i hi
          split at h
          · rename_i hv
            simp only [Bool.and_eq_true, Bool.not_eq_true', decide_eq_true_eq] at hv
            obtain ⟨⟨⟨⟨v1, v2⟩, v3⟩, v4⟩, v5⟩ := hv
            subst v3
            have od := odd_of v2
            obtain ⟨m1, h1, h⟩ := bindO h
            obtain ⟨m2, h2, h⟩ := bindO h
            obtain ⟨m, h3, h⟩ := bindO h
            cases h
            exact soundS_put2 g.calm (g.ix hi) (g.vis v1) od.1 od.2 rfl sw_none (subAsg v4) (subAsg v5) (ie.e g h3) (fr_off (ie.e g h1)) (fr_off (ie.e g h2))
          · cases h
        · cases h
      · split at h
        · rename_i i hi
          split at h
          · rename_i hv
            simp only [Bool.and_eq_true, Bool.not_eq_true'] at hv
            obtain ⟨⟨⟨v1, v2⟩, v3⟩, v4⟩ := hv
            have od := odd_of v2
            obtain ⟨mk, h1, h⟩ := bindO h
            obtain ⟨m, h2, h⟩ := bindO h
            split at h
            · cases h
              exact soundS_putD g.un (g.ix hi) (g.vis v1) od.1 od.2 (subAsg v3) (noSwap1 v4) (ie.e g h2) (fr_off (ie.e g h1))
            · cases h
              exact soundS_put (g.ix hi) (g.vis v1) od.1 od.2 (subAsg v3) (noSwap1 v4) (ie.e g h2) (fr_off (ie.e g h1))
          · cases h
        · cases h
      · split at h
        · cases h
        · rename_i hn
          simp only [Bool.or_eq_true, not_or, Bool.not_eq_true', Bool.not_eq_true] at hn
          obtain ⟨T, h1, h⟩ := bindO h
          obtain ⟨m, h2, h⟩ := bindO h
          cases h
          exact soundS_set (ie.e g h2) (ie.g g h1) (noSwap1 hn.1.1) (noSwapped hn.1.2) (by simpa using hn.2)
      · split at h
        · rename_i nm hnm
          split at h
          · rename_i i hi
            split at h
            · rename_i q
              obtain ⟨q1, q2, q3, q4⟩ := q
              have od := odd_of q4
              split at h
              rotate_left
              · split at h
                · rename_i p hp
                  obtain ⟨sb, h2, h⟩ := bindO h
                  cases h
                  obtain ⟨y, ws⟩ := p
                  obtain ⟨np, es, k, p5, p3, hp', e0, z2, z3, z4, z5, z6, z7, z8⟩ := cRow_ok hp
                  injection e0 with e1 e2
                  subst e1 e2
                  exact soundS_tryR g q1 q2 (g.ix hi) (by show X.env.scope.names.lookup _ = _; rw [g.sc]; exact lcl_of q3) od.1 od.2 z2 (g.gl z3) (odd_of z4).1 (g.gl z5) (g.blt _ z6) (cIt_ok g z7) z8 fun W' pn xe g' => ih.ss (X := X.tr pn xe) g' h2
                · cases h
              rename_i l h1
              obtain ⟨sb, h2, h⟩ := bindO h
              cases h
              have ho := cH_ok g h1
              exact soundS_try g q1 q2 (g.ix hi) (by show X.env.scope.names.lookup nm = _; rw [g.sc]; exact lcl_of q3) od.1 od.2 ho.1 ho.2 fun W' pn xe g' => ih.ss (X := X.tr pn xe) g' h2
            · cases h
          · cases h
        · cases h
      · cases h
    · intro C K X W A0 H0 st s g h
      cases st with
      | nil => simp only [cSs, Option.some.injEq] at h; subst h; exact soundS_nil
      | cons st rest =>
        unfold cSs at h
        split at h
        · rename_i hz
          cases h
          exact cZr_ok g hz
        obtain ⟨a, h1, h⟩ := bindO h
        obtain ⟨b, h2, h⟩ := bindO h
        cases h
        exact soundS_cons (ih.s g h1) (ih.ss g h2)
end Sm

/-! A def's promise from its compiled body. -/
namespace Sm
open PySem PySem.Spec PyProof.Rows L2

def outR : Out → Rs PyData
  | .rt d => .ok d
  | .nx _ => .ok .none
  | .xc _ c d => .exc c d
  | _ => .no
def rho0 (n : Nat) (cs : List Cell) : Rho := cs ++ List.replicate (n - cs.length) .un
def runS (s : Sx) (n : Nat) (ds : List PyData) : Rs PyData := outR (s (rho0 n (ds.map .sh)))
def runF (s : Sx) (n : Nat) (a : Addr) (ns : List Int) : Rs PyData := outR (s (rho0 n [.fz a ns]))
structure Tab (P : Program) (w : World) (K : PySem.W.Frag) (mg : Str → Option Value) (base : Heap) (C : Cc) : Prop where
  fns : ∀ x I, C.fns.lookup x = some I → ∃ f fd ps k, FnG P w K mg base k f fd ps (spOf ⟨K, mg⟩ I) ∧ k ≤ C.lev ∧ mg x = some (.ref f) ∧ PySem.W.keepIn K (.ref f) = true ∧ Binds K fd ps []
  blt : ∀ x ∈ C.blt, mg x = none
  fzf : ∀ x I, C.fzf.lookup x = some I → ∃ f fd ps k, FnG P w K mg base k f fd ps (spFz ⟨K, mg⟩ I.1 I.2) ∧ k ≤ C.lev ∧ mg x = some (.ref f) ∧ PySem.W.keepIn K (.ref f) = true ∧ Binds K fd ps []
  gls : ∀ x d, C.gls.lookup x = some d → ∃ u v, mg x = some u ∧ RelV v u ∧ ∀ H, Rp H v d
  exs : C.exs = [] ∨ (1 ≤ C.lev ∧ ExG P w K mg base C.exs)
  gcd : C.gcd = true → mg "gcd" = some (.builtin "math.gcd")
section
variable {P : Program} {w : World} {K : PySem.W.Frag} {mg : Str → Option Value} {base : Heap} {k : Nat} {f : Addr} {name qual : Str} {params : Arguments} {body : List Stmt} {scope : Scope} {dV kV doc pm cdv ct oc : Value} {an od : Option Addr}
  {osl : Array (Option Value)} {ps : List Str} {C : Cc} {Kd : Kc} {s : Sx} {n : Nat}
theorem start_get {N : List Str} {vs : List V} {i : Nat} {v : V} (h : vs[i]? = some v) : (L2.start N vs)[i]? = some (some v) := by
  unfold L2.start
  rw [List.getElem?_append_left (by
    have := (List.getElem?_eq_some_iff.mp h).1
    simpa using this), List.getElem?_map, h]
  rfl
theorem rho0_get {m : Nat} {cs : List Cell} {i : Nat} {c : Cell} (h : (rho0 m cs)[i]? = some c) (hc : c ≠ .un) : cs[i]? = some c := by
  unfold rho0 at h
  by_cases l : i < cs.length
  · rwa [List.getElem?_append_left l] at h
  · rw [List.getElem?_append_right (by omega), List.getElem?_replicate] at h
    split at h
    · cases h; exact absurd rfl hc
    · cases h
/-- a def's facts at its entry -/
theorem good_of {A : Around} {fr : List Env} {st : Shared} {H : Hp} {E : XK} (T : Tab P w K mg base C) (hsc : C.sc = scope) (nd : C.N.Nodup) (hr : Room C.lev (A.deeper (envOfC qual scope st.heap.objs.size f cdv))) (hg : A.guards = some []) :
    Good (cxOf (L2.CX P w) P w K mg base C.N qual scope f cdv A fr st H E) C (fun c d _ H' => E c d H') :=
  ⟨hsc.symm, rfl, nd, rfl, hr, hg, fun _ _ => rfl, takes_of rfl rfl rfl rfl, passes_of rfl, T.fns, T.blt, T.fzf, T.gls, T.exs, fun _ => ⟨rfl, rfl⟩, T.gcd⟩
/-- the end of a body -/
theorem post_of {A0 : List Addr} {H : Hp} {E : XK} {Z : VK} {rf : Bool} {o : Out} (ho : Oc ⟨K, mg⟩ A0 H E (fun d => ∀ v H', Same H H' → Res A0 true rf H H' v d → Z v H') (outR o)) :
    Post ⟨K, mg⟩ (fun c d _ H' => E c d H') A0 H rf A0 H { nx := fun _ H' => Z .non H', rt := Z } o := by
  cases o with
  | rt d => exact ho
  | nx ρ => exact fun A' sg' H' hs _ => ho .non H' hs.same (Res.flat .non (fun _ z => nomatch z) (fun _ z => nomatch z))
  | xc ρ c d => exact fun A' sg' H' hs _ Ca dx v h1 h2 h3 => ho Ca dx v H' h1 hs.same h2 (h3.mono (hide_sub hs.st.sub))
  | bk ρ => exact ho.elim
  | ct ρ => exact ho.elim
  | no => exact ho.elim
theorem defG (lk : K.lookup f = some ⟨oc, od, .func (PySem.W.fnOf name qual params body scope dV kV doc pm an cdv ct), osl⟩) (hcd : PySem.W.codeIn K cdv qual = true) (S : FnScope C.N ps scope)
    (hc : cSs n C Kd body = some s) (hsc : C.sc = scope) (T : Tab P w K mg base C) :
    FnG P w K mg base (C.lev + 1) f (PySem.W.fnOf name qual params body scope dV kV doc pm an cdv ct) ps (spOf ⟨K, mg⟩ ⟨runS s C.N.length, Kd.rf, ps.length⟩) := by
  refine fnG_of lk hcd S ?_ ?_
  · rintro vs H Z E ⟨A, ds, _, r, hl, _⟩
    rw [r.len, hl]
  · rintro A fr st H vs Z E hr hg ⟨A0, ds, dm, r, hl, ho⟩
    have g := good_of (E := E) (H := H) (fr := fr) T hsc S.nd hr hg
    refine ⟨_, (soundS n).ss (A0 := A0) (H0 := H) g hc, A0, rho0 C.N.length (ds.map .sh), ⟨?_, Same.refl _, fun _ h => .inl h⟩, post_of ho⟩
    have hpl : ps.length ≤ C.N.length := by have := congrArg List.length S.pre; rw [List.length_take] at this; omega
    have hvl : vs.length = ps.length := by rw [r.len, hl]
    refine ⟨?_, dm, fun _ h => h, fun i d e => ?_, fun i d e => ?_, fun i a ns e => ?_, fun i j d e e1 e2 _ => ?_⟩
    · unfold rho0 L2.start
      simp [r.len]
    · have q := rho0_get e (fun z => nomatch z)
      rw [List.getElem?_map] at q
      cases e2 : ds[i]? with
      | none => rw [e2] at q; cases q
      | some d' =>
        rw [e2] at q
        cases q
        obtain ⟨v, h1, h2⟩ := r.get e2
        exact ⟨v, start_get h1, h2⟩
    · have q := rho0_get e (fun z => nomatch z)
      rw [List.getElem?_map] at q
      cases e2 : ds[i]? <;> rw [e2] at q <;> cases q
    · have q := rho0_get e (fun z => nomatch z)
      rw [List.getElem?_map] at q
      cases e2 : ds[i]? <;> rw [e2] at q <;> cases q
    · have q := rho0_get e1 (fun z => nomatch z)
      rw [List.getElem?_map] at q
      cases e2 : ds[i]? <;> rw [e2] at q <;> cases q
theorem defF (lk : K.lookup f = some ⟨oc, od, .func (PySem.W.fnOf name qual params body scope dV kV doc pm an cdv ct), osl⟩) (hcd : PySem.W.codeIn K cdv qual = true) {x : Str} (S : FnScope C.N [x] scope)
    (hc : cSs n C Kd body = some s) (hsc : C.sc = scope) (T : Tab P w K mg base C) {F : List Int → Rs PyData} (hF : ∀ a ns, F ns = .no ∨ runF s C.N.length a ns = F ns) :
    FnG P w K mg base (C.lev + 1) f (PySem.W.fnOf name qual params body scope dV kV doc pm an cdv ct) [x] (spFz ⟨K, mg⟩ F Kd.rf) := by
  refine fnG_of lk hcd S ?_ ?_
  · rintro vs H Z E ⟨A, a, ns, _, rfl, _, _⟩
    rfl
  · rintro A fr st H vs Z E hr hg ⟨A0, a, ns, dm, rfl, hz, ho⟩
    have g := good_of (E := E) (H := H) (fr := fr) T hsc S.nd hr hg
    have ho' : Oc ⟨K, mg⟩ A0 H E (fun d => ∀ v H', Same H H' → Res A0 true Kd.rf H H' v d → Z v H') (runF s C.N.length a ns) := by
      rcases hF a ns with e | e
      · rw [e] at ho; exact ho.elim
      · rw [e]; exact ho
    refine ⟨_, (soundS n).ss (A0 := A0) (H0 := H) g hc, A0, rho0 C.N.length [.fz a ns], ⟨?_, Same.refl _, fun _ h => .inl h⟩, post_of ho'⟩
    refine ⟨?_, dm, fun _ h => h, fun i d e => ?_, fun i d e => ?_, fun i b ms e => ?_, fun i j d e e1 e2 _ => ?_⟩
    · unfold rho0 L2.start
      simp
    · have q := rho0_get e (fun z => nomatch z)
      match i, q with
      | 0, q => cases q
    · have q := rho0_get e (fun z => nomatch z)
      match i, q with
      | 0, q => cases q
    · have q := rho0_get e (fun z => nomatch z)
      match i, q with
      | 0, q =>
        cases q
        exact ⟨start_get rfl, hz⟩
    · have q := rho0_get e1 (fun z => nomatch z)
      match i, q with
      | 0, q => cases q
end
end Sm

/-! What the laws share: the draws, the mix; how a combinator is run. -/
namespace Sm
open PySem L2

/-! ### running -/
section
variable {a b : Sx} {ρ ρ' : Rho} {t : Ts} {m : M} {d : PyData}
theorem seq_nx (h : a ρ = .nx ρ') : sSeq a b ρ = b ρ' := by simp [sSeq, h]
theorem seq_rt (h : a ρ = .rt d) : sSeq a b ρ = .rt d := by simp [sSeq, h]
theorem seq_xc {c : Str} (h : a ρ = .xc ρ' c d) : sSeq a b ρ = .xc ρ' c d := by simp [sSeq, h]
theorem if_tt (h : t ρ = .ok true) : sIf t a b ρ = a ρ := by simp [sIf, lf, h]
theorem if_ff (h : t ρ = .ok false) : sIf t a b ρ = b ρ := by simp [sIf, lf, h]
@[simp] theorem lf_ok {α : Type} {x : α} {k : α → Out} : lf (.ok x) ρ k = k x := rfl
@[simp] theorem lf_exc {α : Type} {c : Str} {k : α → Out} : lf (.exc c d : Rs α) ρ k = .xc ρ c d := rfl
end
/-- a loop by an invariant -/
theorem forL_inv {T : Tg} {b : Sx} (P : List PyData → Rho → Prop) (hs : ∀ x xs ρ, P (x :: xs) ρ → ∃ ρ1, T x ρ = .ok ρ1 ∧ ∃ ρ2, (b ρ1 = .nx ρ2 ∨ b ρ1 = .ct ρ2) ∧ P xs ρ2) :
    ∀ (xs : List PyData) (ρ : Rho), P xs ρ → ∃ ρ2, forL T b xs ρ = .nx ρ2 ∧ P [] ρ2
  | [], ρ, h => ⟨ρ, rfl, h⟩
  | x :: xs, ρ, h => by
    obtain ⟨ρ1, e1, ρ2, e2, h2⟩ := hs x xs ρ h
    obtain ⟨ρ3, e3, h3⟩ := forL_inv P hs xs ρ2 h2
    refine ⟨ρ3, ?_, h3⟩
    unfold forL
    rcases e2 with e2 | e2 <;> simp [e1, e2, e3]
def intD (L : List Int) : PyData := .list (L.map .int)

/-! ### the mix -/
def s_mix : Sx := sSeq (sSet (tNm 3) (mC (.int 0))) (sSeq (sIf (tBl (mBin dGt (mCall dLen [mVar false 0]) (mC (.int 0)))) (sSeq (sSet (tNm 3) (mBin dIx (mVar false 0) (mBin dMod (mCall dInt [mVar false 1]) (mCall dLen [mVar false 0])))) (sSkip)) (sSkip)) (sSeq (sIf (tBl (mBin dLt (mVar false 1) (mCall dLen [mVar false 0]))) (sSeq (sRet (mBin dMod (mCall dInt [mVar false 3]) (mVar false 2))) (sSkip)) (sSkip)) (sSeq (sRet (mBin dMod (mCall dInt [mBin dFdiv (mCall dInt [mBin dAdd (mBin dMul (mVar false 3) (mC (.int 7919))) (mBin dMul (mVar false 1) (mC (.int 104729)))]) (mC (.int 3))]) (mVar false 2))) (sSkip))))
def cellI (L : List Int) (k : Int) : Int := if 0 < L.length then L.getD (k.fmod L.length).toNat 0 else 0
def mixI (L : List Int) (k many : Int) : Int := if k < L.length then (cellI L k).fmod many else ((cellI L k * 7919 + k * 104729).fdiv 3).fmod many
theorem mixI_range (L : List Int) (k : Int) {many : Int} (h : 0 < many) : 0 ≤ mixI L k many ∧ mixI L k many < many := by
  unfold mixI
  split <;> exact ⟨Int.fmod_nonneg_of_pos _ h, Int.fmod_lt_of_pos _ h⟩
def i_mix : FnI := ⟨runS s_mix 4, false, 3⟩
theorem atI_map {L : List Int} {j : Int} (h0 : 0 ≤ j) (h1 : j < L.length) : atI (L.map PyData.int) j = some (.int (L.getD j.toNat 0)) := by
  unfold atI ixN
  rw [if_pos h0, List.length_map, if_pos h1]
  have h2 : j.toNat < L.length := by omega
  simp [h2]
theorem mix_sem (L : List Int) (k : Int) {many : Int} (h : 0 < many) : i_mix.sem [intD L, .int k, .int many] = .ok (.int (mixI L k many)) := by
  have hm : many ≠ 0 := by omega
  have e1 : sIf (tBl (mBin dGt (mCall dLen [mVar false 0]) (mC (.int 0)))) (sSeq (sSet (tNm 3) (mBin dIx (mVar false 0) (mBin dMod (mCall dInt [mVar false 1]) (mCall dLen [mVar false 0])))) (sSkip)) (sSkip) [.sh (intD L), .sh (.int k), .sh (.int many), .sh (.int 0)] =
      .nx [.sh (intD L), .sh (.int k), .sh (.int many), .sh (.int (cellI L k))] := by
    by_cases c : 0 < L.length
    · have c' : (0 : Int) < L.length := by omega
      have r := Int.fmod_nonneg_of_pos k c'
      have r2 := Int.fmod_lt_of_pos k c'
      have c3 : L ≠ [] := by rintro rfl; simp at c
      simp [sIf, tBl, mBin, mCall, mAll, mVar, mC, intD, dLen, dGt, okI, okB, sSeq, sSet, dIx, dMod, dInt, tNm, sSkip, atI_map r r2, ofOpt, cellI, c, c3]
    · have c2 : L = [] := by
        cases L with
        | nil => rfl
        | cons => simp at c
      subst c2
      simp [sIf, tBl, mBin, mCall, mAll, mVar, mC, intD, dLen, dGt, okI, okB, sSkip, cellI]
  unfold i_mix runS rho0
  show outR (s_mix [.sh (intD L), .sh (.int k), .sh (.int many), .un]) = _
  unfold s_mix
  rw [seq_nx (ρ' := [.sh (intD L), .sh (.int k), .sh (.int many), .sh (.int 0)]) (by rfl), seq_nx e1]
  unfold mixI
  by_cases c : k < L.length <;> simp [sSeq, sIf, tBl, mBin, mCall, mAll, mVar, mC, intD, dLen, dLt, okI, okB, sRet, dMod, dInt, dFdiv, dAdd, dMul, mulOk, sSkip, outR, c, hm]

/-! ### loops by place -/
def stops : Out → Prop
  | .rt _ => True
  | .xc _ _ _ => True
  | _ => False
theorem forL_at {T : Tg} {b : Sx} (R : Out → Prop) : ∀ (xs : List PyData) (P : Nat → Rho → Prop) (hs : ∀ k x, xs[k]? = some x → ∀ ρ, P k ρ → ∃ ρ1, T x ρ = .ok ρ1 ∧
      ((∃ ρ2, (b ρ1 = .nx ρ2 ∨ b ρ1 = .ct ρ2) ∧ P (k + 1) ρ2) ∨ (∃ ρ2, b ρ1 = .bk ρ2 ∧ R (.nx ρ2)) ∨ (stops (b ρ1) ∧ R (b ρ1)))) (ρ : Rho), P 0 ρ →
    (∃ ρ2, forL T b xs ρ = .nx ρ2 ∧ P xs.length ρ2) ∨ R (forL T b xs ρ)
  | [], P, _, ρ, h => .inl ⟨ρ, rfl, h⟩
  | x :: xs, P, hs, ρ, h => by
    obtain ⟨ρ1, e1, c⟩ := hs 0 x rfl ρ h
    unfold forL
    simp only [e1]
    rcases c with ⟨ρ2, e2, h2⟩ | ⟨ρ2, e2, h2⟩ | ⟨e2, h2⟩
    · have q := forL_at R xs (fun k => P (k + 1)) (fun k y e ρ p => hs (k + 1) y (by simpa using e) ρ p) ρ2 h2
      rcases e2 with e2 | e2 <;> (simp only [e2]; exact q)
    · simp only [e2]
      exact .inr h2
    · revert e2 h2
      generalize b ρ1 = o
      cases o <;> intro e2 h2
      · exact e2.elim
      · exact .inr h2
      · exact e2.elim
      · exact e2.elim
      · exact .inr h2
      · exact e2.elim
/-- a loop that goes to its end -/
theorem forL_all {T : Tg} {b : Sx} (xs : List PyData) (P : Nat → Rho → Prop) (hs : ∀ k x, xs[k]? = some x → ∀ ρ, P k ρ → ∃ ρ1, T x ρ = .ok ρ1 ∧ ∃ ρ2, (b ρ1 = .nx ρ2 ∨ b ρ1 = .ct ρ2) ∧ P (k + 1) ρ2) {ρ : Rho} (h : P 0 ρ) :
    ∃ ρ2, forL T b xs ρ = .nx ρ2 ∧ P xs.length ρ2 := by
  rcases forL_at (fun _ => False) xs P (fun k x e ρ p => by
    obtain ⟨ρ1, a1, a2⟩ := hs k x e ρ p
    exact ⟨ρ1, a1, .inl a2⟩) ρ h with q | q
  · exact q
  · exact q.elim
def rangeL (i : Int) (n : Nat) : List PyData := (List.range n).map fun k => .int (i + (k : Nat))
theorem rangeL_get {i : Int} {n k : Nat} {x : PyData} (h : (rangeL i n)[k]? = some x) : k < n ∧ x = .int (i + k) := by
  unfold rangeL at h
  rw [List.getElem?_map] at h
  by_cases c : k < n
  · rw [List.getElem?_range c] at h
    cases h
    exact ⟨c, rfl⟩
  · rw [List.getElem?_eq_none (by simpa using c)] at h
    cases h
theorem rangeL_len {i : Int} {n : Nat} : (rangeL i n).length = n := by simp [rangeL]
theorem rangeL_ok {i j : Int} (h1 : -(2 ^ 62) ≤ i) (h2 : i < 2 ^ 62) (h3 : -(2 ^ 62) ≤ j) (h4 : j < 2 ^ 62) (h5 : (j - i).toNat ≤ 16777216) : rangeD i j = .ok (rangeL i (j - i).toNat) := by
  unfold rangeD
  rw [if_pos ⟨h1, h2, h3, h4, by rw [sizeLine_eq]; exact h5⟩]
  rfl

/-! ### the draws -/
noncomputable def s_draws : Sx := sSeq (sOwn 1 (mLst [])) (sSeq (sFor (iCall iR1 [mCall dMin [mC (.int 63), mFzLen 0]]) (tNm 2) (sSeq (sSet (tNm 3) (mCall dAbs [mFzIx 0 (mVar false 2)])) (sSeq (sIf (tBl (mBin dGe (mVar false 3) (mBin dPow (mC (.int 10)) (mC (.int 18))))) (sSeq (sFor (iCall iR1 [mC (.int 60)]) (tNm 4) (sSeq (sIf (tBl (mBin dGt (mVar false 3) (mC (.int 0)))) (sSeq (sApp 1 (mBin dMod (mCall dInt [mVar false 3]) (mC (.int 65536)))) (sSeq (sSet (tNm 3) (mBin dFdiv (mVar false 3) (mC (.int 65536)))) (sSkip))) (sSkip)) (sSkip))) (sSkip)) (sSeq (sSet (tNm 5) (mBin dMod (mCall dInt [mBin dAdd (mBin dMul (mVar false 3) (mC (.int 48271))) (mBin dMul (mBin dAdd (mVar false 2) (mC (.int 1))) (mC (.int 69621)))]) (mC (.int 2147483647)))) (sSeq (sSet (tNm 5) (mBin dMod (mCall dInt [mBin dAdd (mBin dAdd (mBin dMul (mVar false 5) (mC (.int 16807))) (mBin dMul (mC (.int 11)) (mVar false 2))) (mC (.int 5))]) (mC (.int 2147483629)))) (sSeq (sApp 1 (mBin dMod (mCall dInt [mVar false 5]) (mC (.int 65536)))) (sSeq (sApp 1 (mBin dMod (mCall dInt [mBin dFdiv (mVar false 5) (mC (.int 65536))]) (mC (.int 32768)))) (sSkip)))))) (sSkip)))) (sSeq (sRetV false 1) (sSkip)))

def digs : Nat → Int → List Int
  | 0, _ => []
  | n + 1, r => if r > 0 then r.fmod 65536 :: digs n (r.fdiv 65536) else digs n r
def absI (i : Int) : Int := if i < 0 then -i else i
def chunkI (k n : Int) : List Int := if absI n ≥ 10 ^ 18 then digs 60 (absI n) else
  [(((((absI n * 48271 + (k + 1) * 69621).fmod 2147483647) * 16807 + 11 * k + 5).fmod 2147483629).fmod 65536), ((((((absI n * 48271 + (k + 1) * 69621).fmod 2147483647) * 16807 + 11 * k + 5).fmod 2147483629).fdiv 65536).fmod 32768)]
def drawsN (ns : List Int) : Nat → List Int
  | 0 => []
  | n + 1 => drawsN ns n ++ chunkI n (ns.getD n 0)
def drawsI (ns : List Int) : List Int := drawsN ns ns.length
noncomputable def F_draws (ns : List Int) : Rs PyData := if ns.length ≤ 63 then .ok (intD (drawsI ns)) else .no
theorem digs_len : ∀ (n : Nat) (r : Int), (digs n r).length ≤ n
  | 0, _ => Nat.le_refl 0
  | n + 1, r => by
    unfold digs
    split
    · have := digs_len n (r.fdiv 65536)
      simp; omega
    · have := digs_len n r
      omega
theorem chunk_len (k n : Int) : (chunkI k n).length ≤ 60 := by
  unfold chunkI
  split
  · exact digs_len _ _
  · simp
theorem drawsN_len (ns : List Int) : ∀ n, (drawsN ns n).length ≤ 60 * n
  | 0 => by simp [drawsN]
  | n + 1 => by
    have a := drawsN_len ns n
    have b := chunk_len n (ns.getD n 0)
    unfold drawsN
    rw [List.length_append]
    omega

def b_dig : Sx := sSeq (sIf (tBl (mBin dGt (mVar false 3) (mC (.int 0)))) (sSeq (sApp 1 (mBin dMod (mCall dInt [mVar false 3]) (mC (.int 65536)))) (sSeq (sSet (tNm 3) (mBin dFdiv (mVar false 3) (mC (.int 65536)))) (sSkip))) (sSkip)) (sSkip)
theorem digs_run (a : Addr) (ns acc : List Int) (k : Cell) (z : Cell) : ∀ (n : Nat) (xs : List PyData) (r : Int) (acc : List Int) (c : Cell), xs.length = n → acc.length + n ≤ 5000 →
    ∃ r' c', forL (tNm 4) b_dig xs [.fz a ns, .ow (intD acc), k, .sh (.int r), c, z] = .nx [.fz a ns, .ow (intD (acc ++ digs n r)), k, .sh (.int r'), c', z]
  | 0, [], r, acc, c, _, _ => ⟨r, c, by simp [forL, digs]⟩
  | n + 1, x :: xs, r, acc, c, hl, hn => by
    have hz : acc.length < sizeLine := by rw [sizeLine_eq]; omega
    unfold forL digs
    by_cases hr : r > 0
    · obtain ⟨r', c', e⟩ := digs_run a ns acc k z n xs (r.fdiv 65536) (acc ++ [r.fmod 65536]) (.sh x) (by simpa using hl) (by simp; omega)
      refine ⟨r', c', ?_⟩
      have hr' : 0 < r := hr
      have e1 : b_dig [.fz a ns, .ow (intD acc), k, .sh (.int r), .sh x, z] = .nx [.fz a ns, .ow (intD (acc ++ [r.fmod 65536])), k, .sh (.int (r.fdiv 65536)), .sh x, z] := by
        simp [b_dig, sSeq, sIf, tBl, mBin, mVar, mC, dGt, okB, okI, sApp, owL, intD, mCall, mAll, dInt, dMod, hz, sSet, dFdiv, tNm, sSkip, hr']
      simp only [tNm, List.set_cons_succ, List.set_cons_zero, e1, e, if_pos hr]
      simp
    · obtain ⟨r', c', e⟩ := digs_run a ns acc k z n xs r acc (.sh x) (by simpa using hl) (by omega)
      refine ⟨r', c', ?_⟩
      have hr' : ¬ 0 < r := hr
      have e1 : b_dig [.fz a ns, .ow (intD acc), k, .sh (.int r), .sh x, z] = .nx [.fz a ns, .ow (intD acc), k, .sh (.int r), .sh x, z] := by
        simp [b_dig, sSeq, sIf, tBl, mBin, mVar, mC, dGt, okB, okI, sSkip, hr']
      simp only [tNm, List.set_cons_succ, List.set_cons_zero, e1, e, if_neg hr]
def b_two : Sx := sSeq (sSet (tNm 5) (mBin dMod (mCall dInt [mBin dAdd (mBin dMul (mVar false 3) (mC (.int 48271))) (mBin dMul (mBin dAdd (mVar false 2) (mC (.int 1))) (mC (.int 69621)))]) (mC (.int 2147483647)))) (sSeq (sSet (tNm 5) (mBin dMod (mCall dInt [mBin dAdd (mBin dAdd (mBin dMul (mVar false 5) (mC (.int 16807))) (mBin dMul (mC (.int 11)) (mVar false 2))) (mC (.int 5))]) (mC (.int 2147483629)))) (sSeq (sApp 1 (mBin dMod (mCall dInt [mVar false 5]) (mC (.int 65536)))) (sSeq (sApp 1 (mBin dMod (mCall dInt [mBin dFdiv (mVar false 5) (mC (.int 65536))]) (mC (.int 32768)))) (sSkip))))
noncomputable def b_drw : Sx := sSeq (sSet (tNm 3) (mCall dAbs [mFzIx 0 (mVar false 2)])) (sSeq (sIf (tBl (mBin dGe (mVar false 3) (mBin dPow (mC (.int 10)) (mC (.int 18))))) (sSeq (sFor (iCall iR1 [mC (.int 60)]) (tNm 4) b_dig) (sSkip)) b_two) (sSkip))
theorem s_draws_eq : s_draws = sSeq (sOwn 1 (mLst [])) (sSeq (sFor (iCall iR1 [mCall dMin [mC (.int 63), mFzLen 0]]) (tNm 2) b_drw) (sSeq (sRetV false 1) (sSkip))) := rfl
theorem two_run (a : Addr) (ns acc : List Int) (k r : Int) (c d : Cell) (h : acc.length + 2 ≤ 5000) : ∃ c', b_two [.fz a ns, .ow (intD acc), .sh (.int k), .sh (.int r), c, d] =
    .nx [.fz a ns, .ow (intD (acc ++ [((((r * 48271 + (k + 1) * 69621).fmod 2147483647) * 16807 + 11 * k + 5).fmod 2147483629).fmod 65536, (((((r * 48271 + (k + 1) * 69621).fmod 2147483647) * 16807 + 11 * k + 5).fmod 2147483629).fdiv 65536).fmod 32768])), .sh (.int k), .sh (.int r), c, c'] := by
  have h1 : acc.length < sizeLine := by rw [sizeLine_eq]; omega
  have h2 : acc.length + 1 < sizeLine := by rw [sizeLine_eq]; omega
  refine ⟨.sh (.int (((((r * 48271 + (k + 1) * 69621).fmod 2147483647) * 16807 + 11 * k + 5).fmod 2147483629))), ?_⟩
  simp [b_two, sSeq, sSet, tNm, mBin, mVar, mC, mCall, mAll, dMul, dAdd, dInt, dMod, mulOk, okI, sApp, owL, intD, dFdiv, sSkip, h1, h2]
theorem drw_step (a : Addr) (ns : List Int) (h : ns.length ≤ 63) (k : Nat) (hk : k < ns.length) (c3 c4 c5 : Cell) : ∃ d2 d3 d4 d5, b_drw [.fz a ns, .ow (intD (drawsN ns k)), .sh (.int k), c3, c4, c5] = .nx [.fz a ns, .ow (intD (drawsN ns (k + 1))), d2, d3, d4, d5] := by
  have hz := drawsN_len ns k
  have ei : atI ns (k : Int) = some (ns.getD k 0) := by
    unfold atI ixN
    rw [if_pos (by omega), if_pos (by omega)]
    simp [hk]
  have f1 : sSet (tNm 3) (mCall dAbs [mFzIx 0 (mVar false 2)]) [.fz a ns, .ow (intD (drawsN ns k)), .sh (.int k), c3, c4, c5] = .nx [.fz a ns, .ow (intD (drawsN ns k)), .sh (.int k), .sh (.int (absI (ns.getD k 0))), c4, c5] := by
    simp [sSet, mCall, mAll, mFzIx, mVar, ofOpt, ei, dAbs, okI, tNm, absI, -List.getD_eq_getElem?_getD]
  unfold b_drw
  rw [seq_nx f1]
  by_cases hb : absI (ns.getD k 0) ≥ 10 ^ 18
  · have g1 : tBl (mBin dGe (mVar false 3) (mBin dPow (mC (.int 10)) (mC (.int 18)))) [.fz a ns, .ow (intD (drawsN ns k)), .sh (.int k), .sh (.int (absI (ns.getD k 0))), c4, c5] = .ok true := by
      have hb' : (1000000000000000000 : Int) ≤ absI (ns.getD k 0) := by simpa [-List.getD_eq_getElem?_getD] using hb
      simp [tBl, mBin, mVar, mC, dPow, dGe, okI, okB]
      simpa using hb'
    obtain ⟨r', c', g2⟩ := digs_run a ns [] (.sh (.int k)) c5 60 (rangeL 0 60) (absI (ns.getD k 0)) (drawsN ns k) c4 rangeL_len (by omega)
    have g3 : sFor (iCall iR1 [mC (.int 60)]) (tNm 4) b_dig [.fz a ns, .ow (intD (drawsN ns k)), .sh (.int k), .sh (.int (absI (ns.getD k 0))), c4, c5] = .nx [.fz a ns, .ow (intD (drawsN ns k ++ digs 60 (absI (ns.getD k 0)))), .sh (.int k), .sh (.int r'), c', c5] := by
      have g4 : iCall iR1 [mC (.int 60)] [.fz a ns, .ow (intD (drawsN ns k)), .sh (.int k), .sh (.int (absI (ns.getD k 0))), c4, c5] = .ok (rangeL 0 60) := by
        simp [iCall, mAll, mC, iR1]
        exact rangeL_ok (by decide) (by decide) (by decide) (by decide) (by decide)
      unfold sFor
      rw [g4]
      exact g2
    refine ⟨.sh (.int k), .sh (.int r'), c', c5, ?_⟩
    rw [seq_nx ((if_tt g1).trans ((seq_nx g3).trans (show sSkip _ = .nx _ from rfl)))]
    rw [show drawsN ns (k + 1) = drawsN ns k ++ chunkI k (ns.getD k 0) from rfl]
    unfold chunkI
    rw [if_pos hb]; rfl
  · have g1 : tBl (mBin dGe (mVar false 3) (mBin dPow (mC (.int 10)) (mC (.int 18)))) [.fz a ns, .ow (intD (drawsN ns k)), .sh (.int k), .sh (.int (absI (ns.getD k 0))), c4, c5] = .ok false := by
      have hb' : ¬ (1000000000000000000 : Int) ≤ absI (ns.getD k 0) := by simpa [-List.getD_eq_getElem?_getD] using hb
      simp [tBl, mBin, mVar, mC, dPow, dGe, okI, okB]
      simpa using hb'
    obtain ⟨c', g2⟩ := two_run a ns (drawsN ns k) k (absI (ns.getD k 0)) c4 c5 (by omega)
    refine ⟨.sh (.int k), .sh (.int (absI (ns.getD k 0))), c4, c', ?_⟩
    rw [seq_nx ((if_ff g1).trans g2)]
    rw [show drawsN ns (k + 1) = drawsN ns k ++ chunkI k (ns.getD k 0) from rfl]
    unfold chunkI
    rw [if_neg hb]; rfl
theorem range_draws (n : Nat) (h : n ≤ 63) : rangeD 0 n = .ok (rangeL 0 n) := by
  have e : ((n : Int) - 0).toNat = n := by omega
  have q := rangeL_ok (i := 0) (j := n) (by decide) (by decide) (by omega) (by omega) (by omega)
  rwa [e] at q
theorem min_draws (n : Nat) (h : n ≤ 63) : dMin [.int 63, .int n] = .ok (.int n) := by
  have hl : (if (n : Int) < 63 then (n : Int) else 63) = n := by split <;> omega
  exact congrArg (fun x => Rs.ok (PyData.int x)) hl
theorem iter_of {ms : List M} {f : List PyData → Rs PyData} {ρ : Rho} {ds : List PyData} {i : Int} {xs : List PyData} (h1 : mAll ms ρ = .ok ds) (h2 : f ds = .ok (.int i)) (h3 : rangeD 0 i = .ok xs) : iCall iR1 [mCall f ms] ρ = .ok xs := by
  unfold iCall mAll mCall
  rw [h1, Rs.bind_ok, h2]
  exact h3
theorem iter_draws (a : Addr) (ns : List Int) (h : ns.length ≤ 63) : iCall iR1 [mCall dMin [mC (.int 63), mFzLen 0]] [.fz a ns, .ow (intD []), .un, .un, .un, .un] = .ok (rangeL 0 ns.length) :=
  iter_of (ds := [.int 63, .int ns.length]) rfl (min_draws _ h) (range_draws _ h)
theorem loop_draws (a : Addr) (ns : List Int) (h : ns.length ≤ 63) : ∃ c2 c3 c4 c5, forL (tNm 2) b_drw (rangeL 0 ns.length) [.fz a ns, .ow (intD []), .un, .un, .un, .un] = .nx [.fz a ns, .ow (intD (drawsN ns ns.length)), c2, c3, c4, c5] := by
  obtain ⟨ρ2, f1, c2, c3, c4, c5, e⟩ := forL_all (T := tNm 2) (b := b_drw) (rangeL 0 ns.length) (fun k ρ => ∃ c2 c3 c4 c5, ρ = [.fz a ns, .ow (intD (drawsN ns k)), c2, c3, c4, c5]) (ρ := [.fz a ns, .ow (intD []), .un, .un, .un, .un]) (by
    rintro k x ex ρ ⟨c2, c3, c4, c5, rfl⟩
    obtain ⟨hk, rfl⟩ := rangeL_get ex
    rw [Int.zero_add]
    obtain ⟨d2, d3, d4, d5, e⟩ := drw_step a ns h k hk c3 c4 c5
    exact ⟨_, rfl, _, .inl e, _, _, _, _, rfl⟩) ⟨.un, .un, .un, .un, rfl⟩
  rw [rangeL_len] at e
  rw [e] at f1
  exact ⟨c2, c3, c4, c5, f1⟩
theorem draws_run (a : Addr) (ns : List Int) (h : ns.length ≤ 63) : runF s_draws 6 a ns = .ok (intD (drawsI ns)) := by
  obtain ⟨c2, c3, c4, c5, f1⟩ := loop_draws a ns h
  have e1 : sOwn 1 (mLst []) [.fz a ns, .un, .un, .un, .un, .un] = .nx [.fz a ns, .ow (intD []), .un, .un, .un, .un] := rfl
  have e3 : sFor (iCall iR1 [mCall dMin [mC (.int 63), mFzLen 0]]) (tNm 2) b_drw [.fz a ns, .ow (intD []), .un, .un, .un, .un] = .nx [.fz a ns, .ow (intD (drawsN ns ns.length)), c2, c3, c4, c5] := by
    unfold sFor
    rw [iter_draws a ns h]
    exact f1
  unfold runF
  rw [show rho0 6 [.fz a ns] = [.fz a ns, .un, .un, .un, .un, .un] from rfl, s_draws_eq, seq_nx e1, seq_nx e3]
  rfl
theorem hF_draws : ∀ a ns, F_draws ns = .no ∨ runF s_draws 6 a ns = F_draws ns := by
  intro a ns
  unfold F_draws
  split
  · exact .inr (draws_run a ns ‹_›)
  · exact .inl rfl
end Sm

namespace K75
open PySem PySem.Spec PyProof.Rows L2 Sm
noncomputable abbrev F_l_draws : List Int → Rs PyData := F_draws
noncomputable section
def topS (i : Nat) : Stmt := PySem.Challenge.pw_howoften_k75_folded_trees_and_names.main.body.getD i (.Pass ⟨0, 0, 0, 0⟩)
def xcs : List Str := ["TooMany", "BadPath"]
/-! _law_draws -/
def b_l_draws_1 : Sx := sSeq (sIf (tBl (mBin dGt (mVar false 3) (mC (.int 0)))) (sSeq (sApp 1 (mBin dMod (mCall dInt [mVar false 3]) (mC (.int 65536)))) (sSeq (sSet (tNm 3) (mBin dFdiv (mVar false 3) (mC (.int 65536)))) (sSkip))) (sSkip)) (sSkip)
def b_l_draws_2 : Sx := sSeq (sSet (tNm 3) (mCall dAbs [mFzIx 0 (mVar false 2)])) (sSeq (sIf (tBl (mBin dGe (mVar false 3) (mBin dPow (mC (.int 10)) (mC (.int 18))))) (sSeq (sFor (iCall iR1 [mC (.int 60)]) (tNm 4) b_l_draws_1) (sSkip)) (sSeq (sSet (tNm 5) (mBin dMod (mCall dInt [mBin dAdd (mBin dMul (mVar false 3) (mC (.int 48271))) (mBin dMul (mBin dAdd (mVar false 2) (mC (.int 1))) (mC (.int 69621)))]) (mC (.int 2147483647)))) (sSeq (sSet (tNm 5) (mBin dMod (mCall dInt [mBin dAdd (mBin dAdd (mBin dMul (mVar false 5) (mC (.int 16807))) (mBin dMul (mC (.int 11)) (mVar false 2))) (mC (.int 5))]) (mC (.int 2147483629)))) (sSeq (sApp 1 (mBin dMod (mCall dInt [mVar false 5]) (mC (.int 65536)))) (sSeq (sApp 1 (mBin dMod (mCall dInt [mBin dFdiv (mVar false 5) (mC (.int 65536))]) (mC (.int 32768)))) (sSkip)))))) (sSkip))
def s_l_draws : Sx := sSeq (sOwn 1 (mLst [])) (sSeq (sFor (iCall iR1 [mCall dMin [mC (.int 63), mFzLen 0]]) (tNm 2) b_l_draws_2) (sSeq (sRetV false 1) (sSkip)))
def C_l_draws : Cc := { sc := defScope (topS 22), N := ["script", "draws", "k", "rest", "turn", "mixed"], fnc := fun _ => true, fns := [], blt := ["range", "min", "len", "abs", "int"], gls := [], lev := 0, fz := some 0, fzf := [], exs := [], gcd := false }
def K_l_draws : Kc := { mv := [1], rf := false, fzs := [], lds := [] }
theorem h_l_draws : FnScope ["script", "draws", "k", "rest", "turn", "mixed"] ["script"] (defScope (topS 22)) := ⟨rfl, rfl, rfl, by decide +kernel, rfl, by decide +kernel, by decide +kernel⟩
theorem c_l_draws : cSs 300 C_l_draws K_l_draws (defBody (topS 22)) = some s_l_draws := by kernel_rfl
/-! _law_mix -/
def s_l_mix : Sx := sSeq (sSet (tNm 3) (mC (.int 0))) (sSeq (sIf (tBl (mBin dGt (mCall dLen [mVar false 0]) (mC (.int 0)))) (sSeq (sSet (tNm 3) (mBin dIx (mVar false 0) (mBin dMod (mCall dInt [mVar false 1]) (mCall dLen [mVar false 0])))) (sSkip)) (sSkip)) (sSeq (sIf (tBl (mBin dLt (mVar false 1) (mCall dLen [mVar false 0]))) (sSeq (sRet (mBin dMod (mCall dInt [mVar false 3]) (mVar false 2))) (sSkip)) (sSkip)) (sSeq (sRet (mBin dMod (mCall dInt [mBin dFdiv (mCall dInt [mBin dAdd (mBin dMul (mVar false 3) (mC (.int 7919))) (mBin dMul (mVar false 1) (mC (.int 104729)))]) (mC (.int 3))]) (mVar false 2))) (sSkip))))
def i_l_mix : FnI := ⟨runS s_l_mix 4, false, 3⟩
def C_l_mix : Cc := { sc := defScope (topS 23), N := ["draws", "k", "many", "value"], fnc := fun _ => true, fns := [], blt := ["len", "int"], gls := [], lev := 0, fz := none, fzf := [], exs := [], gcd := false }
def K_l_mix : Kc := { mv := [], rf := false, fzs := [], lds := [] }
theorem h_l_mix : FnScope ["draws", "k", "many", "value"] ["draws", "k", "many"] (defScope (topS 23)) := ⟨rfl, rfl, rfl, by decide +kernel, rfl, by decide +kernel, by decide +kernel⟩
theorem c_l_mix : cSs 300 C_l_mix K_l_mix (defBody (topS 23)) = some s_l_mix := by kernel_rfl
/-! _law_tree -/
def b_l_tree_1 : Sx := sSeq (sSet (tNm 7) (mBin dIx (mVar false 5) (mCall i_l_mix.sem [mVar true 0, mBin dAdd (mVar false 1) (mBin dMul (mC (.int 3)) (mVar false 6)), mCall dLen [mVar false 5]]))) (sSeq (sSet (tNm 8) (mBin dAdd (mVar false 7) (mLst [mCall i_l_mix.sem [mVar true 0, mBin dAdd (mBin dAdd (mVar false 1) (mBin dMul (mC (.int 3)) (mVar false 6))) (mC (.int 1)), mVar true 3]]))) (sSeq (sIf (tAnd (tBl (mBin dLt (mCall dLen [mVar false 8]) (mC (.int 9)))) (tBl (mBin (dIn true) (mVar false 8) (mVar false 5)))) (sSeq (sApp 5 (mVar true 8)) (sSkip)) (sSkip)) (sSkip)))
def b_l_tree_2 : Sx := sSeq (sApp 9 (mTup [mVar true 8, mCall i_l_mix.sem [mVar true 0, mBin dAdd (mBin dAdd (mVar false 1) (mC (.int 200))) (mCall dLen [mVar false 9]), mVar true 4]])) (sSkip)
def s_l_tree : Sx := sSeq (sOwn 5 (mLst [mLst []])) (sSeq (sFor (iCall iR1 [mVar false 2]) (tNm 6) b_l_tree_1) (sSeq (sOwn 9 (mLst [])) (sSeq (sFor (iSeq (mCall dSorted [mVar false 5])) (tNm 8) b_l_tree_2) (sSeq (sRetV false 9) (sSkip)))))
def i_l_tree : FnI := ⟨runS s_l_tree 10, false, 5⟩
def C_l_tree : Cc := { sc := defScope (topS 24), N := ["draws", "first", "count", "names", "most", "paths", "t", "base", "path", "tree"], fnc := fun _ => true, fns := [("_law_mix", i_l_mix)], blt := ["range", "len", "sorted"], gls := [], lev := 1, fz := none, fzf := [], exs := [], gcd := false }
def K_l_tree : Kc := { mv := [5, 9], rf := false, fzs := [], lds := [] }
theorem h_l_tree : FnScope ["draws", "first", "count", "names", "most", "paths", "t", "base", "path", "tree"] ["draws", "first", "count", "names", "most"] (defScope (topS 24)) := ⟨rfl, rfl, rfl, by decide +kernel, rfl, by decide +kernel, by decide +kernel⟩
theorem c_l_tree : cSs 300 C_l_tree K_l_tree (defBody (topS 24)) = some s_l_tree := by kernel_rfl
/-! _law_summed -/
def b_l_summed_1 : Sx := sSeq (sSet (tNm 5) (mCall dTuple [mSl (mVar false 2) none (some (mVar false 4))])) (sSeq (sPutD 1 (mVar false 5) (mBin dAdd (mGet2 (mVar false 1) (mVar false 5) (mC (.int 0))) (mBin dMul (mVar false 3) (mCall dInt [mBin dEq (mVar false 4) (mCall dLen [mVar false 2])])))) (sSkip))
def b_l_summed_2 : Sx := sSeq (sFor (iCall iR1 [mBin dAdd (mCall dLen [mVar false 2]) (mC (.int 1))]) (tNm 4) b_l_summed_1) (sSkip)
def s_l_summed : Sx := sSeq (sOwn 1 (mDict [(mTup [], mC (.int 0))])) (sSeq (sFor (iSeq (mVar true 0)) (tTp [tNm 2, tNm 3]) b_l_summed_2) (sSeq (sRet (mComp (iSeq (mCall dSorted [mVar false 1])) (tNm 2) (fun _ => .ok true) (mTup [mCall dList [mVar false 2], mBin dIx (mVar false 1) (mVar false 2)]) [2])) (sSkip)))
def i_l_summed : FnI := ⟨runS s_l_summed 6, false, 1⟩
def C_l_summed : Cc := { sc := defScope (topS 25), N := ["pairs", "found", "path", "cost", "k", "key"], fnc := fun _ => true, fns := [], blt := ["range", "len", "tuple", "int", "sorted", "list"], gls := [], lev := 0, fz := none, fzf := [], exs := [], gcd := false }
def K_l_summed : Kc := { mv := [1], rf := false, fzs := [], lds := [], dcs := [1] }
theorem h_l_summed : FnScope ["pairs", "found", "path", "cost", "k", "key"] ["pairs"] (defScope (topS 25)) := ⟨rfl, rfl, rfl, by decide +kernel, rfl, by decide +kernel, by decide +kernel⟩
theorem c_l_summed : cSs 300 C_l_summed K_l_summed (defBody (topS 25)) = some s_l_summed := by kernel_rfl
/-! is_path -/
def s_is_path : Sx := sSeq (sRet (mAnd (mBin dLe (mCall dLen [mVar false 0]) (mC (.int 8))) (mCall dAll [mComp (iSeq (mVar false 0)) (tNm 1) (fun _ => .ok true) (mChain dLe dLe (mC (.int 0)) (mVar false 1) (mC (.int 9))) [1]]))) (sSkip)
def i_is_path : FnI := ⟨runS s_is_path 2, false, 1⟩
def C_is_path : Cc := { sc := defScope (topS 8), N := ["path", "name"], fnc := fun _ => true, fns := [], blt := ["len", "all"], gls := [("MOST_NAMES", (.int 8)), ("MOST_NAME", (.int 9))], lev := 0, fz := none, fzf := [], exs := [], gcd := false }
def K_is_path : Kc := { mv := [], rf := false, fzs := [], lds := [] }
theorem h_is_path : FnScope ["path", "name"] ["path"] (defScope (topS 8)) := ⟨rfl, rfl, rfl, by decide +kernel, rfl, by decide +kernel, by decide +kernel⟩
theorem c_is_path : cSs 300 C_is_path K_is_path (defBody (topS 8)) = some s_is_path := by kernel_rfl
/-! check_tree -/
def b_check_tree_1 : Sx := sSeq (sIf (tOr (tNot (tVal (mCall i_is_path.sem [mVar true 2]))) (tOr (tBl (mBin dLt (mVar false 3) (mC (.int 0)))) (tAnd (tBl (mBin dGt (mVar false 1) (mC (.int 0)))) (tBl (mBin dGe (mBin dIx (mBin dIx (mVar false 0) (mBin dSub (mVar false 1) (mC (.int 1)))) (mC (.int 0))) (mVar false 2)))))) (sSeq (sRs "BadPath" (mVar true 1)) (sSkip)) (sSkip)) (sSkip)
def b_check_tree_2 : Sx := sSeq (sIf (tBl (mBin (dIn true) (mSl (mVar false 2) none (some (mUn dNeg (mC (.int 1))))) (mVar false 4))) (sSeq (sRs "BadPath" (mVar true 1)) (sSkip)) (sSkip)) (sSkip)
def s_check_tree : Sx := sSeq (sIf (tBl (mBin dGt (mCall dLen [mVar false 0]) (mC (.int 60)))) (sSeq (sRs "TooMany" (mCall dLen [mVar false 0])) (sSkip)) (sSkip)) (sSeq (sFor (iCall iEnumD [mVar true 0]) (tTp [tNm 1, tTp [tNm 2, tNm 3]]) b_check_tree_1) (sSeq (sSet (tNm 4) (mComp (iSeq (mVar false 0)) (tTp [tNm 2, tNm 5]) (fun _ => .ok true) (mVar true 2) [2, 5])) (sSeq (sIf (tBl (mBin (dIn true) (mLst []) (mVar false 4))) (sSeq (sRs "BadPath" (mUn dNeg (mC (.int 1)))) (sSkip)) (sSkip)) (sSeq (sFor (iCall iEnumD [mVar true 4]) (tTp [tNm 1, tNm 2]) b_check_tree_2) (sSkip)))))
def i_check_tree : FnI := ⟨runS s_check_tree 6, false, 1⟩
def C_check_tree : Cc := { sc := defScope (topS 9), N := ["tree", "k", "path", "cost", "paths", "_"], fnc := fun _ => true, fns := [("is_path", i_is_path)], blt := ["len", "enumerate"], gls := [("MOST_PATHS", (.int 60))], lev := 1, fz := none, fzf := [], exs := xcs, gcd := false }
def K_check_tree : Kc := { mv := [], rf := false, fzs := [], lds := [] }
theorem h_check_tree : FnScope ["tree", "k", "path", "cost", "paths", "_"] ["tree"] (defScope (topS 9)) := ⟨rfl, rfl, rfl, by decide +kernel, rfl, by decide +kernel, by decide +kernel⟩
theorem c_check_tree : cSs 300 C_check_tree K_check_tree (defBody (topS 9)) = some s_check_tree := by kernel_rfl
/-! summed -/
def b_summed_1 : Sx := sSeq (sSet (tNm 5) (mCall dTuple [mSl (mVar false 2) none (some (mVar false 4))])) (sSeq (sPutD 1 (mVar false 5) (mBin dAdd (mGet2 (mVar false 1) (mVar false 5) (mC (.int 0))) (mBin dMul (mVar false 3) (mCall dInt [mBin dEq (mVar false 4) (mCall dLen [mVar false 2])])))) (sSkip))
def b_summed_2 : Sx := sSeq (sFor (iCall iR1 [mBin dAdd (mCall dLen [mVar false 2]) (mC (.int 1))]) (tNm 4) b_summed_1) (sSkip)
def s_summed : Sx := sSeq (sOwn 1 (mDict [(mTup [], mC (.int 0))])) (sSeq (sFor (iSeq (mVar true 0)) (tTp [tNm 2, tNm 3]) b_summed_2) (sSeq (sRet (mComp (iSeq (mSortItems (mVar false 1))) (tTp [tNm 2, tNm 3]) (fun _ => .ok true) (mTup [mCall dList [mVar false 2], mVar true 3]) [2, 3])) (sSkip)))
def i_summed : FnI := ⟨runS s_summed 6, true, 1⟩
def C_summed : Cc := { sc := defScope (topS 11), N := ["pairs", "found", "path", "cost", "k", "key"], fnc := fun _ => true, fns := [], blt := ["range", "len", "tuple", "int", "sorted", "list"], gls := [], lev := 0, fz := none, fzf := [], exs := [], gcd := false }
def K_summed : Kc := { mv := [1], rf := true, fzs := [], lds := [], dcs := [1] }
theorem h_summed : FnScope ["pairs", "found", "path", "cost", "k", "key"] ["pairs"] (defScope (topS 11)) := ⟨rfl, rfl, rfl, by decide +kernel, rfl, by decide +kernel, by decide +kernel⟩
theorem c_summed : cSs 300 C_summed K_summed (defBody (topS 11)) = some s_summed := by kernel_rfl
/-! fold -/
def b_fold_1 : Sx := sSeq (sIf (tBl (mBin (dIn false) (mVar false 2) (mVar false 1))) (sSeq (sOwn 1 (mSl (mVar false 1) none (some (mBin dAdd (mLm dIndex (mVar false 1) (mVar false 2)) (mC (.int 1)))))) (sSkip)) (sSeq (sApp 1 (mVar true 2)) (sSkip))) (sSkip)
def s_fold : Sx := sSeq (sOwn 1 (mLst [])) (sSeq (sFor (iSeq (mVar true 0)) (tNm 2) b_fold_1) (sSeq (sRetV false 1) (sSkip)))
def i_fold : FnI := ⟨runS s_fold 3, false, 1⟩
def C_fold : Cc := { sc := defScope (topS 12), N := ["path", "found", "name"], fnc := fun _ => true, fns := [], blt := [], gls := [], lev := 0, fz := none, fzf := [], exs := [], gcd := false }
def K_fold : Kc := { mv := [1], rf := false, fzs := [], lds := [] }
theorem h_fold : FnScope ["path", "found", "name"] ["path"] (defScope (topS 12)) := ⟨rfl, rfl, rfl, by decide +kernel, rfl, by decide +kernel, by decide +kernel⟩
theorem c_fold : cSs 300 C_fold K_fold (defBody (topS 12)) = some s_fold := by kernel_rfl
/-! folded -/
def s_folded : Sx := sSeq (sExpr (mCall i_check_tree.sem [mVar true 0])) (sSeq (sRet (mCall i_summed.sem [mComp (iSeq (mVar false 0)) (tTp [tNm 1, tNm 2]) (fun _ => .ok true) (mTup [mCall i_fold.sem [mVar true 1], mVar true 2]) [1, 2]])) (sSkip))
def i_folded : FnI := ⟨runS s_folded 3, true, 1⟩
def C_folded : Cc := { sc := defScope (topS 14), N := ["tree", "path", "cost"], fnc := fun _ => true, fns := [("check_tree", i_check_tree), ("summed", i_summed), ("fold", i_fold)], blt := [], gls := [], lev := 2, fz := none, fzf := [], exs := [], gcd := false }
def K_folded : Kc := { mv := [], rf := true, fzs := [], lds := [] }
theorem h_folded : FnScope ["tree", "path", "cost"] ["tree"] (defScope (topS 14)) := ⟨rfl, rfl, rfl, by decide +kernel, rfl, by decide +kernel, by decide +kernel⟩
theorem c_folded : cSs 300 C_folded K_folded (defBody (topS 14)) = some s_folded := by kernel_rfl
/-! folded_path -/
def s_folded_path : Sx := sSeq (sIf (tNot (tVal (mCall i_is_path.sem [mVar true 0]))) (sSeq (sRs "BadPath" (mC (.int 0))) (sSkip)) (sSkip)) (sSeq (sRet (mCall i_fold.sem [mVar true 0])) (sSkip))
def i_folded_path : FnI := ⟨runS s_folded_path 1, false, 1⟩
def C_folded_path : Cc := { sc := defScope (topS 13), N := ["path"], fnc := fun _ => true, fns := [("is_path", i_is_path), ("fold", i_fold)], blt := [], gls := [], lev := 1, fz := none, fzf := [], exs := xcs, gcd := false }
def K_folded_path : Kc := { mv := [], rf := false, fzs := [], lds := [] }
theorem h_folded_path : FnScope ["path"] ["path"] (defScope (topS 13)) := ⟨rfl, rfl, rfl, by decide +kernel, rfl, by decide +kernel, by decide +kernel⟩
theorem c_folded_path : cSs 300 C_folded_path K_folded_path (defBody (topS 13)) = some s_folded_path := by kernel_rfl
/-! _law_word -/
def s_l_word : Sx := sSeq (sTry (sSeq (sExpr (mCall i_folded_path.sem [mVar true 0])) (sSkip)) xcs [("BadPath", none)]) (sSeq (sRet (mC .none)) (sSkip))
def i_l_word : FnI := ⟨runS s_l_word 2, false, 1⟩
def C_l_word : Cc := { sc := defScope (topS 29), N := ["path", "e"], fnc := fun _ => true, fns := [("folded_path", i_folded_path)], blt := [], gls := [], lev := 2, fz := none, fzf := [], exs := xcs, gcd := false }
def K_l_word : Kc := { mv := [], rf := false, fzs := [], lds := [] }
theorem h_l_word : FnScope ["path", "e"] ["path"] (defScope (topS 29)) := ⟨rfl, rfl, rfl, by decide +kernel, rfl, by decide +kernel, by decide +kernel⟩
theorem c_l_word : cSs 300 C_l_word K_l_word (defBody (topS 29)) = some s_l_word := by kernel_rfl
/-! _law_fold -/
def b_l_fold_1 : Sx := sSeq (sIf (tBl (mBin (dIn false) (mVar false 2) (mVar false 1))) (sSeq (sSet (tNm 1) (mSl (mVar false 1) none (some (mBin dAdd (mLm dIndex (mVar false 1) (mVar false 2)) (mC (.int 1)))))) (sSkip)) (sSeq (sSet (tNm 1) (mBin dAdd (mVar false 1) (mLst [mVar true 2]))) (sSkip))) (sSkip)
def s_l_fold : Sx := sSeq (sSet (tNm 1) (mLst [])) (sSeq (sFor (iSeq (mVar true 0)) (tNm 2) b_l_fold_1) (sSeq (sRetV false 1) (sSkip)))
def i_l_fold : FnI := ⟨runS s_l_fold 3, false, 1⟩
def C_l_fold : Cc := { sc := defScope (topS 26), N := ["path", "found", "name"], fnc := fun _ => true, fns := [], blt := [], gls := [], lev := 0, fz := none, fzf := [], exs := [], gcd := false }
def K_l_fold : Kc := { mv := [], rf := false, fzs := [], lds := [] }
theorem h_l_fold : FnScope ["path", "found", "name"] ["path"] (defScope (topS 26)) := ⟨rfl, rfl, rfl, by decide +kernel, rfl, by decide +kernel, by decide +kernel⟩
theorem c_l_fold : cSs 300 C_l_fold K_l_fold (defBody (topS 26)) = some s_l_fold := by kernel_rfl
/-! names_of -/
def s_names_of : Sx := sSeq (sRet (mSortSet (mComp2 (iSeq (mVar false 0)) (tTp [tNm 1, tNm 2]) (fun _ => .ok true) (iSeq (mVar true 1)) (tNm 3) (fun _ => .ok true) (mVar true 3) [1, 2, 3] [3]))) (sSkip)
def i_names_of : FnI := ⟨runS s_names_of 4, false, 1⟩
def C_names_of : Cc := { sc := defScope (topS 16), N := ["tree", "path", "_", "name"], fnc := fun _ => true, fns := [], blt := ["sorted"], gls := [], lev := 0, fz := none, fzf := [], exs := [], gcd := false }
def K_names_of : Kc := { mv := [], rf := false, fzs := [], lds := [] }
theorem h_names_of : FnScope ["tree", "path", "_", "name"] ["tree"] (defScope (topS 16)) := ⟨rfl, rfl, rfl, by decide +kernel, rfl, by decide +kernel, by decide +kernel⟩
theorem c_names_of : cSs 300 C_names_of K_names_of (defBody (topS 16)) = some s_names_of := by kernel_rfl
/-! own -/
def s_own : Sx := sSeq (sExpr (mCall i_check_tree.sem [mVar true 0])) (sSeq (sRet (mComp (iSeq (mCall i_names_of.sem [mVar true 0])) (tNm 1) (fun _ => .ok true) (mTup [mVar true 1, mCall dSum [mComp (iSeq (mVar false 0)) (tTp [tNm 2, tNm 3]) (tBl (mBin dEq (mSl (mVar false 2) (some (mUn dNeg (mC (.int 1)))) none) (mLst [mVar true 1]))) (mVar true 3) [2, 3]]]) [1])) (sSkip))
def i_own : FnI := ⟨runS s_own 4, false, 1⟩
def C_own : Cc := { sc := defScope (topS 17), N := ["tree", "name", "path", "cost"], fnc := fun _ => true, fns := [("check_tree", i_check_tree), ("names_of", i_names_of)], blt := ["sum"], gls := [], lev := 2, fz := none, fzf := [], exs := [], gcd := false }
def K_own : Kc := { mv := [], rf := false, fzs := [], lds := [] }
theorem h_own : FnScope ["tree", "name", "path", "cost"] ["tree"] (defScope (topS 17)) := ⟨rfl, rfl, rfl, by decide +kernel, rfl, by decide +kernel, by decide +kernel⟩
theorem c_own : cSs 300 C_own K_own (defBody (topS 17)) = some s_own := by kernel_rfl
/-! reach -/
def s_reach : Sx := sSeq (sExpr (mCall i_check_tree.sem [mVar true 0])) (sSeq (sRet (mComp (iSeq (mCall i_names_of.sem [mVar true 0])) (tNm 1) (fun _ => .ok true) (mTup [mVar true 1, mCall dSum [mComp (iSeq (mVar false 0)) (tTp [tNm 2, tNm 3]) (tBl (mBin (dIn false) (mVar false 1) (mVar false 2))) (mVar true 3) [2, 3]]]) [1])) (sSkip))
def i_reach : FnI := ⟨runS s_reach 4, false, 1⟩
def C_reach : Cc := { sc := defScope (topS 18), N := ["tree", "name", "path", "cost"], fnc := fun _ => true, fns := [("check_tree", i_check_tree), ("names_of", i_names_of)], blt := ["sum"], gls := [], lev := 2, fz := none, fzf := [], exs := [], gcd := false }
def K_reach : Kc := { mv := [], rf := false, fzs := [], lds := [] }
theorem h_reach : FnScope ["tree", "name", "path", "cost"] ["tree"] (defScope (topS 18)) := ⟨rfl, rfl, rfl, by decide +kernel, rfl, by decide +kernel, by decide +kernel⟩
theorem c_reach : cSs 300 C_reach K_reach (defBody (topS 18)) = some s_reach := by kernel_rfl
/-! longer -/
def s_longer : Sx := sSeq (sRet (mComp (iSeq (mVar false 0)) (tTp [tNm 2, tNm 3]) (tAnd (tBl (mBin dEq (mCall dLen [mVar false 2]) (mBin dAdd (mCall dLen [mVar false 1]) (mC (.int 1))))) (tBl (mBin dEq (mSl (mVar false 2) none (some (mUn dNeg (mC (.int 1))))) (mVar false 1)))) (mVar true 2) [2, 3])) (sSkip)
def i_longer : FnI := ⟨runS s_longer 4, false, 2⟩
def C_longer : Cc := { sc := defScope (topS 19), N := ["tree", "path", "other", "_"], fnc := fun _ => true, fns := [], blt := ["len"], gls := [], lev := 0, fz := none, fzf := [], exs := [], gcd := false }
def K_longer : Kc := { mv := [], rf := false, fzs := [], lds := [] }
theorem h_longer : FnScope ["tree", "path", "other", "_"] ["tree", "path"] (defScope (topS 19)) := ⟨rfl, rfl, rfl, by decide +kernel, rfl, by decide +kernel, by decide +kernel⟩
theorem c_longer : cSs 300 C_longer K_longer (defBody (topS 19)) = some s_longer := by kernel_rfl
/-! whole_of -/
def s_whole_of : Sx := sSeq (sRet (mCall dSum [mComp (iSeq (mVar false 0)) (tTp [tNm 2, tNm 3]) (tBl (mBin dEq (mSl (mVar false 2) none (some (mCall dLen [mVar false 1]))) (mVar false 1))) (mVar true 3) [2, 3]])) (sSkip)
def i_whole_of : FnI := ⟨runS s_whole_of 4, false, 2⟩
def C_whole_of : Cc := { sc := defScope (topS 10), N := ["tree", "path", "other", "cost"], fnc := fun _ => true, fns := [], blt := ["sum", "len"], gls := [], lev := 0, fz := none, fzf := [], exs := [], gcd := false }
def K_whole_of : Kc := { mv := [], rf := false, fzs := [], lds := [] }
theorem h_whole_of : FnScope ["tree", "path", "other", "cost"] ["tree", "path"] (defScope (topS 10)) := ⟨rfl, rfl, rfl, by decide +kernel, rfl, by decide +kernel, by decide +kernel⟩
theorem c_whole_of : cSs 300 C_whole_of K_whole_of (defBody (topS 10)) = some s_whole_of := by kernel_rfl
/-! hot -/
def t_hot_1 : Ts := tVal (mVar false 2)
def b_hot_2 : Sx := sSeq (sSet (tNm 3) (mComp (iSeq (mCall i_longer.sem [mVar true 0, mVar true 1])) (tNm 4) (fun _ => .ok true) (mTup [mUn dNeg (mCall i_whole_of.sem [mVar true 0, mVar true 4]), mVar true 4]) [4])) (sSeq (sSet (tNm 2) (mAnd (mBin dGt (mCall dLen [mVar false 3]) (mC (.int 0))) (mBin dLt (mBin dIx (mCall dMin [mVar false 3]) (mC (.int 0))) (mC (.int 0))))) (sSeq (sIf (tVal (mVar false 2)) (sSeq (sSet (tNm 1) (mBin dIx (mCall dMin [mVar false 3]) (mC (.int 1)))) (sSkip)) (sSkip)) (sSkip)))
def s_hot : Sx := sSeq (sExpr (mCall i_check_tree.sem [mVar true 0])) (sSeq (sSet (tNm 1) (mLst [])) (sSeq (sSet (tNm 2) (mC (.bool true))) (sSeq (sWhile t_hot_1 b_hot_2) (sSeq (sRetV false 1) (sSkip)))))
def i_hot : FnI := ⟨runS s_hot 5, false, 1⟩
def C_hot : Cc := { sc := defScope (topS 20), N := ["tree", "here", "going", "costs", "other"], fnc := fun _ => true, fns := [("check_tree", i_check_tree), ("longer", i_longer), ("whole_of", i_whole_of)], blt := ["len", "min"], gls := [], lev := 2, fz := none, fzf := [], exs := [], gcd := false }
def K_hot : Kc := { mv := [], rf := false, fzs := [], lds := [] }
theorem h_hot : FnScope ["tree", "here", "going", "costs", "other"] ["tree"] (defScope (topS 20)) := ⟨rfl, rfl, rfl, by decide +kernel, rfl, by decide +kernel, by decide +kernel⟩
theorem c_hot : cSs 300 C_hot K_hot (defBody (topS 20)) = some s_hot := by kernel_rfl
/-! _law_whole -/
def s_l_whole : Sx := sSeq (sRet (mCall dSum [mComp (iSeq (mVar false 0)) (tTp [tNm 2, tNm 3]) (tBl (mBin dEq (mSl (mVar false 2) none (some (mCall dLen [mVar false 1]))) (mVar false 1))) (mVar true 3) [2, 3]])) (sSkip)
def i_l_whole : FnI := ⟨runS s_l_whole 4, false, 2⟩
def C_l_whole : Cc := { sc := defScope (topS 27), N := ["tree", "path", "other", "cost"], fnc := fun _ => true, fns := [], blt := ["sum", "len"], gls := [], lev := 0, fz := none, fzf := [], exs := [], gcd := false }
def K_l_whole : Kc := { mv := [], rf := false, fzs := [], lds := [] }
theorem h_l_whole : FnScope ["tree", "path", "other", "cost"] ["tree", "path"] (defScope (topS 27)) := ⟨rfl, rfl, rfl, by decide +kernel, rfl, by decide +kernel, by decide +kernel⟩
theorem c_l_whole : cSs 300 C_l_whole K_l_whole (defBody (topS 27)) = some s_l_whole := by kernel_rfl
/-! _law_hot -/
def t_l_hot_1 : Ts := tVal (mVar false 2)
def b_l_hot_2 : Sx := sSeq (sIf (tAnd (tBl (mBin dEq (mCall dLen [mVar false 4]) (mBin dAdd (mCall dLen [mVar false 1]) (mC (.int 1))))) (tBl (mBin dEq (mSl (mVar false 4) none (some (mUn dNeg (mC (.int 1))))) (mVar false 1)))) (sSeq (sIf (tOr (tBl (mBin (dIs false) (mVar false 3) (mC .none))) (tBl (mBin dGt (mCall i_l_whole.sem [mVar true 0, mVar true 4]) (mCall i_l_whole.sem [mVar true 0, mVar true 3])))) (sSeq (sSet (tNm 3) (mVar true 4)) (sSkip)) (sSkip)) (sSkip)) (sSkip)) (sSkip)
def b_l_hot_3 : Sx := sSeq (sSet (tNm 3) (mC .none)) (sSeq (sFor (iSeq (mVar true 0)) (tTp [tNm 4, tNm 5]) b_l_hot_2) (sSeq (sSet (tNm 2) (mAnd (mBin (dIs true) (mVar false 3) (mC .none)) (mBin dGt (mCall i_l_whole.sem [mVar true 0, mVar true 3]) (mC (.int 0))))) (sSeq (sIf (tVal (mVar false 2)) (sSeq (sSet (tNm 1) (mVar true 3)) (sSkip)) (sSkip)) (sSkip))))
def s_l_hot : Sx := sSeq (sSet (tNm 1) (mLst [])) (sSeq (sSet (tNm 2) (mC (.bool true))) (sSeq (sWhile t_l_hot_1 b_l_hot_3) (sSeq (sRetV false 1) (sSkip))))
def i_l_hot : FnI := ⟨runS s_l_hot 6, false, 1⟩
def C_l_hot : Cc := { sc := defScope (topS 28), N := ["tree", "here", "going", "best", "path", "cost"], fnc := fun _ => true, fns := [("_law_whole", i_l_whole)], blt := ["len"], gls := [], lev := 1, fz := none, fzf := [], exs := [], gcd := false }
def K_l_hot : Kc := { mv := [], rf := false, fzs := [], lds := [] }
theorem h_l_hot : FnScope ["tree", "here", "going", "best", "path", "cost"] ["tree"] (defScope (topS 28)) := ⟨rfl, rfl, rfl, by decide +kernel, rfl, by decide +kernel, by decide +kernel⟩
theorem c_l_hot : cSs 300 C_l_hot K_l_hot (defBody (topS 28)) = some s_l_hot := by kernel_rfl
/-! law -/
def b_law_1 : Sx := sSeq (sSet (tNm 8) (mCall i_folded_path.sem [mCall dList [mVar false 6]])) (sSeq (sIf (tOr (tBl (mBin dNe (mCall dRepr [mVar false 8]) (mCall dRepr [mCall i_l_fold.sem [mVar true 6]]))) (tBl (mBin dNe (mCall dRepr [mCall i_folded_path.sem [mVar true 8]]) (mCall dRepr [mVar false 8])))) (sSeq (sRet (mC (.bool false))) (sSkip)) (sSkip)) (sSkip))
def s_law : Sx := sSeq (sSet (tNm 1) (mFzCall F_l_draws 0)) (sSeq (sSet (tNm 2) (mCall i_l_tree.sem [mVar true 1, mC (.int 10), mCall i_l_mix.sem [mVar true 1, mC (.int 0), mC (.int 60)], mBin dIx (mLst [mC (.int 2), mC (.int 4), mC (.int 10)]) (mCall i_l_mix.sem [mVar true 1, mC (.int 1), mC (.int 3)]), mBin dIx (mLst [mC (.int 2), mC (.int 9), mC (.int 1000001)]) (mCall i_l_mix.sem [mVar true 1, mC (.int 2), mC (.int 3)])])) (sSeq (sSet (tNm 3) (mCall dRepr [mVar false 2])) (sSeq (sSet (tNm 4) (mCall i_l_summed.sem [mComp (iSeq (mVar false 2)) (tTp [tNm 6, tNm 7]) (fun _ => .ok true) (mTup [mCall i_l_fold.sem [mVar true 6], mVar true 7]) [6, 7]])) (sSeq (sOwn 5 (mCall i_folded.sem [mVar true 2])) (sSeq (sIf (tOr (tBl (mBin dNe (mCall dRepr [mVar false 5]) (mCall dRepr [mVar false 4]))) (tBl (mBin dNe (mCall dSum [mComp (iSeq (mVar false 5)) (tTp [tNm 6, tNm 7]) (fun _ => .ok true) (mVar true 7) [6, 7]]) (mCall dSum [mComp (iSeq (mVar false 2)) (tTp [tNm 6, tNm 7]) (fun _ => .ok true) (mVar true 7) [6, 7]])))) (sSeq (sRet (mC (.bool false))) (sSkip)) (sSkip)) (sSeq (sIf (tLend [5] (tBl (mBin dNe (mCall dRepr [mCall i_folded.sem [mVar true 5]]) (mCall dRepr [mVar false 4])))) (sSeq (sRet (mC (.bool false))) (sSkip)) (sSkip)) (sSeq (sFor (iSeq (mSl (mVar false 2) none (some (mC (.int 20))))) (tTp [tNm 6, tNm 7]) b_law_1) (sSeq (sSet (tNm 9) (mSortSet (mCall dSum2 [mComp (iSeq (mVar false 2)) (tTp [tNm 6, tNm 7]) (fun _ => .ok true) (mVar true 6) [6, 7], mLst []]))) (sSeq (sSet (tNm 10) (mComp (iSeq (mVar false 9)) (tNm 12) (fun _ => .ok true) (mTup [mVar true 12, mCall dSum [mComp (iSeq (mVar false 2)) (tTp [tNm 6, tNm 7]) (tAnd (tBl (mBin dNe (mVar false 6) (mLst []))) (tBl (mBin dEq (mBin dIx (mVar false 6) (mUn dNeg (mC (.int 1)))) (mVar false 12)))) (mVar true 7) [6, 7]]]) [12])) (sSeq (sSet (tNm 11) (mComp (iSeq (mVar false 9)) (tNm 12) (fun _ => .ok true) (mTup [mVar true 12, mCall dSum [mComp (iSeq (mVar false 2)) (tTp [tNm 6, tNm 7]) (tBl (mBin (dIn false) (mVar false 12) (mVar false 6))) (mVar true 7) [6, 7]]]) [12])) (sSeq (sIf (tOr (tBl (mBin dNe (mCall dRepr [mCall i_own.sem [mVar true 2]]) (mCall dRepr [mVar false 10]))) (tOr (tBl (mBin dNe (mCall dRepr [mCall i_reach.sem [mVar true 2]]) (mCall dRepr [mVar false 11]))) (tBl (mBin dNe (mCall dRepr [mCall i_hot.sem [mVar true 2]]) (mCall dRepr [mCall i_l_hot.sem [mVar true 2]]))))) (sSeq (sRet (mC (.bool false))) (sSkip)) (sSkip)) (sSeq (sApp 5 (mC (.int 0))) (sSeq (sIf (tOr (tBl (mBin dNe (mCall dRepr [mCall i_folded.sem [mVar true 2]]) (mCall dRepr [mVar false 4]))) (tBl (mBin dNe (mCall dRepr [mVar false 2]) (mVar false 3)))) (sSeq (sRet (mC (.bool false))) (sSkip)) (sSkip)) (sSeq (sRet (mAnd (mBin dEq (mCall i_l_word.sem [mLst [mC (.int 10)]]) (mC (.int 0))) (mAnd (mBin dEq (mCall i_l_word.sem [mLst [mC (.int 0), mUn dNeg (mC (.int 1))]]) (mC (.int 0))) (mBin dEq (mCall i_l_word.sem [mBin dMul (mLst [mC (.int 1)]) (mC (.int 9))]) (mC (.int 0)))))) (sSkip)))))))))))))))
def C_law : Cc := { sc := defScope (topS 30), N := ["script", "draws", "tree", "kept", "due", "told", "path", "cost", "one", "names", "mine", "far", "name"], fnc := fun _ => true, fns := [("_law_tree", i_l_tree), ("_law_mix", i_l_mix), ("_law_summed", i_l_summed), ("_law_fold", i_l_fold), ("folded", i_folded), ("folded_path", i_folded_path), ("own", i_own), ("reach", i_reach), ("hot", i_hot), ("_law_hot", i_l_hot), ("_law_word", i_l_word)], blt := ["repr", "sum", "list", "sorted", "set"], gls := [], lev := 3, fz := some 0, fzf := [("_law_draws", (F_l_draws, false))], exs := [], gcd := false }
def K_law : Kc := { mv := [5], rf := false, fzs := [], lds := [(152, [5])] }
theorem h_law : FnScope ["script", "draws", "tree", "kept", "due", "told", "path", "cost", "one", "names", "mine", "far", "name"] ["script"] (defScope (topS 30)) := ⟨rfl, rfl, rfl, by decide +kernel, rfl, by decide +kernel, by decide +kernel⟩
theorem c_law : cSs 300 C_law K_law (defBody (topS 30)) = some s_law := by kernel_rfl
end
end K75

/-! Equations by which a combinator is run. -/
namespace Sm
open PySem L2
section
variable {a b : Sx} {ρ : Rho} {t u : Ts} {m m' m'' : M} {d e : PyData} {i j : Int} {kp : Bool} {ms : List M} {ds es : List PyData}
@[simp] theorem sSeq_ap : sSeq a b ρ = (match a ρ with
  | .nx ρ' => b ρ'
  | o => o) := by
  refine Eq.trans ?_ (Eq.refl _)
  rfl
@[simp] theorem sSkip_ap : sSkip ρ = .nx ρ := by
  refine Eq.trans ?_ (Eq.refl _)
  rfl
@[simp] theorem sIf_ap : sIf t a b ρ = lf (t ρ) ρ fun k => if k then a ρ else b ρ := by
  refine Eq.trans ?_ (Eq.refl _)
  rfl
@[simp] theorem sRet_ap : sRet m ρ = lf (m ρ) ρ fun d => .rt d := by
  refine Eq.trans ?_ (Eq.refl _)
  rfl
@[simp] theorem sRs_ap {x : Str} : sRs x m ρ = lf (m ρ) ρ fun d => .xc ρ x d := by
  refine Eq.trans ?_ (Eq.refl _)
  rfl
@[simp] theorem sExpr_ap : sExpr m ρ = lf (m ρ) ρ fun _ => .nx ρ := by
  refine Eq.trans ?_ (Eq.refl _)
  rfl
@[simp] theorem sSet_ap {n : Nat} : sSet (tNm n) m ρ = lf (m ρ) ρ fun d => .nx (ρ.set n (.sh d)) := by
  refine Eq.trans ?_ (Eq.refl _)
  rfl
@[simp] theorem sOwn_ap {n : Nat} : sOwn n m ρ = lf (m ρ) ρ fun d => .nx (ρ.set n (ownC d)) := by
  refine Eq.trans ?_ (Eq.refl _)
  rfl
@[simp] theorem ownC_list : ownC (.list ds) = .ow (.list ds) := by
  refine Eq.trans ?_ (Eq.refl _)
  rfl
@[simp] theorem mC_ap : mC d ρ = .ok d := by
  refine Eq.trans ?_ (Eq.refl _)
  rfl
@[simp] theorem mBin_ap {f : PyData → PyData → Rs PyData} : mBin f m m' ρ = (m ρ >>= fun x => m' ρ >>= fun y => f x y) := by
  refine Eq.trans ?_ (Eq.refl _)
  rfl
@[simp] theorem mUn_ap {f : PyData → Rs PyData} : mUn f m ρ = (m ρ >>= fun x => f x) := by
  refine Eq.trans ?_ (Eq.refl _)
  rfl
@[simp] theorem mAll_nil : mAll [] ρ = .ok [] := by
  refine Eq.trans ?_ (Eq.refl _)
  rfl
@[simp] theorem mAll_cons : mAll (m :: ms) ρ = (m ρ >>= fun d => mAll ms ρ >>= fun ds => .ok (d :: ds)) := by
  refine Eq.trans ?_ (Eq.refl _)
  rfl
@[simp] theorem mCall_ap {f : List PyData → Rs PyData} : mCall f ms ρ = (mAll ms ρ >>= fun ds => f ds) := by
  refine Eq.trans ?_ (Eq.refl _)
  rfl
@[simp] theorem mTup_ap : mTup ms ρ = (mAll ms ρ >>= fun ds => .ok (.tuple ds)) := by
  refine Eq.trans ?_ (Eq.refl _)
  rfl
@[simp] theorem mLst_ap : mLst ms ρ = (mAll ms ρ >>= fun ds => .ok (.list ds)) := by
  refine Eq.trans ?_ (Eq.refl _)
  rfl
@[simp] theorem mIf_ap : mIf t m m' ρ = (t ρ >>= fun k => if k then m ρ else m' ρ) := by
  refine Eq.trans ?_ (Eq.refl _)
  rfl
@[simp] theorem mAnd_ap : mAnd m m' ρ = (m ρ >>= fun x => dTru x >>= fun k => if k then m' ρ else .ok x) := by
  refine Eq.trans ?_ (Eq.refl _)
  rfl
@[simp] theorem mOr_ap : mOr m m' ρ = (m ρ >>= fun x => dTru x >>= fun k => if k then .ok x else m' ρ) := by
  refine Eq.trans ?_ (Eq.refl _)
  rfl
@[simp] theorem mNot_ap : mNot m ρ = (m ρ >>= fun x => dTru x >>= fun k => .ok (.bool (!k))) := by
  refine Eq.trans ?_ (Eq.refl _)
  rfl
@[simp] theorem tVal_ap : tVal m ρ = (m ρ >>= fun x => dTru x) := by
  refine Eq.trans ?_ (Eq.refl _)
  rfl
@[simp] theorem tBl_ap : tBl m ρ = (m ρ >>= fun x => match x with
  | .bool b => .ok b
  | _ => .no) := by
  refine Eq.trans ?_ (Eq.refl _)
  rfl
@[simp] theorem tAnd_ap : tAnd t u ρ = (t ρ >>= fun k => if k then u ρ else .ok false) := by
  refine Eq.trans ?_ (Eq.refl _)
  rfl
@[simp] theorem tOr_ap : tOr t u ρ = (t ρ >>= fun k => if k then .ok true else u ρ) := by
  refine Eq.trans ?_ (Eq.refl _)
  rfl
@[simp] theorem tNot_ap : tNot t ρ = (t ρ >>= fun k => .ok (!k)) := by
  refine Eq.trans ?_ (Eq.refl _)
  rfl
@[simp] theorem mChain_ap {f g : PyData → PyData → Rs PyData} : mChain f g m m' m'' ρ = (m ρ >>= fun x => m' ρ >>= fun y => f x y >>= fun z => match z with
  | .bool true => m'' ρ >>= fun w => g y w
  | .bool false => .ok (.bool false)
  | _ => .no) := by
  refine Eq.trans ?_ (Eq.refl _)
  rfl
@[simp] theorem dAdd_int : dAdd (.int i) (.int j) = .ok (.int (i + j)) := by
  refine Eq.trans ?_ (Eq.refl _)
  rfl
@[simp] theorem dSub_int : dSub (.int i) (.int j) = .ok (.int (i - j)) := by
  refine Eq.trans ?_ (Eq.refl _)
  rfl
theorem dMul_int (h : mulOk i j = true) : dMul (.int i) (.int j) = .ok (.int (i * j)) := if_pos h
theorem mulOk_l (h : -(2 ^ 64) < i) (h' : i < 2 ^ 64) : mulOk i j = true := by simp only [mulOk, h, h', and_self, decide_true, Bool.true_or]
theorem mulOk_r (h : -(2 ^ 64) < j) (h' : j < 2 ^ 64) : mulOk i j = true := by simp only [mulOk, h, h', and_self, decide_true, Bool.or_true, Bool.true_or]
theorem dMod_int (h : j ≠ 0) : dMod (.int i) (.int j) = .ok (.int (i.fmod j)) := if_pos h
@[simp] theorem dNeg_int : dNeg (.int i) = .ok (.int (-i)) := by
  refine Eq.trans ?_ (Eq.refl _)
  rfl
@[simp] theorem dLt_int : dLt (.int i) (.int j) = .ok (.bool (decide (i < j))) := by
  refine Eq.trans ?_ (Eq.refl _)
  rfl
@[simp] theorem dGt_int : dGt (.int i) (.int j) = .ok (.bool (decide (j < i))) := by
  refine Eq.trans ?_ (Eq.refl _)
  rfl
@[simp] theorem dLe_int : dLe (.int i) (.int j) = .ok (.bool (decide (i ≤ j))) := by
  refine Eq.trans ?_ (Eq.refl _)
  rfl
@[simp] theorem dGe_int : dGe (.int i) (.int j) = .ok (.bool (decide (j ≤ i))) := by
  refine Eq.trans ?_ (Eq.refl _)
  rfl
@[simp] theorem dTru_bool {b : Bool} : dTru (.bool b) = .ok b := by
  refine Eq.trans ?_ (Eq.refl _)
  rfl
@[simp] theorem dTru_int : dTru (.int i) = .ok (i != 0) := by
  refine Eq.trans ?_ (Eq.refl _)
  rfl
@[simp] theorem dLen_list : dLen [.list ds] = .ok (.int ds.length) := by
  refine Eq.trans ?_ (Eq.refl _)
  rfl
@[simp] theorem dLen_tup : dLen [.tuple ds] = .ok (.int ds.length) := by
  refine Eq.trans ?_ (Eq.refl _)
  rfl
@[simp] theorem dInt_int : dInt [.int i] = .ok (.int i) := by
  refine Eq.trans ?_ (Eq.refl _)
  rfl
@[simp] theorem dInt_bool {b : Bool} : dInt [.bool b] = .ok (.int (if b then 1 else 0)) := by
  refine Eq.trans ?_ (Eq.refl _)
  rfl
@[simp] theorem dAbs_int : dAbs [.int i] = .ok (.int (absI i)) := by
  refine Eq.trans ?_ (Eq.refl _)
  rfl
@[simp] theorem dMax_int : dMax [.int i, .int j] = .ok (.int (if j > i then j else i)) := by
  refine Eq.trans ?_ (Eq.refl _)
  rfl
@[simp] theorem dMin_int : dMin [.int i, .int j] = .ok (.int (if j < i then j else i)) := by
  refine Eq.trans ?_ (Eq.refl _)
  rfl
@[simp] theorem mVar_0 {x : Cell} {ρ : Rho} : mVar kp 0 (x :: ρ) = (match x with
  | .sh d => .ok d
  | .ow d => if kp then .no else .ok d
  | _ => .no) := by cases x <;> rfl
@[simp] theorem mVar_s {n : Nat} {x : Cell} {ρ : Rho} : mVar kp (n + 1) (x :: ρ) = mVar kp n ρ := by
  refine Eq.trans ?_ (Eq.refl _)
  rfl
@[simp] theorem eq_int : dEq (.int i) (.int j) = .ok (.bool (decide (i = j))) := by
  show okB (i == j) = _
  rw [show (i == j) = decide (i = j) by rw [Bool.eq_iff_iff]; simp]
  rfl
@[simp] theorem ne_int : dNe (.int i) (.int j) = .ok (.bool (!decide (i = j))) := by
  show okB (!(i == j)) = _
  rw [show (i == j) = decide (i = j) by rw [Bool.eq_iff_iff]; simp]
  rfl
@[simp] theorem eq_str {x y : Str} : dEq (.str x) (.str y) = .ok (.bool (decide (x = y))) := by
  refine Eq.trans ?_ (Eq.refl _)
  rfl
@[simp] theorem ne_str {x y : Str} : dNe (.str x) (.str y) = .ok (.bool (!decide (x = y))) := by
  refine Eq.trans ?_ (Eq.refl _)
  rfl
@[simp] theorem ne_bool {x y : Bool} : dNe (.bool x) (.bool y) = .ok (.bool (x != y)) := by cases x <;> cases y <;> rfl
@[simp] theorem eq_bool {x y : Bool} : dEq (.bool x) (.bool y) = .ok (.bool (x == y)) := by cases x <;> cases y <;> rfl
end
example : runS (sSeq (sIf (tBl (mBin dLt (mVar false 0) (mC (.int 1)))) (sRet (mVar false 1)) sSkip) (sRet (mC (.int 2)))) 3 [.int 0, .int 5] = .ok (.int 5) := by
  simp [runS, rho0, outR]
theorem iter1 {ms : List M} {ρ : Rho} {i : Int} {xs : List PyData} (h : mAll ms ρ = .ok [.int i]) (hr : rangeD 0 i = .ok xs) : iCall iR1 ms ρ = .ok xs := by
  unfold iCall
  rw [h, Rs.bind_ok]
  exact hr
theorem iter2 {ms : List M} {ρ : Rho} {i j : Int} {xs : List PyData} (h : mAll ms ρ = .ok [.int i, .int j]) (hr : rangeD i j = .ok xs) : iCall iR2 ms ρ = .ok xs := by
  unfold iCall
  rw [h, Rs.bind_ok]
  exact hr
theorem range_nat {n : Nat} (hn : n ≤ 16777216) : rangeD 0 n = .ok (rangeL 0 n) := by
  have q := rangeL_ok (i := 0) (j := n) (by decide) (by decide) (by omega) (by omega) (by omega)
  rwa [show ((n : Int) - 0).toNat = n by omega] at q
theorem comp_run {it : Its} {tg : Tg} {t : Ts} {el : M} {own : List Nat} {ρ : Rho} {xs : List PyData} (hit : it ρ = .ok xs) (p : PyData → Bool) (f : PyData → PyData)
    (h : ∀ x ∈ xs, ∃ ρ1, tg x (wipeR ρ own) = .ok ρ1 ∧ t ρ1 = .ok (p x) ∧ (p x = true → el ρ1 = .ok (f x))) : mComp it tg t el own ρ = .ok (.list ((xs.filter p).map f)) := by
  have key : ∀ (l : List PyData), (∀ x ∈ l, x ∈ xs) → compL tg t el (wipeR ρ own) l = .ok ((l.filter p).map f) := by
    intro l
    induction l with
    | nil => intro _; rfl
    | cons x l ih =>
      intro hl
      obtain ⟨ρ1, h1, h2, h3⟩ := h x (hl x List.mem_cons_self)
      have ih' := ih fun y hy => hl y (List.mem_cons_of_mem _ hy)
      unfold compL
      rw [h1, Rs.bind_ok, h2, Rs.bind_ok]
      cases hp : p x with
      | true => simp [h3 hp, Rs.hush, ih', hp, List.filter_cons]
      | false => simp [ih', hp, List.filter_cons]
  unfold mComp
  rw [hit, Rs.bind_ok, key xs fun _ h => h]
  rfl
/-- a comprehension over a range, without a test -/
theorem comp_range {it : Its} {n : Nat} {el : M} {own : List Nat} {ρ : Rho} {m : Nat} (hit : it ρ = .ok (rangeL 0 m)) (f : Nat → PyData) (h : ∀ k, k < m → el ((wipeR ρ own).set n (.sh (.int k))) = .ok (f k)) :
    mComp it (tNm n) (fun _ => .ok true) el own ρ = .ok (.list ((List.range m).map f)) := by
  have q := comp_run (tg := tNm n) (t := fun _ => .ok true) (el := el) (own := own) hit (fun _ => true) (fun x => match x with
    | .int i => f i.toNat
    | _ => .none) (by
    intro x hx
    obtain ⟨k, hk⟩ := List.mem_iff_getElem?.mp hx
    obtain ⟨h1, rfl⟩ := rangeL_get hk
    refine ⟨_, rfl, rfl, fun _ => ?_⟩
    rw [Int.zero_add]
    exact h k h1)
  rw [q, List.filter_eq_self.mpr fun _ _ => rfl]
  simp [rangeL, Function.comp_def]
theorem sem_rt {s : Sx} {n ar : Nat} {fr : Bool} {ds : List PyData} {ρ : Rho} {d : PyData} (h : rho0 n (ds.map .sh) = ρ) (e : s ρ = .rt d) : (⟨runS s n, fr, ar⟩ : FnI).sem ds = .ok d := by
  show outR (s (rho0 n (ds.map .sh))) = _
  rw [h, e]
  rfl
theorem sem_xc {s : Sx} {n ar : Nat} {fr : Bool} {ds : List PyData} {ρ ρ' : Rho} {c : Str} {d : PyData} (h : rho0 n (ds.map .sh) = ρ) (e : s ρ = .xc ρ' c d) : (⟨runS s n, fr, ar⟩ : FnI).sem ds = .exc c d := by
  show outR (s (rho0 n (ds.map .sh))) = _
  rw [h, e]
  rfl
theorem sem_nx {s : Sx} {n ar : Nat} {fr : Bool} {ds : List PyData} {ρ ρ' : Rho} (h : rho0 n (ds.map .sh) = ρ) (e : s ρ = .nx ρ') : (⟨runS s n, fr, ar⟩ : FnI).sem ds = .ok .none := by
  show outR (s (rho0 n (ds.map .sh))) = _
  rw [h, e]
  rfl
theorem atI_nat {α : Type} {xs : List α} {k : Nat} (h : k < xs.length) : atI xs (k : Int) = some xs[k] := by
  unfold atI ixN
  rw [if_pos (by omega), if_pos (by omega)]
  simp [h]
theorem dIx_list {ds : List PyData} {k : Nat} (h : k < ds.length) : dIx (.list ds) (.int k) = .ok ds[k] := by
  show ofOpt (atI ds k) = _
  rw [atI_nat h]
  rfl
@[simp] theorem dIx_l0 {a : PyData} {r : List PyData} : dIx (.list (a :: r)) (.int 0) = .ok a := by
  have q := dIx_list (ds := a :: r) (k := 0) (by simp)
  exact q
@[simp] theorem dIx_t0 {a : PyData} {r : List PyData} : dIx (.tuple (a :: r)) (.int 0) = .ok a := by
  have q := atI_nat (xs := a :: r) (k := 0) (by simp)
  show ofOpt (atI (a :: r) 0) = _
  rw [show atI (a :: r) 0 = some a from q]
  rfl
@[simp] theorem dIx_t1 {a b : PyData} {r : List PyData} : dIx (.tuple (a :: b :: r)) (.int 1) = .ok b := by
  have q := atI_nat (xs := a :: b :: r) (k := 1) (by simp)
  show ofOpt (atI (a :: b :: r) 1) = _
  rw [show atI (a :: b :: r) 1 = some b from q]
  rfl
theorem iterE {ms : List M} {ρ : Rho} {ds : List PyData} (h : mAll ms ρ = .ok [.list ds]) : iCall iEnumD ms ρ = .ok (ds.zipIdx.map fun p => .tuple [.int (p.2 : Nat), p.1]) := by
  unfold iCall
  rw [h, Rs.bind_ok]
  rfl
theorem sFor_ap {it : Its} {T : Tg} {b : Sx} {ρ : Rho} {xs : List PyData} (h : it ρ = .ok xs) : sFor it T b ρ = forL T b xs ρ := by
  unfold sFor
  rw [h]
  rfl
theorem compL_run {tg : Tg} {t : Ts} {el : M} {ρ : Rho} (p : PyData → Bool) (f : PyData → PyData) : ∀ (l : List PyData) (h : ∀ x ∈ l, ∃ ρ1, tg x ρ = .ok ρ1 ∧ t ρ1 = .ok (p x) ∧ (p x = true → el ρ1 = .ok (f x))), compL tg t el ρ l = .ok ((l.filter p).map f)
  | [], _ => rfl
  | x :: l, h => by
    obtain ⟨ρ1, h1, h2, h3⟩ := h x List.mem_cons_self
    have ih := compL_run (el := el) p f l fun y hy => h y (List.mem_cons_of_mem _ hy)
    unfold compL
    rw [h1, Rs.bind_ok, h2, Rs.bind_ok]
    cases hp : p x with
    | true => simp [h3 hp, Rs.hush, ih, hp, List.filter_cons]
    | false => simp [ih, hp, List.filter_cons]
theorem compZ_all {it : Its} {tg : Tg} {el : M} {own : List Nat} {k : Nat} {ρ : Rho} {xs : List PyData} (hit : it ρ = .ok xs) (f : PyData → PyData) (h : ∀ x ∈ xs, ∃ ρ1, tg x (wipeR (ρ.set k .un) own) = .ok ρ1 ∧ el ρ1 = .ok (f x)) :
    mCompZ it tg (fun _ => .ok true) el own k ρ = .ok (.list (xs.map f)) := by
  have q := compL_run (tg := tg) (t := fun _ => .ok true) (el := el) (ρ := wipeR (ρ.set k .un) own) (fun _ => true) f xs fun x hx => by
    obtain ⟨ρ1, h1, h2⟩ := h x hx
    exact ⟨ρ1, h1, rfl, fun _ => h2⟩
  rw [List.filter_eq_self.mpr fun _ _ => rfl] at q
  unfold mCompZ
  rw [hit, Rs.bind_ok, q]
  rfl
theorem iterZ {ms : List M} {ρ : Rho} {ds es : List PyData} (h : mAll ms ρ = .ok [.list ds, .list es]) : iCall iZipD ms ρ = .ok ((ds.zip es).map fun p => .tuple [p.1, p.2]) := by
  unfold iCall
  rw [h, Rs.bind_ok]
  rfl
theorem map_range {α β : Type} (l : List α) (f : α → β) (d : α) : l.map f = (List.range l.length).map fun k => f (l.getD k d) := by
  apply List.ext_getElem?
  intro i
  by_cases h : i < l.length
  · simp [h]
  · rw [List.getElem?_eq_none (by simpa using h), List.getElem?_eq_none (by simpa using h)]
theorem expr_ok {m : M} {ρ : Rho} {d : PyData} (h : m ρ = .ok d) : sExpr m ρ = .nx ρ := by unfold sExpr; rw [h]; rfl
theorem expr_exc {m : M} {ρ : Rho} {c : Str} {d : PyData} (h : m ρ = .exc c d) : sExpr m ρ = .xc ρ c d := by unfold sExpr; rw [h]; rfl
theorem set_ok {m : M} {ρ : Rho} {d : PyData} {n : Nat} (h : m ρ = .ok d) : sSet (tNm n) m ρ = .nx (ρ.set n (.sh d)) := by rw [sSet_ap, h]; rfl
theorem ret_ok {m : M} {ρ : Rho} {d : PyData} (h : m ρ = .ok d) : sRet m ρ = .rt d := by unfold sRet; rw [h]; rfl
theorem call_ok {f : List PyData → Rs PyData} {ms : List M} {ρ : Rho} {ds : List PyData} {r : Rs PyData} (h : mAll ms ρ = .ok ds) (e : f ds = r) : mCall f ms ρ = r := by unfold mCall; rw [h, Rs.bind_ok, e]
theorem dSl_lo {ds : List PyData} {k : Nat} : dSl (.list ds) none (some (k : Int)) = .ok (.list (ds.take k)) := by
  show Rs.ok (PyData.list (cutD ds none (some (k : Int)))) = _
  unfold cutD
  rw [HT.sIx_nat, HT.sIx_none, List.drop_zero, Nat.sub_zero]
  congr 2
  by_cases h : k ≤ ds.length
  · rw [Nat.min_eq_left h]
  · rw [Nat.min_eq_right (by omega), List.take_of_length_le (Nat.le_refl _), List.take_of_length_le (by omega)]
theorem dSl_hi {ds : List PyData} {k : Nat} : dSl (.list ds) (some (k : Int)) none = .ok (.list (ds.drop k)) := by
  show Rs.ok (PyData.list (cutD ds (some (k : Int)) none)) = _
  unfold cutD
  rw [HT.sIx_nat, HT.sIx_none]
  congr 2
  by_cases h : k ≤ ds.length
  · rw [Nat.min_eq_left h, List.take_of_length_le (by simp)]
  · rw [Nat.min_eq_right (by omega), List.drop_of_length_le (Nat.le_refl _), List.drop_of_length_le (by omega)]
    simp
@[simp] theorem mSl_ap {a : M} {lo hi : Option M} {ρ : Rho} : mSl a lo hi ρ = (a ρ >>= fun x => optM lo ρ >>= fun l => optM hi ρ >>= fun u => dSl x l u) := by
  refine Eq.trans ?_ (Eq.refl _)
  rfl
@[simp] theorem optM_none {ρ : Rho} : optM none ρ = .ok none := by
  refine Eq.trans ?_ (Eq.refl _)
  rfl
@[simp] theorem optM_some {m : M} {ρ : Rho} : optM (some m) ρ = (m ρ >>= fun d => match d with
    | .int i => .ok (some i)
    | _ => .no) := by
  refine Eq.trans ?_ (Eq.refl _)
  rfl
theorem dAdd_list {a b : List PyData} (h : a.length + b.length ≤ 16777216) : dAdd (.list a) (.list b) = .ok (.list (a ++ b)) := if_pos (by rw [sizeLine_eq]; exact h)
theorem dMul_list {a : List PyData} {k : Nat} (h : a.length * k ≤ 16777216) (h2 : k < 2 ^ 62) : dMul (.list a) (.int k) = .ok (.list (List.replicate k a).flatten) := by
  unfold dMul
  dsimp only
  rw [Int.toNat_natCast, if_pos ⟨by omega, by omega, by rw [sizeLine_eq]; exact h⟩]
theorem if_skip {t : Ts} {a : Sx} {ρ : Rho} (h : t ρ = .ok false) : sIf t a sSkip ρ = .nx ρ := by
  unfold sIf
  rw [h]
  rfl
theorem app_ok {i : Nat} {m : M} {ρ : Rho} {ds : List PyData} {d : PyData} (h : owL ρ[i]? = some ds) (e : m ρ = .ok d) (hl : ds.length < 16777216) : sApp i m ρ = .nx (ρ.set i (.ow (.list (ds ++ [d])))) := by
  unfold sApp
  rw [h]
  simp only [e, lf_ok]
  rw [if_pos (by rw [sizeLine_eq]; exact hl)]
theorem own_ok {i : Nat} {m : M} {ρ : Rho} {d : PyData} (e : m ρ = .ok d) : sOwn i m ρ = .nx (ρ.set i (ownC d)) := by
  rw [sOwn_ap, e]
  rfl
end Sm

/-! What repr may be asked of, by the size of the ints and the shape. -/
namespace Sm
open PySem L2
mutual
/-- ints of at most twelve digits, in lists and tuples -/
def okD : PyData → Bool
  | .int i => decide (i.natAbs < 10 ^ 12)
  | .bool _ => true
  | .none => true
  | .list ds => okDs ds
  | .tuple ds => okDs ds
  | .str _ => false
  | .dict _ => false
def okDs : List PyData → Bool
  | [] => true
  | d :: ds => okD d && okDs ds
end
theorem okDs_all : ∀ {ds : List PyData}, (∀ d ∈ ds, okD d = true) → okDs ds = true
  | [], _ => rfl
  | d :: ds, h => by
    show (okD d && okDs ds) = true
    rw [h d List.mem_cons_self, okDs_all fun e he => h e (List.mem_cons_of_mem _ he)]
    rfl
theorem int_short {i : Int} (h : i.natAbs < 10 ^ 12) : (PyData.shown (.int i)).length ≤ 13 := by
  have q := int_text_length_le10 (a := i) (k := 12) (by decide) h
  rw [PyData.shown_int, ofString_length]
  exact q
theorem int_show {i : Int} (h : i.natAbs < 10 ^ 12) : i.natAbs.log2 < 1920 := by
  by_cases z : i.natAbs = 0
  · rw [z]; decide
  · exact Nat.lt_of_lt_of_le ((Nat.log2_lt z).mpr (Nat.lt_trans h (by decide : 10 ^ 12 < 2 ^ 40))) (by decide)
mutual
theorem ok_facts : ∀ (d : PyData), okD d = true → d.showable = true ∧ d.hasDict = false ∧ d.leavesShort 13 = true ∧ d.canLay0 = true
  | .int i, h => by
    have h' : i.natAbs < 10 ^ 12 := by
      unfold okD at h
      exact of_decide_eq_true h
    refine ⟨by unfold PyData.showable; exact decide_eq_true (int_show h'), rfl, by unfold PyData.leavesShort; exact decide_eq_true (int_short h'), rfl⟩
  | .bool _, _ => ⟨rfl, rfl, rfl, rfl⟩
  | .none, _ => ⟨rfl, rfl, rfl, rfl⟩
  | .list ds, h => ok_factsAll ds (by unfold okD at h; exact h)
  | .tuple ds, h => ok_factsAll ds (by unfold okD at h; exact h)
  | .str _, h => by cases h
  | .dict _, h => by cases h
theorem ok_factsAll : ∀ (ds : List PyData), okDs ds = true → PyData.showableAll ds = true ∧ PyData.hasDictAll ds = false ∧ PyData.leavesShortAll 13 ds = true ∧ PyData.canLayAll0 ds = true
  | [], _ => ⟨rfl, rfl, rfl, rfl⟩
  | d :: ds, h => by
    have h' : (okD d && okDs ds) = true := h
    rw [Bool.and_eq_true] at h'
    obtain ⟨a1, a2, a3, a4⟩ := ok_facts d h'.1
    obtain ⟨b1, b2, b3, b4⟩ := ok_factsAll ds h'.2
    refine ⟨?_, ?_, ?_, ?_⟩
    · show (d.showable && PyData.showableAll ds) = true
      rw [a1, b1]; rfl
    · show (d.hasDict || PyData.hasDictAll ds) = false
      rw [a2, b2]; rfl
    · show (d.leavesShort 13 && PyData.leavesShortAll 13 ds) = true
      rw [a3, b3]; rfl
    · show (d.canLay0 && PyData.canLayAll0 ds) = true
      rw [a4, b4]; rfl
end
theorem depthAll_le {m : Nat} : ∀ {ds : List PyData}, (∀ d ∈ ds, d.depth ≤ m) → PyData.depthAll ds ≤ m
  | [], _ => Nat.zero_le _
  | d :: ds, h => by
    show max d.depth (PyData.depthAll ds) ≤ m
    exact Nat.max_le.mpr ⟨h d List.mem_cons_self, depthAll_le fun e he => h e (List.mem_cons_of_mem _ he)⟩
theorem bulkAll_le {m : Nat} : ∀ {ds : List PyData}, (∀ d ∈ ds, d.bulk ≤ m) → PyData.bulkAll ds ≤ (m + 1) * ds.length
  | [], _ => Nat.zero_le _
  | d :: ds, h => by
    have a := h d List.mem_cons_self
    have b := bulkAll_le fun e he => h e (List.mem_cons_of_mem _ he)
    show d.bulk + 1 + PyData.bulkAll ds ≤ _
    rw [List.length_cons, Nat.mul_add, Nat.mul_one]
    omega
theorem shows_of {d : PyData} (h : okD d = true) (h1 : d.depth ≤ 60) (h2 : d.bulk ≤ 2 ^ 20) : shows d = true := by
  obtain ⟨a1, a2, a3, _⟩ := ok_facts d h
  unfold shows
  rw [a1, a2]
  simp only [Bool.not_false, Bool.and_true, Bool.true_and, Bool.and_eq_true, decide_eq_true_eq]
  exact ⟨h1, PyData.shown_fits_bulk (B := 13) (by decide) (by decide) a3 h2⟩
theorem repr_of {d : PyData} (h : shows d = true) : dRepr [d] = .ok (.str d.shown) := if_pos h
theorem shaped_of {d : PyData} (h : okD d = true) (h1 : d.depth ≤ 60) : SeqAt.shaped d = true := by
  unfold SeqAt.shaped
  rw [(ok_facts d h).2.2.2]
  simp
  omega
/-- a row of ints -/
def intT (l : List Int) : PyData := .tuple (l.map .int)
theorem okD_ints {l : List Int} (h : ∀ i ∈ l, i.natAbs < 10 ^ 12) : okDs (l.map .int) = true := okDs_all fun d hd => by
  obtain ⟨i, hi, rfl⟩ := List.mem_map.mp hd
  exact decide_eq_true (h i hi)
theorem depth_ints (l : List Int) : PyData.depthAll (l.map .int) ≤ 1 := depthAll_le fun d hd => by
  obtain ⟨i, hi, rfl⟩ := List.mem_map.mp hd
  exact Nat.zero_le _
theorem bulk_ints (l : List Int) : PyData.bulkAll (l.map .int) ≤ l.length := by
  have q := bulkAll_le (m := 0) (ds := l.map .int) fun d hd => by
    obtain ⟨i, hi, rfl⟩ := List.mem_map.mp hd
    exact Nat.le_refl 0
  simpa using q
/-- rows of ints in a list -/
def rowsD (l : List (List Int)) : PyData := .list (l.map intT)
theorem rows_ok {l : List (List Int)} (h : ∀ r ∈ l, ∀ i ∈ r, i.natAbs < 10 ^ 12) (hw : ∀ r ∈ l, r.length ≤ 100) (hl : l.length ≤ 1000) : okD (rowsD l) = true ∧ (rowsD l).depth ≤ 60 ∧ (rowsD l).bulk ≤ 2 ^ 20 := by
  refine ⟨okDs_all fun d hd => ?_, ?_, ?_⟩
  · obtain ⟨r, hr, rfl⟩ := List.mem_map.mp hd
    exact okD_ints (h r hr)
  · have q : PyData.depthAll (l.map intT) ≤ 2 := depthAll_le fun d hd => by
      obtain ⟨r, hr, rfl⟩ := List.mem_map.mp hd
      have := depth_ints r
      show PyData.depthAll (r.map .int) + 1 ≤ 2
      omega
    show PyData.depthAll (l.map intT) + 1 ≤ 60
    omega
  · have q : PyData.bulkAll (l.map intT) ≤ (100 + 1) * (l.map intT).length := bulkAll_le fun d hd => by
      obtain ⟨r, hr, rfl⟩ := List.mem_map.mp hd
      have := bulk_ints r
      have := hw r hr
      show PyData.bulkAll (r.map .int) ≤ 100
      omega
    rw [List.length_map] at q
    show PyData.bulkAll (l.map intT) ≤ 2 ^ 20
    omega
theorem rows_show {l : List (List Int)} (h : ∀ r ∈ l, ∀ i ∈ r, i.natAbs < 10 ^ 12) (hw : ∀ r ∈ l, r.length ≤ 100) (hl : l.length ≤ 1000) : shows (rowsD l) = true := by
  obtain ⟨a, b, c⟩ := rows_ok h hw hl
  exact shows_of a b c
theorem tup_show {l : List Int} (h : ∀ i ∈ l, i.natAbs < 10 ^ 12) (hl : l.length ≤ 1000) : shows (intT l) = true := by
  have a := depth_ints l
  have b := bulk_ints l
  refine shows_of (okD_ints h) ?_ ?_
  · show PyData.depthAll (l.map .int) + 1 ≤ 60
    omega
  · show PyData.bulkAll (l.map .int) ≤ 2 ^ 20
    omega
theorem repr_ne {d : PyData} {m m' : M} {ρ : Rho} (h : shows d = true) (h1 : m ρ = .ok d) (h2 : m' ρ = .ok d) : tBl (mBin dNe (mCall dRepr [m]) (mCall dRepr [m'])) ρ = .ok false := by
  have e1 : mCall dRepr [m] ρ = .ok (.str d.shown) := call_ok (ds := [d]) (by rw [mAll_cons, h1]; rfl) (repr_of h)
  have e2 : mCall dRepr [m'] ρ = .ok (.str d.shown) := call_ok (ds := [d]) (by rw [mAll_cons, h2]; rfl) (repr_of h)
  rw [tBl_ap, mBin_ap, e1, Rs.bind_ok, e2, Rs.bind_ok, ne_str]
  simp
theorem repr_eq {d : PyData} {m m' : M} {ρ : Rho} (h : shows d = true) (h1 : m ρ = .ok d) (h2 : m' ρ = .ok d) : mBin dEq (mCall dRepr [m]) (mCall dRepr [m']) ρ = .ok (.bool true) := by
  have e1 : mCall dRepr [m] ρ = .ok (.str d.shown) := call_ok (ds := [d]) (by rw [mAll_cons, h1]; rfl) (repr_of h)
  have e2 : mCall dRepr [m'] ρ = .ok (.str d.shown) := call_ok (ds := [d]) (by rw [mAll_cons, h2]; rfl) (repr_of h)
  rw [mBin_ap, e1, Rs.bind_ok, e2, Rs.bind_ok, eq_str]
  simp
end Sm

/-! Putting a law together. -/
namespace Sm
open PySem PySem.Spec PyProof.Rows L2
/-- what the law is asked: a list of ints, the answer True -/
def lawSp (K : W.Frag) (n : Nat) : Sp := fun vs H Z _ => ∃ (a : Addr) (ns : List Int), vs = [.ref a] ∧ Fz K H a ns ∧ ns.length ≤ n ∧ ∀ H', Z (.bl true) H'
def F_law (ns : List Int) : Rs PyData := if ns.length ≤ 63 then .ok (.bool true) else .no
theorem lawSp_of {K : W.Frag} {mg : Str → Option Value} {vs : List V} {H : Hp} {Z : VK} {E : XK} (h : lawSp K 63 vs H Z E) : spFz ⟨K, mg⟩ F_law false vs H Z E := by
  obtain ⟨a, ns, rfl, hz, hl, q⟩ := h
  refine ⟨[], a, ns, (fun b z => by cases z), rfl, hz, ?_⟩
  unfold F_law
  rw [if_pos hl]
  intro v H' _ r
  rw [r.1.bool]
  exact q H'
theorem lawSp_ask {K : W.Frag} {H : Hp} {a : Addr} {ns : List Int} {n : Nat} (hl : ns.length ≤ n) (h : Fz K H a ns) : lawSp K n [.ref a] H (fun v _ => v = .bl true) fun _ _ _ => False := ⟨a, ns, rfl, h, hl, fun _ => rfl⟩
theorem hF_law {s : Sx} {m : Nat} (h : ∀ (a : Addr) (ns : List Int), ns.length ≤ 63 → s (rho0 m [.fz a ns]) = .rt (.bool true)) : ∀ a ns, F_law ns = .no ∨ runF s m a ns = F_law ns := by
  intro a ns
  unfold F_law
  split
  · refine .inr ?_
    show outR (s (rho0 m [.fz a ns])) = _
    rw [h a ns ‹_›]
    rfl
  · exact .inl rfl
section
variable {P : Program} {w : World} {K : W.Frag} {mg : Str → Option Value} {base : Heap}
/-- a def as the others may call it -/
def FnE (P : Program) (w : World) (K : W.Frag) (mg : Str → Option Value) (base : Heap) (k : Nat) (x : Str) (sp : Sp) : Prop :=
  ∃ (f : Addr) (fd : FuncData) (ps : List Str), FnG P w K mg base k f fd ps sp ∧ mg x = some (.ref f) ∧ PySem.W.keepIn K (.ref f) = true ∧ Binds K fd ps []
theorem tab_fns {lv : Nat} {fns : List (Str × FnI)} (h : ∀ p ∈ fns, ∃ k, k ≤ lv ∧ FnE P w K mg base k p.1 (spOf ⟨K, mg⟩ p.2)) :
    ∀ x I, fns.lookup x = some I → ∃ f fd ps k, FnG P w K mg base k f fd ps (spOf ⟨K, mg⟩ I) ∧ k ≤ lv ∧ mg x = some (.ref f) ∧ PySem.W.keepIn K (.ref f) = true ∧ Binds K fd ps [] := by
  intro x I e
  obtain ⟨k, hk, f, fd, ps, a, b, c, d⟩ := h (x, I) (PySem.mem_of_lookup e)
  exact ⟨f, fd, ps, k, a, hk, b, c, d⟩
theorem tab_fzf {lv : Nat} {fns : List (Str × ((List Int → Rs PyData) × Bool))} (h : ∀ p ∈ fns, ∃ k, k ≤ lv ∧ FnE P w K mg base k p.1 (spFz ⟨K, mg⟩ p.2.1 p.2.2)) :
    ∀ x I, fns.lookup x = some I → ∃ f fd ps k, FnG P w K mg base k f fd ps (spFz ⟨K, mg⟩ I.1 I.2) ∧ k ≤ lv ∧ mg x = some (.ref f) ∧ PySem.W.keepIn K (.ref f) = true ∧ Binds K fd ps [] := by
  intro x I e
  obtain ⟨k, hk, f, fd, ps, a, b, c, d⟩ := h (x, I) (PySem.mem_of_lookup e)
  exact ⟨f, fd, ps, k, a, hk, b, c, d⟩
theorem tab_gls {gls : List (Str × PyData)} (h : ∀ p ∈ gls, ∃ i t, p.2 = .int i ∧ mg p.1 = some (.int i t)) : ∀ x d, gls.lookup x = some d → ∃ u v, mg x = some u ∧ RelV v u ∧ ∀ H, Rp H v d := by
  intro x d e
  obtain ⟨i, t, e1, e2⟩ := h (x, d) (PySem.mem_of_lookup e)
  have e1' : d = .int i := e1
  subst e1'
  exact ⟨.int i t, .int i, e2, ⟨t, rfl⟩, fun H => .int i⟩
end
end Sm
namespace Sm
open PySem PySem.Spec PyProof.Rows L2
theorem fnG_no {P : Program} {w : World} {K : W.Frag} {mg : Str → Option Value} {base : Heap} {k : Nat} {f : Addr} {fd : FuncData} {ps : List Str} {rf : Bool} {ar : Nat} (h : ar = ps.length) : FnG P w K mg base k f fd ps (spOf ⟨K, mg⟩ ⟨fun _ => .no, rf, ar⟩) :=
  ⟨fun vs H Z E ⟨A, ds, _, r, hl, _⟩ => by rw [r.len, hl]; exact h, fun A fr st H a us vs Z E _ _ _ _ _ ⟨_, _, _, _, _, o⟩ => o.elim⟩
end Sm

/-! Lists of ints as values. -/
namespace Sm
open PySem L2
theorem ix_int {L : List Int} {k : Nat} (h : k < L.length) : dIx (intD L) (.int k) = .ok (.int (L.getD k 0)) := by
  unfold intD
  rw [dIx_list (by simpa using h)]
  simp [h]
theorem len_int (L : List Int) : dLen [intD L] = .ok (.int L.length) := by
  unfold intD
  rw [dLen_list]
  simp
theorem sl_lo {L : List Int} {k : Nat} : dSl (intD L) none (some (k : Int)) = .ok (intD (L.take k)) := by
  unfold intD
  rw [dSl_lo, List.map_take]
theorem sl_hi {L : List Int} {k : Nat} : dSl (intD L) (some (k : Int)) none = .ok (intD (L.drop k)) := by
  unfold intD
  rw [dSl_hi, List.map_drop]
theorem intsOf_int (L : List Int) : intsOf (L.map .int) = some L := intsOf_map L
theorem iter_seq {m : M} {ρ : Rho} {ds : List PyData} (h : m ρ = .ok (.list ds)) : iSeq m ρ = .ok ds := by
  unfold iSeq
  rw [h]
  rfl
/-- a comprehension over a list of ints -/
theorem comp_int {m : M} {ρ : Rho} {L : List Int} {n : Nat} {t : Ts} {el : M} {own : List Nat} (hm : m ρ = .ok (intD L)) (p : Int → Bool) (f : Int → PyData)
    (h : ∀ i ∈ L, t ((wipeR ρ own).set n (.sh (.int i))) = .ok (p i) ∧ (p i = true → el ((wipeR ρ own).set n (.sh (.int i))) = .ok (f i))) :
    mComp (iSeq m) (tNm n) t el own ρ = .ok (.list ((L.filter p).map f)) := by
  have q := comp_run (tg := tNm n) (t := t) (el := el) (own := own) (iter_seq hm) (fun x => match x with
      | .int i => p i
      | _ => false) (fun x => match x with
      | .int i => f i
      | _ => .none) (by
    intro x hx
    obtain ⟨i, hi, rfl⟩ := List.mem_map.mp hx
    exact ⟨_, rfl, h i hi⟩)
  rw [q]
  congr 2
  rw [List.filter_map, List.map_map]
  rfl
/-- a comprehension over a range with a test -/
theorem comp_rangeIf {it : Its} {n : Nat} {t : Ts} {el : M} {own : List Nat} {ρ : Rho} {i0 : Int} {m : Nat} (hit : it ρ = .ok (rangeL i0 m)) (p : Nat → Bool) (f : Nat → PyData)
    (h : ∀ k, k < m → t ((wipeR ρ own).set n (.sh (.int (i0 + k)))) = .ok (p k) ∧ (p k = true → el ((wipeR ρ own).set n (.sh (.int (i0 + k)))) = .ok (f k))) :
    mComp it (tNm n) t el own ρ = .ok (.list (((List.range m).filter p).map f)) := by
  have q := comp_run (tg := tNm n) (t := t) (el := el) (own := own) hit (fun x => match x with
      | .int i => p (i - i0).toNat
      | _ => false) (fun x => match x with
      | .int i => f (i - i0).toNat
      | _ => .none) (by
    intro x hx
    obtain ⟨k, hk⟩ := List.mem_iff_getElem?.mp hx
    obtain ⟨h1, rfl⟩ := rangeL_get hk
    refine ⟨_, rfl, ?_⟩
    have e : (i0 + (k : Int) - i0).toNat = k := by omega
    simp only [e]
    exact h k h1)
  rw [q]
  congr 2
  unfold rangeL
  rw [List.filter_map, List.map_map]
  have e : ∀ k : Nat, (i0 + (k : Int) - i0).toNat = k := fun k => by omega
  congr 1
  · funext k
    simp [e]
  · congr 1
    funext k
    simp [e]
end Sm

/-! Marching through a body: what has to hold of a statement's end. -/
namespace Sm
open PySem L2
def rdC (kp : Bool) : Option Cell → Rs PyData
  | some (.sh d) => .ok d
  | some (.ow d) => if kp then .no else .ok d
  | _ => .no
@[simp] theorem rdC_sh {kp : Bool} {d : PyData} : rdC kp (some (.sh d)) = .ok d := by
  refine Eq.trans ?_ (Eq.refl _)
  rfl
@[simp] theorem rdC_ow {d : PyData} : rdC false (some (.ow d)) = .ok d := by
  refine Eq.trans ?_ (Eq.refl _)
  rfl
/-- the cell at a place -/
def gt (ρ : Rho) (i : Nat) : Option Cell := ρ[i]?
@[simp] theorem gt_0 {x : Cell} {ρ : Rho} : gt (x :: ρ) 0 = some x := by
  refine Eq.trans ?_ (Eq.refl _)
  rfl
@[simp] theorem gt_s {x : Cell} {ρ : Rho} {i : Nat} : gt (x :: ρ) (i + 1) = gt ρ i := by
  refine Eq.trans ?_ (Eq.refl _)
  rfl
@[simp] theorem gt_set {ρ : Rho} {i j : Nat} {x : Cell} : gt (ρ.set i x) j = if i = j then (if i < ρ.length then some x else none) else gt ρ j := by
  unfold gt
  rw [List.getElem?_set]
@[simp] theorem mVar_rd {kp : Bool} {i : Nat} {ρ : Rho} : mVar kp i ρ = rdC kp (gt ρ i) := by
  unfold mVar rdC gt
  cases ρ[i]? with
  | none => rfl
  | some c => cases c <;> rfl
@[irreducible] def Wp (s : Sx) (ρ : Rho) (Q : Out → Prop) : Prop := Q (s ρ)
/-- what follows -/
def sqK (b : Sx) (Q : Out → Prop) : Out → Prop
  | .nx ρ => Wp b ρ Q
  | o => Q o
/-- what holds at the end of a loop's body -/
def loK (J : Rho → Prop) (Q : Out → Prop) : Out → Prop
  | .nx ρ => J ρ
  | .ct ρ => J ρ
  | .bk ρ => Q (.nx ρ)
  | .no => False
  | o => Q o
section
variable {a b : Sx} {ρ ρ' : Rho} {t : Ts} {m : M} {d : PyData} {Q : Out → Prop} {J : Rho → Prop} {c : Str}
@[simp] theorem sqK_nx : sqK b Q (.nx ρ) = Wp b ρ Q := by
  refine Eq.trans ?_ (Eq.refl _)
  rfl
@[simp] theorem sqK_rt : sqK b Q (.rt d) = Q (.rt d) := by
  refine Eq.trans ?_ (Eq.refl _)
  rfl
@[simp] theorem sqK_xc : sqK b Q (.xc ρ c d) = Q (.xc ρ c d) := by
  refine Eq.trans ?_ (Eq.refl _)
  rfl
@[simp] theorem sqK_bk : sqK b Q (.bk ρ) = Q (.bk ρ) := by
  refine Eq.trans ?_ (Eq.refl _)
  rfl
@[simp] theorem sqK_ct : sqK b Q (.ct ρ) = Q (.ct ρ) := by
  refine Eq.trans ?_ (Eq.refl _)
  rfl
@[simp] theorem sqK_no : sqK b Q .no = Q .no := by
  refine Eq.trans ?_ (Eq.refl _)
  rfl
@[simp] theorem loK_nx : loK J Q (.nx ρ) = J ρ := by
  refine Eq.trans ?_ (Eq.refl _)
  rfl
@[simp] theorem loK_rt : loK J Q (.rt d) = Q (.rt d) := by
  refine Eq.trans ?_ (Eq.refl _)
  rfl
@[simp] theorem loK_xc : loK J Q (.xc ρ c d) = Q (.xc ρ c d) := by
  refine Eq.trans ?_ (Eq.refl _)
  rfl
@[simp] theorem loK_bk : loK J Q (.bk ρ) = Q (.nx ρ) := by
  refine Eq.trans ?_ (Eq.refl _)
  rfl
@[simp] theorem loK_ct : loK J Q (.ct ρ) = J ρ := by
  refine Eq.trans ?_ (Eq.refl _)
  rfl
@[simp] theorem loK_no : loK J Q .no = False := by
  refine Eq.trans ?_ (Eq.refl _)
  rfl
@[simp] theorem wp_seq : Wp (sSeq a b) ρ Q = Wp a ρ (sqK b Q) := by
  have e : ∀ ρ', Q (b ρ') = sqK b Q (.nx ρ') := fun ρ' => by
    rw [sqK_nx]
    unfold Wp
    rfl
  unfold Wp sSeq
  cases a ρ with
  | nx ρ' => exact e ρ'
  | _ => rfl
/-- an expression's value goes on -/
def rsK {α : Type} (r : Rs α) (ρ : Rho) (Q : Out → Prop) (k : α → Prop) : Prop := match r with
  | .ok a => k a
  | .exc c d => Q (.xc ρ c d)
  | .no => Q .no
@[simp] theorem rsK_ok {α : Type} {x : α} {k : α → Prop} : rsK (.ok x) ρ Q k = k x := by
  refine Eq.trans ?_ (Eq.refl _)
  rfl
@[simp] theorem rsK_exc {α : Type} {k : α → Prop} : rsK (.exc c d : Rs α) ρ Q k = Q (.xc ρ c d) := by
  refine Eq.trans ?_ (Eq.refl _)
  rfl
theorem q_lf {α : Type} {r : Rs α} {f : α → Out} : Q (lf r ρ f) = rsK r ρ Q fun x => Q (f x) := by cases r <;> rfl
@[simp] theorem wp_skip : Wp sSkip ρ Q = Q (.nx ρ) := by
  unfold Wp
  rfl
@[simp] theorem wp_set {n : Nat} : Wp (sSet (tNm n) m) ρ Q = rsK (m ρ) ρ Q fun d => Q (.nx (ρ.set n (.sh d))) := by
  unfold Wp
  rw [sSet_ap]; exact q_lf
@[simp] theorem wp_own {n : Nat} : Wp (sOwn n m) ρ Q = rsK (m ρ) ρ Q fun d => Q (.nx (ρ.set n (ownC d))) := by
  unfold Wp
  rw [sOwn_ap]; exact q_lf
@[simp] theorem wp_ret : Wp (sRet m) ρ Q = rsK (m ρ) ρ Q fun d => Q (.rt d) := by
  unfold Wp
  rw [sRet_ap]; exact q_lf
@[simp] theorem wp_rs {x : Str} : Wp (sRs x m) ρ Q = rsK (m ρ) ρ Q fun d => Q (.xc ρ x d) := by
  unfold Wp
  rw [sRs_ap]; exact q_lf
@[simp] theorem wp_expr : Wp (sExpr m) ρ Q = rsK (m ρ) ρ Q fun _ => Q (.nx ρ) := by
  unfold Wp
  rw [sExpr_ap]; exact q_lf
@[simp] theorem wp_if : Wp (sIf t a b) ρ Q = rsK (t ρ) ρ Q fun k => if k = true then Wp a ρ Q else Wp b ρ Q := by
  unfold Wp
  rw [sIf_ap]
  refine q_lf.trans ?_
  congr 1
  funext k
  cases k <;> rfl
@[simp] theorem wp_retV {rf : Bool} {i : Nat} : Wp (sRetV rf i) ρ Q = Q (match gt ρ i with
  | some (.ow d) => .rt d
  | some (.sh d) => if rf && boxed d then .no else .rt d
  | _ => .no) := by
  unfold Wp
  rfl
@[simp] theorem wp_bk : Wp (fun ρ => .bk ρ) ρ Q = Q (.bk ρ) := by
  unfold Wp
  rfl
@[simp] theorem wp_ct : Wp (fun ρ => .ct ρ) ρ Q = Q (.ct ρ) := by
  unfold Wp
  rfl
/-- the owned list at a place -/
def owK (c : Option Cell) (Q : Out → Prop) (k : List PyData → Prop) : Prop := match owL c with
  | some ds => k ds
  | none => Q .no
@[simp] theorem owK_ow {ds : List PyData} {k : List PyData → Prop} : owK (some (.ow (.list ds))) Q k = k ds := by
  refine Eq.trans ?_ (Eq.refl _)
  rfl
@[simp] theorem wp_app {i : Nat} : Wp (sApp i m) ρ Q = owK (gt ρ i) Q fun ds => rsK (m ρ) ρ Q fun d => if ds.length < 16777216 then Q (.nx (ρ.set i (.ow (.list (ds ++ [d]))))) else Q .no := by
  unfold Wp sApp owK gt
  cases owL ρ[i]? with
  | none => rfl
  | some ds =>
    simp only [q_lf]
    congr 1
    funext d
    rw [sizeLine_eq]
    split <;> rfl
@[simp] theorem wp_ext {i : Nat} : Wp (sExt i m) ρ Q = owK (gt ρ i) Q fun ds => rsK (m ρ) ρ Q fun d => match d with
    | .list es => if ds.length + es.length ≤ 16777216 then Q (.nx (ρ.set i (.ow (.list (ds ++ es))))) else Q .no
    | _ => Q .no := by
  unfold Wp sExt owK gt
  cases owL ρ[i]? with
  | none => rfl
  | some ds =>
    simp only [q_lf]
    congr 1
    funext d
    rw [sizeLine_eq]
    cases d with
    | list es => simp only; split <;> rfl
    | _ => rfl
theorem wp_of {Q' : Out → Prop} (h : Wp a ρ Q') (i : ∀ o, Q' o → Q o) : Wp a ρ Q := by
  unfold Wp at h ⊢
  exact i _ h
/-- the same but for some places -/
structure Fr (M : List Nat) (ρ0 ρ : Rho) : Prop where
  len : ρ.length = ρ0.length
  get : ∀ i, i ∉ M → gt ρ i = gt ρ0 i
theorem Fr.refl {M : List Nat} : Fr M ρ ρ := ⟨rfl, fun _ _ => rfl⟩
theorem Fr.set {M : List Nat} {ρ0 : Rho} {i : Nat} {x : Cell} (h : Fr M ρ0 ρ) (m : i ∈ M) : Fr M ρ0 (ρ.set i x) :=
  ⟨by rw [List.length_set]; exact h.len, fun j n => by
    have ne : i ≠ j := fun e => n (by rw [← e]; exact m)
    rw [gt_set, if_neg ne]; exact h.get j n⟩
@[simp] theorem fr_set {M : List Nat} {ρ0 : Rho} {i : Nat} {x : Cell} (h : Fr M ρ0 ρ) : (i ∈ M) → Fr M ρ0 (ρ.set i x) := h.set
theorem Fr.trans {M : List Nat} {ρ1 ρ2 : Rho} (h : Fr M ρ ρ1) (k : Fr M ρ1 ρ2) : Fr M ρ ρ2 := ⟨k.len.trans h.len, fun i n => (k.get i n).trans (h.get i n)⟩
theorem Fr.sub {M N : List Nat} {ρ1 : Rho} (h : Fr M ρ ρ1) (k : ∀ i ∈ M, i ∈ N) : Fr N ρ ρ1 := ⟨h.len, fun i n => h.get i fun z => n (k i z)⟩
end
section
variable {b : Sx} {ρ : Rho} {it : Its} {T : Tg} {Q : Out → Prop} {α : Type}
theorem wp_forL (b : Sx) (T : Tg) : ∀ (xs : List PyData) (I : Nat → Rho → Prop) (ρ : Rho), I 0 ρ → (∀ k x, xs[k]? = some x → ∀ ρ, I k ρ → ∃ ρ1, T x ρ = .ok ρ1 ∧ Wp b ρ1 (loK (I (k + 1)) Q)) → (∀ ρ, I xs.length ρ → Q (.nx ρ)) → Q (forL T b xs ρ)
  | [], I, ρ, h0, _, he => he ρ h0
  | x :: xs, I, ρ, h0, hs, he => by
    obtain ⟨ρ1, e1, w⟩ := hs 0 x rfl ρ h0
    unfold forL
    simp only [e1]
    unfold Wp at w
    have go : ∀ ρ2, I 1 ρ2 → Q (forL T b xs ρ2) := fun ρ2 h => wp_forL b T xs (fun k => I (k + 1)) ρ2 h (fun k y e ρ p => hs (k + 1) y (by simpa using e) ρ p) (fun ρ p => he ρ p)
    cases e : b ρ1 <;> rw [e] at w
    · exact go _ w
    · exact w
    · exact w
    · exact go _ w
    · exact w
    · exact w.elim
/-- a loop over something that is there -/
theorem wp_for {xs : List PyData} (I : Nat → Rho → Prop) (hit : it ρ = .ok xs) (h0 : I 0 ρ) (hs : ∀ k x, xs[k]? = some x → ∀ ρ, I k ρ → ∃ ρ1, T x ρ = .ok ρ1 ∧ Wp b ρ1 (loK (I (k + 1)) Q)) (he : ∀ ρ, I xs.length ρ → Q (.nx ρ)) : Wp (sFor it T b) ρ Q := by
  unfold Wp
  rw [sFor_ap hit]
  exact wp_forL b T xs I ρ h0 hs he
theorem wp_forR {v n : Nat} {i : Int} (I : Nat → Rho → Prop) (hit : it ρ = .ok (rangeL i n)) (h0 : I 0 ρ) (hs : ∀ k, k < n → ∀ ρ, I k ρ → Wp b (ρ.set v (.sh (.int (i + k)))) (loK (I (k + 1)) Q)) (he : ∀ ρ, I n ρ → Q (.nx ρ)) : Wp (sFor it (tNm v) b) ρ Q :=
  wp_for I hit h0 (fun k x e ρ p => by
    obtain ⟨hk, rfl⟩ := rangeL_get e
    exact ⟨_, rfl, hs k hk ρ p⟩) (by rw [rangeL_len]; exact he)
theorem wp_forR0 {v n : Nat} (I : Nat → Rho → Prop) (hit : it ρ = .ok (rangeL 0 n)) (h0 : I 0 ρ) (hs : ∀ k, k < n → ∀ ρ, I k ρ → Wp b (ρ.set v (.sh (.int (k : Nat)))) (loK (I (k + 1)) Q)) (he : ∀ ρ, I n ρ → Q (.nx ρ)) : Wp (sFor it (tNm v) b) ρ Q :=
  wp_forR I hit h0 (fun k hk ρ p => by rw [Int.zero_add]; exact hs k hk ρ p) he
theorem wp_forE {v : Nat} {l : List α} {enc : α → PyData} (I : Nat → Rho → Prop) (hit : it ρ = .ok (l.map enc)) (h0 : I 0 ρ) (hs : ∀ k (h : k < l.length) ρ, I k ρ → Wp b (ρ.set v (.sh (enc l[k]))) (loK (I (k + 1)) Q)) (he : ∀ ρ, I l.length ρ → Q (.nx ρ)) : Wp (sFor it (tNm v) b) ρ Q :=
  wp_for I hit h0 (fun k x e ρ p => by
    rw [List.getElem?_map] at e
    have hk : k < l.length := by
      cases Nat.lt_or_ge k l.length with
      | inl h => exact h
      | inr h => rw [List.getElem?_eq_none h] at e; cases e
    rw [List.getElem?_eq_getElem hk] at e
    cases e
    exact ⟨_, rfl, hs k hk ρ p⟩) (by rw [List.length_map]; exact he)
theorem wp_forN {u v : Nat} {ms : List M} {l : List α} {enc : α → PyData} (I : Nat → Rho → Prop) (hit : mAll ms ρ = .ok [.list (l.map enc)]) (h0 : I 0 ρ)
    (hs : ∀ k (h : k < l.length) ρ, I k ρ → Wp b ((ρ.set u (.sh (.int (k : Nat)))).set v (.sh (enc l[k]))) (loK (I (k + 1)) Q)) (he : ∀ ρ, I l.length ρ → Q (.nx ρ)) : Wp (sFor (iCall iEnumD ms) (tTp [tNm u, tNm v]) b) ρ Q :=
  wp_for I (iterE hit) h0 (fun k x e ρ p => by
    rw [List.getElem?_map, List.getElem?_zipIdx, List.getElem?_map] at e
    have hk : k < l.length := by
      cases Nat.lt_or_ge k l.length with
      | inl h => exact h
      | inr h => rw [List.getElem?_eq_none h] at e; cases e
    rw [List.getElem?_eq_getElem hk] at e
    cases e
    rw [Nat.zero_add]
    exact ⟨_, rfl, hs k hk ρ p⟩) (by rw [List.length_map, List.length_zipIdx, List.length_map]; exact he)
theorem sem_wp {s : Sx} {n ar : Nat} {fr : Bool} {ds : List PyData} {r : Rs PyData} (h : Wp s (rho0 n (ds.map .sh)) fun o => outR o = r) : (⟨runS s n, fr, ar⟩ : FnI).sem ds = r := by
  unfold Wp at h
  exact h
@[simp] theorem outR_rt {d : PyData} : outR (.rt d) = .ok d := by
  refine Eq.trans ?_ (Eq.refl _)
  rfl
@[simp] theorem outR_nx : outR (.nx ρ) = .ok .none := by
  refine Eq.trans ?_ (Eq.refl _)
  rfl
@[simp] theorem outR_xc {c : Str} {d : PyData} : outR (.xc ρ c d) = .exc c d := by
  refine Eq.trans ?_ (Eq.refl _)
  rfl
theorem rho0_len {n : Nat} {cs : List Cell} (h : cs.length ≤ n) : (rho0 n cs).length = n := by simp [rho0]; omega
/-- a comprehension over a list that is coded -/
theorem comp_enc {tg : Tg} {t : Ts} {el : M} {own : List Nat} (l : List α) (enc : α → PyData) (hit : it ρ = .ok (l.map enc)) (p : α → Bool) (f : α → PyData)
    (h : ∀ x ∈ l, ∃ ρ1, tg (enc x) (wipeR ρ own) = .ok ρ1 ∧ t ρ1 = .ok (p x) ∧ (p x = true → el ρ1 = .ok (f x))) : mComp it tg t el own ρ = .ok (.list ((l.filter p).map f)) := by
  have key : ∀ (k : List α), (∀ x ∈ k, x ∈ l) → compL tg t el (wipeR ρ own) (k.map enc) = .ok ((k.filter p).map f) := by
    intro k
    induction k with
    | nil => intro _; rfl
    | cons x k ih =>
      intro hl
      obtain ⟨ρ1, h1, h2, h3⟩ := h x (hl x List.mem_cons_self)
      have ih' := ih fun y hy => hl y (List.mem_cons_of_mem _ hy)
      rw [List.map_cons]
      unfold compL
      rw [h1, Rs.bind_ok, h2, Rs.bind_ok]
      cases hp : p x with
      | true => simp [h3 hp, Rs.hush, ih', hp, List.filter_cons]
      | false => simp [ih', hp, List.filter_cons]
  unfold mComp
  rw [hit, Rs.bind_ok, key l fun _ h => h]
  rfl
theorem comp_all {n : Nat} {el : M} {own : List Nat} (l : List α) (enc : α → PyData) (hit : it ρ = .ok (l.map enc)) (f : α → PyData)
    (h : ∀ x ∈ l, el ((wipeR ρ own).set n (.sh (enc x))) = .ok (f x)) : mComp it (tNm n) (fun _ => .ok true) el own ρ = .ok (.list (l.map f)) := by
  have q := comp_enc (tg := tNm n) (t := fun _ => .ok true) (el := el) (own := own) l enc hit (fun _ => true) f fun x hx => ⟨_, rfl, rfl, fun _ => h x hx⟩
  rwa [List.filter_eq_self.mpr fun _ _ => rfl] at q
theorem comp_if {n : Nat} {t : Ts} {el : M} {own : List Nat} (l : List α) (enc : α → PyData) (hit : it ρ = .ok (l.map enc)) (p : α → Bool) (f : α → PyData)
    (h : ∀ x ∈ l, t ((wipeR ρ own).set n (.sh (enc x))) = .ok (p x) ∧ (p x = true → el ((wipeR ρ own).set n (.sh (enc x))) = .ok (f x))) : mComp it (tNm n) t el own ρ = .ok (.list ((l.filter p).map f)) :=
  comp_enc (tg := tNm n) l enc hit p f fun x hx => ⟨_, rfl, h x hx⟩
theorem rangeL_map {i : Int} {n : Nat} : rangeL i n = (List.range n).map fun k => .int (i + (k : Nat)) := rfl
/-- a while loop by a measure -/
theorem wp_while {t : Ts} {b : Sx} {Q : Out → Prop} (I : Nat → Rho → Prop) (hs : ∀ n ρ, I n ρ → ∃ k, t ρ = .ok k ∧ (if k = true then Wp b ρ (loK (fun ρ' => ∃ n', n' < n ∧ I n' ρ') fun o => Q o ∧ o ≠ .no) else Q (.nx ρ))) (n : Nat) (ρ : Rho) (h : I n ρ) : Wp (sWhile t b) ρ Q := by
  have key : ∀ (m n : Nat), n < m → ∀ ρ, I n ρ → ∃ j, wh t b j ρ ≠ .no ∧ Q (wh t b j ρ) := by
    intro m
    induction m with
    | zero => intro n h; exact absurd h (Nat.not_lt_zero n)
    | succ m ih =>
      intro n hn ρ hI
      obtain ⟨k, e, w⟩ := hs n ρ hI
      cases k with
      | false => exact ⟨1, by simp [wh, e], by simpa [wh, e] using w⟩
      | true =>
        rw [if_pos rfl] at w
        unfold Wp at w
        cases eb : b ρ <;> rw [eb] at w
        · obtain ⟨n', h1, h2⟩ := w
          obtain ⟨j, q1, q2⟩ := ih n' (by omega) _ h2
          exact ⟨j + 1, by simpa [wh, e, eb] using q1, by simpa [wh, e, eb] using q2⟩
        · exact ⟨1, by simp [wh, e, eb], by simpa [wh, e, eb] using w.1⟩
        · exact ⟨1, by simp [wh, e, eb], by simpa [wh, e, eb] using w.1⟩
        · obtain ⟨n', h1, h2⟩ := w
          obtain ⟨j, q1, q2⟩ := ih n' (by omega) _ h2
          exact ⟨j + 1, by simpa [wh, e, eb] using q1, by simpa [wh, e, eb] using q2⟩
        · exact ⟨1, by simp [wh, e, eb], by simpa [wh, e, eb] using w.1⟩
        · exact w.elim
  obtain ⟨j, q1, q2⟩ := key (n + 1) n (by omega) ρ h
  unfold Wp
  rw [sWhile_of q1]
  exact q2
end
end Sm
namespace Sm
open PySem L2
def tyK (xs : List Str) (hs : List Cl) (Q : Out → Prop) : Out → Prop
  | .xc ρ c d => if c ∈ xs ∧ boxed d = false then (match catchD c d hs with
    | some z => Q (.rt z)
    | none => Q (.xc ρ c d)) else Q .no
  | o => Q o
section
variable {xs : List Str} {hs : List Cl} {Q : Out → Prop} {ρ : Rho} {d : PyData} {s : Sx} {c : Str}
@[simp] theorem tyK_nx : tyK xs hs Q (.nx ρ) = Q (.nx ρ) := by
  refine Eq.trans ?_ (Eq.refl _)
  rfl
@[simp] theorem tyK_rt : tyK xs hs Q (.rt d) = Q (.rt d) := by
  refine Eq.trans ?_ (Eq.refl _)
  rfl
@[simp] theorem tyK_ct : tyK xs hs Q (.ct ρ) = Q (.ct ρ) := by
  refine Eq.trans ?_ (Eq.refl _)
  rfl
@[simp] theorem tyK_bk : tyK xs hs Q (.bk ρ) = Q (.bk ρ) := by
  refine Eq.trans ?_ (Eq.refl _)
  rfl
theorem tyK_xc {z : PyData} (h1 : c ∈ xs) (h2 : boxed d = false) (h3 : catchD c d hs = some z) : tyK xs hs Q (.xc ρ c d) = Q (.rt z) := by
  unfold tyK
  simp [h1, h2, h3]
@[simp] theorem wp_try : Wp (sTry s xs hs) ρ Q = Wp s ρ (tyK xs hs Q) := by
  unfold Wp sTry
  cases s ρ with
  | xc ρ' c d =>
    unfold tyK
    simp only
    split
    · cases catchD c d hs <;> rfl
    · rfl
  | _ => rfl
end
end Sm

/-! Lists of ints and lists of such: equality, order, membership, sorting. -/
namespace Sm
open PySem L2
theorem canLay_all {ds : List PyData} (h : ∀ d ∈ ds, d.canLay0 = true) : PyData.canLayAll0 ds = true := by
  induction ds with
  | nil => rfl
  | cons d ds ih =>
    show (d.canLay0 && PyData.canLayAll0 ds) = true
    rw [h d List.mem_cons_self, ih fun e m => h e (List.mem_cons_of_mem _ m)]
    rfl
theorem canLay_ints (L : List Int) : PyData.canLayAll0 (L.map .int) = true := canLay_all fun d m => by
  obtain ⟨i, _, rfl⟩ := List.mem_map.mp m
  rfl
theorem shaped_ints (L : List Int) : SeqAt.shaped (.list (L.map .int)) = true := by
  unfold SeqAt.shaped
  rw [show (PyData.list (L.map .int)).canLay0 = true from canLay_ints L]
  have q := depth_ints L
  simp only [Bool.true_and, decide_eq_true_eq]
  show PyData.depthAll (L.map .int) + 1 ≤ 64
  omega
theorem shaped_rows (R : List (List Int)) : SeqAt.shaped (.list (R.map intD)) = true := by
  unfold SeqAt.shaped
  rw [show (PyData.list (R.map intD)).canLay0 = true from canLay_all fun d m => by
    obtain ⟨r, _, rfl⟩ := List.mem_map.mp m
    exact canLay_ints r]
  have q : PyData.depthAll (R.map intD) ≤ 2 := depthAll_le fun d hd => by
    obtain ⟨r, hr, rfl⟩ := List.mem_map.mp hd
    have := depth_ints r
    show PyData.depthAll (r.map .int) + 1 ≤ 2
    omega
  simp only [Bool.true_and, decide_eq_true_eq]
  show PyData.depthAll (R.map intD) + 1 ≤ 64
  omega
theorem eqv_ints (L M : List Int) : PyData.eqv (intD L) (intD M) = decide (L = M) := by
  rw [← PySem.W.ked_eqvAll]
  show PyData.eqv (.list _) (.list _) = _
  rw [PyData.eqv]
theorem eqv_rows : ∀ R T : List (List Int), PyData.eqvAll (R.map intD) (T.map intD) = decide (R = T)
  | [], [] => by simp [PyData.eqvAll]
  | [], _ :: _ => by simp [PyData.eqvAll]
  | _ :: _, [] => by simp [PyData.eqvAll]
  | r :: R, t :: T => by
    rw [List.map_cons, List.map_cons, PyData.eqvAll, eqv_ints, eqv_rows R T]
    simp
@[simp] theorem eq_ints (L M : List Int) : dEq (intD L) (intD M) = .ok (.bool (decide (L = M))) := by
  have h : (SeqAt.shaped (intD L) && SeqAt.shaped (intD M)) = true := by
    rw [show SeqAt.shaped (intD L) = true from shaped_ints L, show SeqAt.shaped (intD M) = true from shaped_ints M]; rfl
  show (if (SeqAt.shaped (intD L) && SeqAt.shaped (intD M)) = true then okB (PyData.eqv (intD L) (intD M)) else .no) = _
  rw [if_pos h, eqv_ints]
  rfl
@[simp] theorem ne_ints (L M : List Int) : dNe (intD L) (intD M) = .ok (.bool (!decide (L = M))) := by
  have h : (SeqAt.shaped (intD L) && SeqAt.shaped (intD M)) = true := by
    rw [show SeqAt.shaped (intD L) = true from shaped_ints L, show SeqAt.shaped (intD M) = true from shaped_ints M]; rfl
  show (if (SeqAt.shaped (intD L) && SeqAt.shaped (intD M)) = true then okB (!PyData.eqv (intD L) (intD M)) else .no) = _
  rw [if_pos h, eqv_ints]
  rfl
@[simp] theorem eq_rows (R T : List (List Int)) : dEq (.list (R.map intD)) (.list (T.map intD)) = .ok (.bool (decide (R = T))) := by
  show (if (SeqAt.shaped (.list (R.map intD)) && SeqAt.shaped (.list (T.map intD))) = true then okB (PyData.eqv (.list (R.map intD)) (.list (T.map intD))) else .no) = _
  rw [shaped_rows, shaped_rows, PyData.eqv, eqv_rows]
  rfl
@[simp] theorem ne_rows (R T : List (List Int)) : dNe (.list (R.map intD)) (.list (T.map intD)) = .ok (.bool (!decide (R = T))) := by
  show (if (SeqAt.shaped (.list (R.map intD)) && SeqAt.shaped (.list (T.map intD))) = true then okB (!PyData.eqv (.list (R.map intD)) (.list (T.map intD))) else .no) = _
  rw [shaped_rows, shaped_rows, PyData.eqv, eqv_rows]
  rfl
theorem mem_ints (i : Int) (L : List Int) : memB (.int i) (L.map .int) = decide (i ∈ L) := by
  unfold memB
  rw [List.any_map, Bool.eq_iff_iff, List.any_eq_true, decide_eq_true_eq]
  constructor
  · rintro ⟨j, m, e⟩
    have e' : (j == i) = true := e
    rw [beq_iff_eq] at e'
    exact e' ▸ m
  · intro m
    exact ⟨i, m, by show (i == i) = true; simp⟩
theorem mem_rows (r : List Int) (R : List (List Int)) : memB (intD r) (R.map intD) = decide (r ∈ R) := by
  unfold memB
  rw [List.any_map, Bool.eq_iff_iff, List.any_eq_true, decide_eq_true_eq]
  constructor
  · rintro ⟨j, m, e⟩
    have e' : PyData.eqv (intD j) (intD r) = true := e
    rw [eqv_ints, decide_eq_true_eq] at e'
    exact e' ▸ m
  · intro m
    exact ⟨r, m, by show PyData.eqv (intD r) (intD r) = true; rw [eqv_ints]; simp⟩
@[simp] theorem in_ints (neg : Bool) (i : Int) (L : List Int) : dIn neg (.int i) (intD L) = .ok (.bool (if neg then !decide (i ∈ L) else decide (i ∈ L))) := by
  show (if (SeqAt.shaped (.int i) && SeqAt.shaped (intD L)) = true then okB (if neg then !memB (.int i) (L.map .int) else memB (.int i) (L.map .int)) else .no) = _
  rw [show SeqAt.shaped (intD L) = true from shaped_ints L, mem_ints]
  rfl
@[simp] theorem in_rows (neg : Bool) (r : List Int) (R : List (List Int)) : dIn neg (intD r) (.list (R.map intD)) = .ok (.bool (if neg then !decide (r ∈ R) else decide (r ∈ R))) := by
  show (if (SeqAt.shaped (intD r) && SeqAt.shaped (.list (R.map intD))) = true then okB (if neg then !memB (intD r) (R.map intD) else memB (intD r) (R.map intD)) else .no) = _
  rw [show SeqAt.shaped (intD r) = true from shaped_ints r, shaped_rows, mem_rows]
  rfl
theorem alike_ints : ∀ a b : List Int, PySem.W.alikeAll (a.map .int) (b.map .int) = true
  | [], _ => rfl
  | _ :: _, [] => rfl
  | x :: a, y :: b => by
    show (PySem.W.alike (.int x) (.int y) && PySem.W.alikeAll (a.map .int) (b.map .int)) = true
    rw [alike_ints a b]
    rfl
theorem dict_ints (L : List Int) : PyData.hasDictAll (L.map .int) = false := by
  induction L with
  | nil => rfl
  | cons i L ih => exact ih
theorem dict_rows (R : List (List Int)) : PyData.hasDictAll (R.map intD) = false := by
  induction R with
  | nil => rfl
  | cons r R ih =>
    show ((intD r).hasDict || PyData.hasDictAll (R.map intD)) = false
    rw [ih, show (intD r).hasDict = false from dict_ints r]
    rfl
theorem ord_ints (a b : List Int) : ordOk (intD a) (intD b) = true := by
  unfold ordOk
  rw [show PySem.W.alike (intD a) (intD b) = true from alike_ints a b, show (intD a).hasDict = false from dict_ints a, show (intD b).hasDict = false from dict_ints b]
  have h1 : (intD a).depth ≤ 2 := by
    have := depth_ints a
    show PyData.depthAll (a.map .int) + 1 ≤ 2
    omega
  have e : decide (min (intD a).depth (intD b).depth ≤ 64) = true := decide_eq_true (by omega)
  rw [e]
  rfl
theorem lt_ints (a b : List Int) : PySem.W.dataLt (intD a) (intD b) = decide (a < b) := by
  show PySem.W.dataLt (.list (a.map .int)) (.list (b.map .int)) = _
  rw [PySem.W.dataLt_list]
  exact PySem.W.dataLt_ints a b
@[simp] theorem ge_ints (a b : List Int) : dGe (intD a) (intD b) = .ok (.bool (!decide (a < b))) := by
  show (if ordOk (intD a) (intD b) = true then okB (!PySem.W.dataLt (intD a) (intD b)) else .no) = _
  rw [if_pos (ord_ints a b), lt_ints]
  rfl
theorem sorts_rows (R : List (List Int)) : sortsOk (R.map intD) := by
  refine ⟨fun d m e m' => ?_, .inr fun d m => ?_, dict_rows R, fun d m => ?_⟩
  · obtain ⟨a, _, rfl⟩ := List.mem_map.mp m
    obtain ⟨b, _, rfl⟩ := List.mem_map.mp m'
    exact alike_ints a b
  · obtain ⟨a, _, rfl⟩ := List.mem_map.mp m
    exact ⟨fun h => (by cases h), fun xs h => (by cases h)⟩
  · obtain ⟨a, _, rfl⟩ := List.mem_map.mp m
    have := depth_ints a
    show PyData.depthAll (a.map .int) + 1 ≤ 60
    omega
def sortR (R : List (List Int)) : List (List Int) := R.mergeSort fun a b => decide (a ≤ b)
@[simp] theorem sorted_rows (R : List (List Int)) : dSorted [.list (R.map intD)] = .ok (.list ((sortR R).map intD)) := by
  unfold dSorted
  dsimp only
  rw [if_pos (sorts_rows R)]
  unfold sortR
  rw [List.map_mergeSort (s := PySem.W.dataLe false id)]
  intro a _ b _
  exact (congrFun (congrFun (PySem.W.dataLe_rows (β := List Int) id) a) b).symm
theorem sorts_ints (L : List Int) : sortsOk (L.map .int) := by
  refine ⟨fun d m e m' => ?_, .inr fun d m => ?_, dict_ints L, fun d m => ?_⟩
  · obtain ⟨a, _, rfl⟩ := List.mem_map.mp m
    obtain ⟨b, _, rfl⟩ := List.mem_map.mp m'
    rfl
  · obtain ⟨a, _, rfl⟩ := List.mem_map.mp m
    exact ⟨fun h => (by cases h), fun xs h => (by cases h)⟩
  · obtain ⟨a, _, rfl⟩ := List.mem_map.mp m
    exact Nat.zero_le _
def sortI (L : List Int) : List Int := L.mergeSort fun a b => decide (a ≤ b)
@[simp] theorem sorted_ints (L : List Int) : dSorted [.list (L.map .int)] = .ok (.list ((sortI L).map .int)) := by
  unfold dSorted
  dsimp only
  rw [if_pos (sorts_ints L)]
  unfold sortI
  rw [List.map_mergeSort (s := PySem.W.dataLe false id)]
  intro a _ b _
  exact (congrFun (congrFun (PySem.W.dataLe_int (β := Int) id) a) b).symm
theorem sortR_perm (R : List (List Int)) : (sortR R).Perm R := List.mergeSort_perm _ _
theorem sortI_perm (R : List Int) : (sortI R).Perm R := List.mergeSort_perm _ _
theorem sortR_le (R : List (List Int)) : (sortR R).Pairwise fun a b => a ≤ b := by
  have q := List.pairwise_mergeSort (le := fun a b : List Int => decide (a ≤ b)) (fun a b c h k => decide_eq_true (List.le_trans (of_decide_eq_true h) (of_decide_eq_true k))) (fun a b => by
    rcases List.le_total a b with h | h <;> simp [h]) R
  exact q.imp fun h => of_decide_eq_true h
theorem sortI_le (R : List Int) : (sortI R).Pairwise fun a b => a ≤ b := by
  have q := List.pairwise_mergeSort (le := fun a b : Int => decide (a ≤ b)) (fun a b c h k => decide_eq_true (Int.le_trans (of_decide_eq_true h) (of_decide_eq_true k))) (fun a b => by
    rcases Int.le_total a b with h | h <;> simp [h]) R
  exact q.imp fun h => of_decide_eq_true h
theorem sortR_lt {R : List (List Int)} (h : R.Nodup) : (sortR R).Pairwise fun a b => a < b := by
  have n : (sortR R).Nodup := (sortR_perm R).nodup_iff.mpr h
  exact (sortR_le R).imp₂ (fun a b h1 h2 => by
    by_cases c : a < b
    · exact c
    · exact absurd (List.le_antisymm h1 (List.not_lt.mp c)) h2) n
@[simp] theorem dIx_l1 {a b : PyData} {r : List PyData} : dIx (.list (a :: b :: r)) (.int 1) = .ok b := dIx_list (ds := a :: b :: r) (k := 1) (by simp)
@[simp] theorem dIx_l2 {a b c : PyData} {r : List PyData} : dIx (.list (a :: b :: c :: r)) (.int 2) = .ok c := dIx_list (ds := a :: b :: c :: r) (k := 2) (by simp)
@[simp] theorem dIx_l3 {a b c d : PyData} {r : List PyData} : dIx (.list (a :: b :: c :: d :: r)) (.int 3) = .ok d := dIx_list (ds := a :: b :: c :: d :: r) (k := 3) (by simp)
@[simp] theorem dIx_t2 {a b c : PyData} {r : List PyData} : dIx (.tuple (a :: b :: c :: r)) (.int 2) = .ok c := by
  show ofOpt (atI (a :: b :: c :: r) ((2 : Nat) : Int)) = _
  rw [atI_nat (k := 2) (by simp)]
  rfl
@[simp] theorem ownC_int {L : List Int} : ownC (intD L) = .ow (intD L) := ownC_list
@[simp] theorem owK_int {L : List Int} {Q : Out → Prop} {k : List PyData → Prop} : owK (some (.ow (intD L))) Q k = k (L.map .int) := owK_ow
/-! coded lists -/
section
variable {α : Type} {l : List α} {enc : α → PyData} {k : Nat} {neg : Bool}
theorem ix_enc (h : k < l.length) : dIx (.list (l.map enc)) (.int (k : Nat)) = .ok (enc l[k]) := by
  rw [dIx_list (by simpa using h)]
  simp
theorem ix_at {i : Int} (h0 : 0 ≤ i) (h : i.toNat < l.length) : dIx (.list (l.map enc)) (.int i) = .ok (enc l[i.toNat]) := by
  obtain ⟨n, rfl⟩ := Int.eq_ofNat_of_zero_le h0
  exact ix_enc h
theorem ix_of {i : Int} {x : α} (h0 : 0 ≤ i) (h : l[i.toNat]? = some x) : dIx (.list (l.map enc)) (.int i) = .ok (enc x) := by
  obtain ⟨h1, h2⟩ := List.getElem?_eq_some_iff.mp h
  rw [ix_at h0 h1, h2]
theorem sl_to {i : Int} (h0 : 0 ≤ i) : dSl (.list (l.map enc)) none (some i) = .ok (.list ((l.take i.toNat).map enc)) := by
  obtain ⟨n, rfl⟩ := Int.eq_ofNat_of_zero_le h0
  show dSl _ none (some (n : Int)) = _
  rw [dSl_lo, List.map_take, Int.toNat_natCast]
theorem sl_from {i : Int} (h0 : 0 ≤ i) : dSl (.list (l.map enc)) (some i) none = .ok (.list ((l.drop i.toNat).map enc)) := by
  obtain ⟨n, rfl⟩ := Int.eq_ofNat_of_zero_le h0
  show dSl _ (some (n : Int)) none = _
  rw [dSl_hi, List.map_drop, Int.toNat_natCast]
@[simp] theorem sum_ints (L : List Int) : dSum [.list (L.map .int)] = .ok (.int L.sum) := by
  show (match intsOf (L.map .int) with | some ns => okI ns.sum | none => Rs.no) = _
  rw [intsOf_int]
  rfl
@[simp] theorem maxI_two (a b : Int) : dMax [.list [.int a, .int b]] = .ok (.int (max a b)) := by
  show okI (if b > a then b else a) = _
  unfold okI
  congr 2
  split <;> omega
@[simp] theorem minI_two (a b : Int) : dMin [.list [.int a, .int b]] = .ok (.int (min a b)) := by
  show okI (if b < a then b else a) = _
  unfold okI
  congr 2
  split <;> omega
@[simp] theorem maxI_one (a : Int) : dMax [.list [.int a]] = .ok (.int a) := by
  refine Eq.trans ?_ (Eq.refl _)
  rfl
@[simp high] theorem max_ii (a b : Int) : dMax [.int a, .int b] = .ok (.int (max a b)) := by
  show okI (if b > a then b else a) = _
  unfold okI
  congr 2
  split <;> omega
@[simp high] theorem min_ii (a b : Int) : dMin [.int a, .int b] = .ok (.int (min a b)) := by
  show okI (if b < a then b else a) = _
  unfold okI
  congr 2
  split <;> omega
@[simp] theorem all_bools (L : List Bool) : dAll [.list (L.map .bool)] = .ok (.bool (L.all id)) := by
  have e : ∀ L : List Bool, boolsOf (L.map .bool) = some L := by
    intro L
    induction L with
    | nil => rfl
    | cons b L ih =>
      show (boolsOf (L.map .bool)).map (b :: ·) = _
      rw [ih]
      rfl
  show (match boolsOf (L.map .bool) with | some ns => okB (ns.all id) | none => Rs.no) = _
  rw [e]
  rfl
end
@[simp] theorem len_int' (L : List Int) : dLen [intD L] = .ok (.int L.length) := by
  refine Eq.trans (len_int L) (Eq.refl _)
@[simp] theorem eq_nn : dEq (.list []) (.list []) = .ok (.bool true) := eq_ints [] []
@[simp] theorem ne_nn : dNe (.list []) (.list []) = .ok (.bool false) := ne_ints [] []
@[simp] theorem eq_nil_i {L : List Int} : dEq (intD L) (.list []) = .ok (.bool (decide (L = []))) := eq_ints L []
@[simp] theorem ne_nil_i {L : List Int} : dNe (intD L) (.list []) = .ok (.bool (!decide (L = []))) := ne_ints L []
@[simp] theorem eq_nil_r {R : List (List Int)} : dEq (.list (R.map intD)) (.list []) = .ok (.bool (decide (R = []))) := eq_rows R []
@[simp] theorem ne_nil_r {R : List (List Int)} : dNe (.list (R.map intD)) (.list []) = .ok (.bool (!decide (R = []))) := ne_rows R []
@[simp] theorem all_true {α : Type} (l : List α) : dAll [.list (l.map fun _ => .bool true)] = .ok (.bool true) := by
  have q := all_bools (l.map fun _ => true)
  rw [List.map_map] at q
  have e : (l.map fun _ => true).all id = true := by simp
  rw [e] at q
  exact q
theorem it_range {ms : List M} {ρ : Rho} {n : Nat} (h : mAll ms ρ = .ok [.int (n : Nat)]) (hn : n ≤ 16777216) : iCall iR1 ms ρ = .ok ((List.range n).map fun k => .int (k : Nat)) := by
  rw [iter1 h (range_nat hn), rangeL_map]
  simp
theorem it_two {ρ : Rho} : iCall iR1 [mC (.int 2)] ρ = .ok ([(0 : Int), 1].map .int) := it_range (n := 2) rfl (by decide)
theorem app_ints {L M : List Int} (h : L.length + M.length ≤ 16777216) : dAdd (intD L) (intD M) = .ok (intD (L ++ M)) := by
  unfold intD
  rw [dAdd_list (by simpa using h), List.map_append]
theorem app_int1 {L : List Int} {i : Int} (h : L.length < 16777216) : dAdd (intD L) (.list [.int i]) = .ok (intD (L ++ [i])) := app_ints (M := [i]) (by simp; omega)
theorem ix_intD {L : List Int} {k : Nat} (h : k < L.length) : dIx (intD L) (.int (k : Nat)) = .ok (.int (L[k]?.getD 0)) := by
  unfold intD
  rw [ix_enc h, List.getElem?_eq_getElem h]
  rfl
theorem mLst_two {a b : Int} : PyData.list [.int a, .int b] = intD [a, b] := rfl
end Sm

/-! The mix as a natural number, repr of lists of ints and of rows, where branches meet. -/
namespace Sm
open PySem L2
def mixN (L : List Int) (k many : Int) : Nat := (mixI L k many).toNat
theorem mixN_lt (L : List Int) (k : Int) {many : Int} (h : 0 < many) : (mixN L k many : Int) < many := by
  have := mixI_range L k h
  unfold mixN
  omega
theorem mixN_sem (L : List Int) (k : Int) {many : Int} (h : 0 < many) : i_mix.sem [intD L, .int k, .int many] = .ok (.int (mixN L k many : Nat)) := by
  rw [mix_sem L k h]
  have := mixI_range L k h
  unfold mixN
  congr 2
  omega
theorem fz_call {f : List Int → Rs PyData} {i : Nat} {ρ : Rho} {a : Addr} {ns : List Int} (h : gt ρ i = some (.fz a ns)) : mFzCall f i ρ = f ns := by
  unfold gt at h
  unfold mFzCall
  rw [h]
theorem draws_ok {ns : List Int} (h : ns.length ≤ 63) : F_draws ns = .ok (intD (drawsI ns)) := if_pos h
theorem shl_one {n : Nat} (h : n ≤ 1000) : dShl (.int 1) (.int n) = .ok (.int ((2 ^ n : Nat) : Int)) := by
  show (if 0 ≤ (n : Int) ∧ (n : Int) ≤ 1000000 ∧ (1 : Int).natAbs < 2 ^ 64 then okI (1 * 2 ^ (n : Int).toNat) else .no) = _
  rw [if_pos ⟨by omega, by omega, by decide⟩, Int.toNat_natCast, Int.one_mul]
  unfold okI
  congr 2
def mtK (J : Rho → Prop) (Q : Out → Prop) : Out → Prop
  | .nx ρ => J ρ
  | o => Q o
section
variable {J : Rho → Prop} {Q : Out → Prop} {ρ : Rho} {d : PyData} {c : Str} {a : Sx}
@[simp] theorem mtK_nx : mtK J Q (.nx ρ) = J ρ := by
  refine Eq.trans ?_ (Eq.refl _)
  rfl
@[simp] theorem mtK_rt : mtK J Q (.rt d) = Q (.rt d) := by
  refine Eq.trans ?_ (Eq.refl _)
  rfl
@[simp] theorem mtK_xc : mtK J Q (.xc ρ c d) = Q (.xc ρ c d) := by
  refine Eq.trans ?_ (Eq.refl _)
  rfl
@[simp] theorem mtK_bk : mtK J Q (.bk ρ) = Q (.bk ρ) := by
  refine Eq.trans ?_ (Eq.refl _)
  rfl
@[simp] theorem mtK_ct : mtK J Q (.ct ρ) = Q (.ct ρ) := by
  refine Eq.trans ?_ (Eq.refl _)
  rfl
theorem wp_mt (J : Rho → Prop) (h : Wp a ρ (mtK J Q)) (k : ∀ ρ', J ρ' → Q (.nx ρ')) : Wp a ρ Q := by
  unfold Wp at h ⊢
  cases e : a ρ <;> rw [e] at h
  · exact k _ h
  all_goals exact h
theorem wp_eq {o : Out} (h : Wp a ρ fun x => x = o) : a ρ = o := by
  unfold Wp at h
  exact h
end
theorem wp_ff {t : Ts} {a b : Sx} {ρ : Rho} {Q : Out → Prop} (h : t ρ = .ok false) (k : Wp b ρ Q) : Wp (sIf t a b) ρ Q := by
  rw [wp_if, h, rsK_ok, if_neg (by decide)]
  exact k
theorem wp_tt {t : Ts} {a b : Sx} {ρ : Rho} {Q : Out → Prop} (h : t ρ = .ok true) (k : Wp a ρ Q) : Wp (sIf t a b) ρ Q := by
  rw [wp_if, h, rsK_ok, if_pos rfl]
  exact k
theorem wp_own' {m : M} {n : Nat} {d : PyData} {ρ : Rho} {Q : Out → Prop} (h : m ρ = .ok d) (k : Q (.nx (ρ.set n (ownC d)))) : Wp (sOwn n m) ρ Q := by
  rw [wp_own, h, rsK_ok]
  exact k
theorem wp_set' {m : M} {n : Nat} {d : PyData} {ρ : Rho} {Q : Out → Prop} (h : m ρ = .ok d) (k : Q (.nx (ρ.set n (.sh d)))) : Wp (sSet (tNm n) m) ρ Q := by
  rw [wp_set, h, rsK_ok]
  exact k
theorem wp_app' {i : Nat} {m : M} {ρ : Rho} {ds : List PyData} {d : PyData} {Q : Out → Prop} (h : gt ρ i = some (.ow (.list ds))) (hm : m ρ = .ok d) (hl : ds.length < 16777216) (k : Q (.nx (ρ.set i (.ow (.list (ds ++ [d])))))) : Wp (sApp i m) ρ Q := by
  rw [wp_app, h, owK_ow, hm, rsK_ok, if_pos hl]
  exact k
theorem frz_ow {i : Nat} {ρ : Rho} {d : PyData} (h : gt ρ i = some (.ow d)) : frz i ρ = ρ.set i (.sh d) := by
  have h' : ρ[i]? = some (.ow d) := h
  unfold frz
  rw [h']
/-- a test that is lent one list -/
theorem lend1 {i : Nat} {ρ : Rho} {d : PyData} {t : Ts} {b : Bool} (h : gt ρ i = some (.ow d)) (e : t (ρ.set i (.sh d)) = .ok b) : tLend [i] t ρ = .ok b := by
  show (match t (frz i ρ) with | .ok b => Rs.ok b | _ => .no) = _
  rw [frz_ow h, e]
/-- ints and lists of ints are shown -/
def sml (L : List Int) : Prop := ∀ i ∈ L, i.natAbs < 10 ^ 12
theorem rows_okL {l : List (List Int)} (h : ∀ r ∈ l, sml r) (hw : ∀ r ∈ l, r.length ≤ 100) (hl : l.length ≤ 1000) : okD (.list (l.map intD)) = true ∧ (PyData.list (l.map intD)).depth ≤ 60 ∧ (PyData.list (l.map intD)).bulk ≤ 2 ^ 20 := by
  refine ⟨okDs_all fun d hd => ?_, ?_, ?_⟩
  · obtain ⟨r, hr, rfl⟩ := List.mem_map.mp hd
    exact okD_ints (h r hr)
  · have q : PyData.depthAll (l.map intD) ≤ 2 := depthAll_le fun d hd => by
      obtain ⟨r, hr, rfl⟩ := List.mem_map.mp hd
      have := depth_ints r
      show PyData.depthAll (r.map .int) + 1 ≤ 2
      omega
    show PyData.depthAll (l.map intD) + 1 ≤ 60
    omega
  · have q : PyData.bulkAll (l.map intD) ≤ (100 + 1) * (l.map intD).length := bulkAll_le fun d hd => by
      obtain ⟨r, hr, rfl⟩ := List.mem_map.mp hd
      have := bulk_ints r
      have := hw r hr
      show PyData.bulkAll (r.map .int) ≤ 100
      omega
    rw [List.length_map] at q
    show PyData.bulkAll (l.map intD) ≤ 2 ^ 20
    omega
theorem show_rows {l : List (List Int)} (h : ∀ r ∈ l, sml r) (hw : ∀ r ∈ l, r.length ≤ 100) (hl : l.length ≤ 1000) : dRepr [.list (l.map intD)] = .ok (.str (PyData.list (l.map intD)).shown) := by
  obtain ⟨a, b, c⟩ := rows_okL h hw hl
  exact repr_of (shows_of a b c)
theorem show_ints {l : List Int} (h : sml l) (hl : l.length ≤ 100000) : dRepr [intD l] = .ok (.str (intD l).shown) := by
  have a := depth_ints l
  have b := bulk_ints l
  refine repr_of (shows_of (okD_ints h) ?_ ?_)
  · show PyData.depthAll (l.map .int) + 1 ≤ 60
    omega
  · show PyData.bulkAll (l.map .int) ≤ 2 ^ 20
    omega
theorem show_int {i : Int} (h : i.natAbs < 10 ^ 12) : dRepr [.int i] = .ok (.str (PyData.int i).shown) := repr_of (shows_of (decide_eq_true h) (Nat.zero_le _) (Nat.zero_le _))
@[simp] theorem show_none : dRepr [.none] = .ok (.str (PyData.none).shown) := repr_of (shows_of rfl (Nat.zero_le _) (Nat.zero_le _))
@[simp] theorem show_bool {b : Bool} : dRepr [.bool b] = .ok (.str (PyData.bool b).shown) := repr_of (shows_of rfl (Nat.zero_le _) (Nat.zero_le _))
theorem it1 {ms : List M} {ρ : Rho} {i : Int} {n : Nat} (h : mAll ms ρ = .ok [.int i]) (e : i = n) (hn : n ≤ 16777216) : iCall iR1 ms ρ = .ok (rangeL 0 n) := iter1 (h.trans (by rw [e])) (range_nat hn)
theorem it2 {ms : List M} {ρ : Rho} {i j : Int} {n : Nat} (h : mAll ms ρ = .ok [.int i, .int j]) (e : (j - i).toNat = n) (hn : n ≤ 16777216) (h1 : -(2 ^ 62) ≤ i) (h2 : i < 2 ^ 62) (h3 : -(2 ^ 62) ≤ j) (h4 : j < 2 ^ 62) : iCall iR2 ms ρ = .ok (rangeL i n) :=
  iter2 h (by rw [← e]; exact rangeL_ok h1 h2 h3 h4 (by omega))
theorem pick2 {m : Nat} (a b : Int) (h : (m : Int) < 2) : ∃ x, dIx (.list [.int a, .int b]) (.int m) = .ok (.int x) ∧ (x = a ∨ x = b) := by
  match m, h with
  | 0, _ => exact ⟨a, dIx_l0, .inl rfl⟩
  | 1, _ => exact ⟨b, dIx_l1, .inr rfl⟩
  | m + 2, h => omega
theorem pick3 {m : Nat} (a b c : Int) (h : (m : Int) < 3) : ∃ x, dIx (.list [.int a, .int b, .int c]) (.int m) = .ok (.int x) ∧ (x = a ∨ x = b ∨ x = c) := by
  match m, h with
  | 0, _ => exact ⟨a, dIx_l0, .inl rfl⟩
  | 1, _ => exact ⟨b, dIx_l1, .inr (.inl rfl)⟩
  | 2, _ => exact ⟨c, dIx_l2, .inr (.inr rfl)⟩
  | m + 3, h => omega
theorem pick4 {m : Nat} (a b c d : Int) (h : (m : Int) < 4) : ∃ x, dIx (.list [.int a, .int b, .int c, .int d]) (.int m) = .ok (.int x) ∧ (x = a ∨ x = b ∨ x = c ∨ x = d) := by
  match m, h with
  | 0, _ => exact ⟨a, dIx_l0, .inl rfl⟩
  | 1, _ => exact ⟨b, dIx_l1, .inr (.inl rfl)⟩
  | 2, _ => exact ⟨c, dIx_l2, .inr (.inr (.inl rfl))⟩
  | 3, _ => exact ⟨d, dIx_l3, .inr (.inr (.inr rfl))⟩
  | m + 4, h => omega
end Sm

/-! More of lists: both ends of a slice, None, remove, star displays, enumerate, sets of ints. -/
namespace Sm
open PySem L2
@[simp] theorem is_nn : dIs false .none .none = .ok (.bool true) := by
  refine Eq.trans ?_ (Eq.refl _)
  rfl
@[simp] theorem is_in {i : Int} : dIs false (.int i) .none = .ok (.bool false) := by
  refine Eq.trans ?_ (Eq.refl _)
  rfl
@[simp] theorem isn_nn : dIs true .none .none = .ok (.bool false) := by
  refine Eq.trans ?_ (Eq.refl _)
  rfl
@[simp] theorem isn_in {i : Int} : dIs true (.int i) .none = .ok (.bool true) := by
  refine Eq.trans ?_ (Eq.refl _)
  rfl
theorem sl_both {α : Type} {l : List α} {enc : α → PyData} {i j : Int} (h0 : 0 ≤ i) (h1 : i ≤ j) (h2 : j ≤ l.length) : dSl (.list (l.map enc)) (some i) (some j) = .ok (.list (((l.take j.toNat).drop i.toNat).map enc)) := by
  obtain ⟨a, rfl⟩ := Int.eq_ofNat_of_zero_le h0
  obtain ⟨b, rfl⟩ := Int.eq_ofNat_of_zero_le (Int.le_trans h0 h1)
  show Rs.ok (PyData.list (cutD (l.map enc) (some (a : Int)) (some (b : Int)))) = _
  unfold cutD
  rw [HT.sIx_nat, HT.sIx_nat, List.length_map, Int.toNat_natCast, Int.toNat_natCast, Nat.min_eq_left (by omega), Nat.min_eq_left (by omega), List.map_drop, List.map_take, List.drop_take]
theorem sl_bothI {L : List Int} {i j : Int} (h0 : 0 ≤ i) (h1 : i ≤ j) (h2 : j ≤ L.length) : dSl (intD L) (some i) (some j) = .ok (intD ((L.take j.toNat).drop i.toNat)) := sl_both h0 h1 h2
theorem sl_fromI {L : List Int} {i : Int} (h0 : 0 ≤ i) : dSl (intD L) (some i) none = .ok (intD (L.drop i.toNat)) := sl_from h0
theorem sl_toI {L : List Int} {i : Int} (h0 : 0 ≤ i) : dSl (intD L) none (some i) = .ok (intD (L.take i.toNat)) := sl_to h0
theorem sl_butlast {ds : List PyData} : dSl (.list ds) none (some (-1)) = .ok (.list ds.dropLast) := by
  show Rs.ok (PyData.list (cutD ds none (some (-1)))) = _
  unfold cutD
  rw [HT.sIx_none, List.drop_zero, Nat.sub_zero]
  have e : HT.sIx ds.length ds.length (some (-1)) = ds.length - 1 := by
    unfold HT.sIx
    simp
    omega
  rw [e, List.dropLast_eq_take]
theorem wp_remI {L : List Int} {k : Int} {i : Nat} {m : M} {ρ : Rho} {Q : Out → Prop} (h : gt ρ i = some (.ow (intD L))) (hm : m ρ = .ok (.int k)) (mem : k ∈ L) (q : Q (.nx (ρ.set i (.ow (intD (L.erase k)))))) : Wp (sRem i m) ρ Q := by
  have h' : ρ[i]? = some (.ow (intD L)) := h
  unfold Wp sRem
  rw [h', show owL (some (.ow (intD L))) = some (L.map .int) from rfl, hm]
  show Q (match intsOf (L.map .int), PyData.int k with
    | some ns, .int k => if k ∈ ns then Out.nx (ρ.set i (.ow (.list ((ns.erase k).map .int)))) else .no
    | _, _ => Out.no)
  rw [intsOf_int]
  show Q (if k ∈ L then Out.nx (ρ.set i (.ow (.list ((L.erase k).map .int)))) else .no)
  rw [if_pos mem]
  exact q
theorem star1 {a b : M} {ρ : Rho} {L : List Int} {i : Int} (ha : a ρ = .ok (intD L)) (hb : b ρ = .ok (.int i)) (hl : L.length < 16777216) : mLstS [(true, a), (false, b)] ρ = .ok (intD (L ++ [i])) := by
  have e : mAllS [(true, a), (false, b)] ρ = .ok ((L ++ [i]).map .int) := by
    show (a ρ >>= fun d => match d with
      | .list es => (mAllS [(false, b)] ρ >>= fun ds => Rs.ok (es ++ ds))
      | .tuple es => (mAllS [(false, b)] ρ >>= fun ds => Rs.ok (es ++ ds))
      | _ => .no) = _
    rw [ha, Rs.bind_ok]
    show ((b ρ >>= fun d => Rs.ok [d]) >>= fun ds => Rs.ok (L.map .int ++ ds)) = _
    rw [hb, Rs.bind_ok, Rs.bind_ok]
    simp
  show (mAllS [(true, a), (false, b)] ρ >>= fun ds => if ds.length ≤ sizeLine then Rs.ok (PyData.list ds) else Rs.no) = _
  rw [e, Rs.bind_ok, if_pos (by rw [sizeLine_eq]; simp; omega)]
  rfl
/-- a comprehension over enumerate -/
theorem comp_enum {α : Type} {ms : List M} {u v : Nat} {t : Ts} {el : M} {own : List Nat} {ρ : Rho} (l : List α) (enc : α → PyData) (hit : mAll ms ρ = .ok [.list (l.map enc)]) (p : Nat → Bool) (f : Nat → PyData)
    (h : ∀ k (hk : k < l.length), t (((wipeR ρ own).set u (.sh (.int (k : Nat)))).set v (.sh (enc l[k]))) = .ok (p k) ∧ (p k = true → el (((wipeR ρ own).set u (.sh (.int (k : Nat)))).set v (.sh (enc l[k]))) = .ok (f k))) :
    mComp (iCall iEnumD ms) (tTp [tNm u, tNm v]) t el own ρ = .ok (.list (((List.range l.length).filter p).map f)) := by
  have e : iCall iEnumD ms ρ = .ok ((List.range l.length).map fun k => .tuple [.int (k : Nat), (l.map enc)[k]?.getD .none]) := by
    rw [iterE hit]
    congr 1
    apply List.ext_getElem?
    intro i
    rw [List.getElem?_map, List.getElem?_zipIdx, List.getElem?_map, List.getElem?_map]
    by_cases hi : i < l.length
    · rw [List.getElem?_range hi]
      simp [hi]
    · rw [List.getElem?_eq_none (by simpa using hi), List.getElem?_eq_none (l := List.range l.length) (by simpa using hi)]
      rfl
  refine comp_enc (List.range l.length) _ e p f fun k mk => ?_
  have hk := List.mem_range.mp mk
  refine ⟨_, ?_, h k hk⟩
  show Rs.ok _ = _
  rw [List.getElem?_map, List.getElem?_eq_getElem hk]
  rfl
theorem metI_nodup (l : List Int) : (metI l).Nodup := by
  have key : ∀ (l ks : List Int), ks.Nodup → (l.foldl PyProof.Rows.step_dedup ks).Nodup := by
    intro l
    induction l with
    | nil => intro ks h; exact h
    | cons a l ih =>
      intro ks h
      rw [List.foldl_cons, PySem.W.oss_step]
      by_cases m : a ∈ ks
      · rw [if_pos m]; exact ih _ h
      · rw [if_neg m]
        refine ih _ (List.nodup_append.mpr ⟨h, by simp, fun x hx y hy e => ?_⟩)
        rw [List.mem_singleton.mp hy] at e
        exact m (e ▸ hx)
  unfold metI
  rw [PySem.W.oss_met]
  exact key l [] .nil
theorem metI_mem (l : List Int) (x : Int) : x ∈ metI l ↔ x ∈ l := by
  unfold metI
  rw [PySem.W.oss_met]
  exact PySem.W.oss_has
theorem lenset {a : M} {ρ : Rho} {L : List Int} (h : a ρ = .ok (intD L)) (hl : L.length ≤ 4000) : mLenSet a ρ = .ok (.int ((metI L).length : Nat)) := by
  show (a ρ >>= fun x => match x with
    | .list ds => (match intsOf ds with
      | some ns => if ns.length ≤ 4000 then okI (metI ns).length else .no
      | none => .no)
    | _ => Rs.no) = _
  rw [h, Rs.bind_ok]
  show (match intsOf (L.map .int) with
      | some ns => if ns.length ≤ 4000 then okI (metI ns).length else .no
      | none => Rs.no) = _
  rw [intsOf_int]
  exact if_pos hl
theorem ix_neg {L : List Int} {i : Int} (h0 : i < 0) (h1 : 0 ≤ i + L.length) : ∃ x, x ∈ L ∧ dIx (intD L) (.int i) = .ok (.int x) := by
  have hl : (i + L.length).toNat < L.length := by omega
  refine ⟨L[(i + L.length).toNat], List.getElem_mem hl, ?_⟩
  show ofOpt (atI (L.map PyData.int) i) = _
  unfold atI ixN
  rw [if_neg (by omega), List.length_map, if_pos (by omega)]
  simp [hl, ofOpt]
theorem ix_last1 {L : List Int} {x : Int} (h : L.getLast? = some x) : dIx (intD L) (.int (-1)) = .ok (.int x) := by
  have hl : 0 < L.length := by
    cases L with
    | nil => cases h
    | cons => simp
  show ofOpt (atI (L.map PyData.int) (-1)) = _
  unfold atI ixN
  rw [if_neg (by decide), List.length_map, if_pos (by omega)]
  rw [List.getLast?_eq_getElem?] at h
  have e : (-1 + (L.length : Int)).toNat = L.length - 1 := by omega
  simp [e, h, ofOpt]
end Sm

/-! Fractions in lowest terms, and numbers of choices. -/
namespace Fq
/-- a fraction of two whole numbers, taken apart -/
theorem divInt_parts {n d : Int} (h : 0 < d) : (Rat.divInt n d).num = n.fdiv (Int.gcd n d) ∧ ((Rat.divInt n d).den : Int) = d.fdiv (Int.gcd n d) := by
  obtain ⟨k, rfl⟩ := Int.eq_ofNat_of_zero_le (Int.le_of_lt h)
  have hk : k ≠ 0 := by omega
  rw [show Rat.divInt n (k : Int) = mkRat n k from rfl]
  unfold mkRat
  rw [dif_neg hk, Rat.normalize_eq]
  have g : Int.gcd n (k : Int) = n.natAbs.gcd k := by simp [Int.gcd]
  rw [g]
  have nn : (0 : Int) ≤ ((n.natAbs.gcd k : Nat) : Int) := by omega
  rw [Int.fdiv_eq_ediv_of_nonneg _ nn, Int.fdiv_eq_ediv_of_nonneg _ nn]
  simp
theorem num_den (q : Rat) : Rat.divInt q.num q.den = q := Rat.num_divInt_den q
theorem add_parts (p q : Rat) : Rat.divInt (p.num * q.den + q.num * p.den) (p.den * q.den) = p + q := by
  have e := Rat.divInt_add_divInt p.num q.num (d₁ := p.den) (d₂ := q.den) (by have := p.den_pos; omega) (by have := q.den_pos; omega)
  rw [num_den, num_den] at e
  exact e.symm
theorem mul_parts (p q : Rat) : Rat.divInt (p.num * q.num) (p.den * q.den) = p * q := by
  have e := Rat.divInt_mul_divInt p.num q.num (d₁ := p.den) (d₂ := q.den)
  rw [num_den, num_den] at e
  exact e.symm
theorem neg_neg (n d : Int) : Rat.divInt (-n) (-d) = Rat.divInt n d := Rat.neg_divInt_neg n d
/-- sizes -/
theorem divInt_size {n d : Int} {B : Int} (h : 0 < d) (hn : n.natAbs < B) (hd : d < B) : ((Rat.divInt n d).num.natAbs : Int) < B ∧ ((Rat.divInt n d).den : Int) < B := by
  obtain ⟨e1, e2⟩ := divInt_parts (n := n) h
  have gp : 0 < Int.gcd n d := Int.gcd_pos_of_ne_zero_right _ (by omega)
  have nn : (0 : Int) ≤ ((Int.gcd n d : Nat) : Int) := by omega
  rw [e1, e2, Int.fdiv_eq_ediv_of_nonneg _ nn, Int.fdiv_eq_ediv_of_nonneg _ nn]
  have a := Int.natAbs_ediv_le_natAbs n (Int.gcd n d)
  have b := Int.natAbs_ediv_le_natAbs d (Int.gcd n d)
  have c : 0 ≤ d / (Int.gcd n d : Int) := Int.ediv_nonneg (by omega) nn
  omega
/-! choices -/
def ch : Nat → Nat → Nat
  | _, 0 => 1
  | 0, _ + 1 => 0
  | n + 1, k + 1 => ch n k + ch n (k + 1)
theorem ch_zero (n : Nat) : ch n 0 = 1 := by cases n <;> rfl
theorem ch_big : ∀ (n k : Nat), n < k → ch n k = 0
  | 0, 0, h => by omega
  | 0, k + 1, _ => rfl
  | n + 1, 0, h => by omega
  | n + 1, k + 1, h => by
    unfold ch
    rw [ch_big n k (by omega), ch_big n (k + 1) (by omega)]
theorem ch_self : ∀ n, ch n n = 1
  | 0 => rfl
  | n + 1 => by
    unfold ch
    rw [ch_self n, ch_big n (n + 1) (by omega)]
theorem ch_pos : ∀ (n k : Nat), k ≤ n → 0 < ch n k
  | 0, 0, _ => by decide
  | 0, k + 1, h => by omega
  | n + 1, 0, _ => by rw [ch_zero]; decide
  | n + 1, k + 1, h => by
    unfold ch
    have := ch_pos n k (by omega)
    omega
theorem ch_step : ∀ (n k : Nat), k ≤ n → ch n (k + 1) * (k + 1) = ch n k * (n - k)
  | 0, 0, _ => by decide
  | 0, k + 1, h => by omega
  | n + 1, 0, _ => by
    have ih := ch_step n 0 (by omega)
    have e : ch (n + 1) (0 + 1) = ch n 0 + ch n (0 + 1) := rfl
    rw [e, ch_zero, ch_zero]
    rw [ch_zero] at ih
    simp at ih ⊢
    omega
  | n + 1, k + 1, h => by
    by_cases e : k = n
    · subst e
      rw [ch_big (k + 1) (k + 1 + 1) (by omega)]
      simp
    · have i1 := ch_step n k (by omega)
      have i2 := ch_step n (k + 1) (by omega)
      have e1 : ch (n + 1) (k + 1 + 1) = ch n (k + 1) + ch n (k + 1 + 1) := rfl
      have e2 : ch (n + 1) (k + 1) = ch n k + ch n (k + 1) := rfl
      rw [e1, e2]
      obtain ⟨m, rfl⟩ : ∃ m, n = k + 1 + m := ⟨n - (k + 1), by omega⟩
      rw [show k + 1 + m - k = m + 1 by omega] at i1
      rw [show k + 1 + m - (k + 1) = m by omega] at i2
      rw [show k + 1 + m + 1 - (k + 1) = m + 1 by omega]
      generalize ch (k + 1 + m) k = a at *
      generalize ch (k + 1 + m) (k + 1) = b at *
      generalize ch (k + 1 + m) (k + 1 + 1) = c at *
      grind
theorem ch_le : ∀ (n k : Nat), ch n k ≤ 2 ^ n
  | 0, 0 => by decide
  | 0, k + 1 => by simp [ch]
  | n + 1, 0 => by rw [ch_zero]; exact Nat.one_le_two_pow
  | n + 1, k + 1 => by
    have a := ch_le n k
    have b := ch_le n (k + 1)
    have e : ch (n + 1) (k + 1) = ch n k + ch n (k + 1) := rfl
    rw [e, Nat.pow_succ]
    omega
/-- a row of sums -/
def sm (f : Nat → Nat) : Nat → Nat
  | 0 => 0
  | n + 1 => sm f n + f n
theorem sm_add (f g : Nat → Nat) : ∀ n, sm (fun k => f k + g k) n = sm f n + sm g n
  | 0 => rfl
  | n + 1 => by
    simp only [sm]
    rw [sm_add f g n]
    omega
theorem sm_congr {f g : Nat → Nat} : ∀ {n : Nat}, (∀ k, k < n → f k = g k) → sm f n = sm g n
  | 0, _ => rfl
  | n + 1, h => by
    unfold sm
    rw [sm_congr fun k hk => h k (by omega), h n (by omega)]
theorem sm_first (f : Nat → Nat) : ∀ n, sm f (n + 1) = f 0 + sm (fun k => f (k + 1)) n
  | 0 => by simp [sm]
  | n + 1 => by
    rw [sm, sm_first f n]
    simp only [sm]
    omega
/-- hot ones among the hit ones -/
def hy (h m s k : Nat) : Nat := ch h k * ch m (s - k)
def hsum (h m s : Nat) : Nat := sm (hy h m s) (s + 1)
theorem hsum_zero (m s : Nat) : hsum 0 m s = ch m s := by
  unfold hsum
  rw [sm_first]
  have e : sm (fun k => hy 0 m s (k + 1)) s = 0 := by
    have : ∀ n, sm (fun k => hy 0 m s (k + 1)) n = 0 := by
      intro n
      induction n with
      | zero => rfl
      | succ n ih =>
        simp only [sm]
        rw [ih]
        simp [hy, ch]
    exact this s
  rw [e]
  simp [hy, ch]
theorem hsum_succ (h m s : Nat) : hsum (h + 1) m (s + 1) = hsum h m (s + 1) + hsum h m s := by
  unfold hsum
  rw [sm_first (hy (h + 1) m (s + 1)), sm_first (hy h m (s + 1))]
  have e : sm (fun k => hy (h + 1) m (s + 1) (k + 1)) (s + 1) = sm (fun k => hy h m (s + 1) (k + 1)) (s + 1) + sm (hy h m s) (s + 1) := by
    rw [← sm_add]
    apply sm_congr
    intro k _
    unfold hy
    rw [show ch (h + 1) (k + 1) = ch h k + ch h (k + 1) from rfl, show s + 1 - (k + 1) = s - k by omega, Nat.add_mul]
    omega
  rw [e]
  have e0 : hy (h + 1) m (s + 1) 0 = hy h m (s + 1) 0 := by simp [hy, ch_zero]
  rw [e0]
  omega
/-- all hits are as many as all samples -/
theorem hsum_all : ∀ (h m s : Nat), hsum h m s = ch (h + m) s
  | 0, m, s => by rw [hsum_zero, Nat.zero_add]
  | h + 1, m, 0 => by simp [hsum, sm, hy, ch_zero]
  | h + 1, m, s + 1 => by
    rw [hsum_succ, hsum_all h m (s + 1), hsum_all h m s, show h + 1 + m = (h + m) + 1 by omega]
    show _ = ch (h + m) s + ch (h + m) (s + 1)
    omega
/-- at least x hits -/
def up (h m s x : Nat) : Nat := hsum h m s - sm (hy h m s) x
/-- one more hot one: fewer than x hits get no more -/
theorem low_step (h m s : Nat) : ∀ x, x ≤ s + 1 → sm (hy (h + 1) m s) x + (if x = 0 then 0 else ch h (x - 1) * ch m (s - x) * (if x ≤ s then 1 else 0)) = sm (hy h (m + 1) s) x
  | 0, _ => rfl
  | x + 1, hx => by
    have ih := low_step h m s x (by omega)
    simp only [sm]
    rw [← ih]
    have ex : x ≤ s := by omega
    by_cases z : x = 0
    · subst z
      rw [if_neg (by omega), if_pos rfl]
      simp only [sm, hy, ch_zero, Nat.sub_zero, Nat.one_mul, Nat.zero_add]
      by_cases c : 1 ≤ s
      · obtain ⟨t, rfl⟩ : ∃ t, s = t + 1 := ⟨s - 1, by omega⟩
        rw [if_pos c, show ch (m + 1) (t + 1) = ch m t + ch m (t + 1) from rfl]
        simp [ch_zero]
        omega
      · rw [if_neg c]
        have : s = 0 := by omega
        subst this
        simp [ch_zero]
    · obtain ⟨y, rfl⟩ : ∃ y, x = y + 1 := ⟨x - 1, by omega⟩
      rw [if_neg z, if_neg (by omega), if_pos ex]
      unfold hy
      rw [show ch (h + 1) (y + 1) = ch h y + ch h (y + 1) from rfl]
      simp only [Nat.add_sub_cancel, Nat.mul_one]
      by_cases c : y + 1 + 1 ≤ s
      · rw [if_pos c]
        obtain ⟨t, rfl⟩ : ∃ t, s = y + 1 + 1 + t := ⟨s - (y + 1 + 1), by omega⟩
        rw [show y + 1 + 1 + t - (y + 1) = t + 1 by omega, show y + 1 + 1 + t - (y + 1 + 1) = t by omega, show ch (m + 1) (t + 1) = ch m t + ch m (t + 1) from rfl]
        generalize ch h y = a
        generalize ch h (y + 1) = b
        generalize ch m t = c'
        generalize ch m (t + 1) = d
        generalize sm _ _ = e
        grind
      · rw [if_neg c]
        have : s = y + 1 := by omega
        subst this
        simp [ch_zero]
        generalize ch h y = a
        generalize ch h (y + 1) = b
        generalize sm _ _ = e
        omega
theorem low_falls (h m s x : Nat) (hx : x ≤ s + 1) : sm (hy (h + 1) m s) x ≤ sm (hy h (m + 1) s) x := by
  have := low_step h m s x hx
  omega
end Fq

/-! Fractions as pairs: made, added, multiplied, compared; numbers of choices. -/
namespace Sm
open PySem L2
def frD (q : Rat) : PyData := .tuple [.int q.num, .int (q.den : Int)]
@[simp] theorem fr_0 {q : Rat} : dIx (frD q) (.int 0) = .ok (.int q.num) := dIx_t0
@[simp] theorem fr_1 {q : Rat} : dIx (frD q) (.int 1) = .ok (.int (q.den : Int)) := dIx_t1
def fits (q : Rat) : Prop := q.num.natAbs < 2 ^ 64 ∧ q.den < 2 ^ 64
theorem fits_mul (q : Rat) (h : fits q) (i : Int) : mulOk i q.num = true ∧ mulOk q.num i = true ∧ mulOk i q.den = true ∧ mulOk q.den i = true := by
  obtain ⟨h1, h2⟩ := h
  have a : -(2 ^ 64) < q.num ∧ q.num < 2 ^ 64 := by omega
  have b : -(2 ^ 64) < (q.den : Int) ∧ (q.den : Int) < 2 ^ 64 := by omega
  exact ⟨mulOk_r a.1 a.2, mulOk_l a.1 a.2, mulOk_r b.1 b.2, mulOk_l b.1 b.2⟩
theorem dFdiv_pos {i j : Int} (h : 0 < j) (h2 : j < 2 ^ 200) : dFdiv (.int i) (.int j) = .ok (.int (i.fdiv j)) := by
  have hl : j.natAbs.log2 < 9000 := by
    have : j.natAbs.log2 < 200 := (Nat.log2_lt (by omega)).mpr (by omega)
    omega
  exact if_pos (.inr ⟨h, hl⟩)
theorem wp_par' {i j : Nat} {x y : M} {d e : PyData} {ρ : Rho} {Q : Out → Prop} (hx : x ρ = .ok d) (hy : y ρ = .ok e) (k : Q (.nx ((ρ.set i (.sh d)).set j (.sh e)))) : Wp (sPar i j x y) ρ Q := by
  have h : mAll [x, y] ρ = .ok [d, e] := by simp [hx, hy]
  unfold Wp sPar
  rw [h]
  exact k
/-! fraction(n, d) -/
def x_fraction : Sx := sSeq (sIf (tBl (mBin dLt (mVar false 1) (mC (.int 0)))) (sSeq (sPar 0 1 (mUn dNeg (mVar false 0)) (mUn dNeg (mVar false 1))) (sSkip)) (sSkip)) (sSeq (sSet (tNm 2) (mCall dGcd [mVar false 0, mVar false 1])) (sSeq (sRet (mTup [mBin dFdiv (mVar false 0) (mVar false 2), mBin dFdiv (mVar false 1) (mVar false 2)])) (sSkip)))
def xi_fraction : FnI := ⟨runS x_fraction 3, false, 2⟩
theorem gcd_ii (a b : Int) : dGcd [.int a, .int b] = .ok (.int (Int.gcd a b : Nat)) := by
  refine Eq.trans ?_ (Eq.refl _)
  rfl
theorem frac_tail {n d : Int} (h : 0 < d) (h2 : d < 2 ^ 200) {ρ : Rho} {Q : Out → Prop} (l0 : ρ.length = 3) (g0 : gt ρ 0 = some (.sh (.int n))) (g1 : gt ρ 1 = some (.sh (.int d))) (q : Q (.rt (frD (Rat.divInt n d)))) :
    Wp (sSeq (sSet (tNm 2) (mCall dGcd [mVar false 0, mVar false 1])) (sSeq (sRet (mTup [mBin dFdiv (mVar false 0) (mVar false 2), mBin dFdiv (mVar false 1) (mVar false 2)])) (sSkip))) ρ Q := by
  have gp : 0 < Int.gcd n d := Int.gcd_pos_of_ne_zero_right _ (by omega)
  have gl : (Int.gcd n d : Int) ≤ d := by
    have := Int.gcd_le_right n (b := d) (by omega)
    omega
  obtain ⟨e1, e2⟩ := Fq.divInt_parts (n := n) h
  simp [l0, g0, g1, gcd_ii, dFdiv_pos (i := n) (j := (Int.gcd n d : Nat)) (by omega) (by omega), dFdiv_pos (i := d) (j := (Int.gcd n d : Nat)) (by omega) (by omega)]
  rw [← e1, ← e2]
  exact q
theorem xfraction_sem {n d : Int} (h : d ≠ 0) (h2 : d.natAbs < 2 ^ 200) : xi_fraction.sem [.int n, .int d] = .ok (frD (Rat.divInt n d)) := by
  refine sem_wp ?_
  simp only [x_fraction]
  rw [wp_seq]
  by_cases c : d < 0
  · refine wp_tt (by simp [rho0, c]) ?_
    rw [wp_seq]
    refine wp_par' (d := .int (-n)) (e := .int (-d)) (by simp [rho0]) (by simp [rho0]) ?_
    rw [sqK_nx, wp_skip, sqK_nx]
    refine frac_tail (n := -n) (d := -d) (by omega) (by omega) (by simp [rho0]) (by simp [rho0]) (by simp [rho0]) ?_
    rw [Fq.neg_neg]
    simp
  · refine wp_ff (by simp [rho0]; omega) ?_
    rw [wp_skip, sqK_nx]
    exact frac_tail (n := n) (d := d) (by omega) (by omega) (by simp [rho0]) (by simp [rho0]) (by simp [rho0]) (by simp)
/-! the law's fraction: Euclid by hand -/
def xt_lfr : Ts := tBl (mBin dNe (mVar false 3) (mC (.int 0)))
def xb_lfr : Sx := sSeq (sPar 2 3 (mVar true 3) (mBin dMod (mCall dInt [mVar false 2]) (mVar false 3))) (sSkip)
noncomputable def x_lfraction : Sx := sSeq (sPar 2 3 (mCall dAbs [mVar false 0]) (mCall dAbs [mVar false 1])) (sSeq (sWhile xt_lfr xb_lfr) (sSeq (sIf (tBl (mBin dLt (mVar false 1) (mC (.int 0)))) (sSeq (sRet (mTup [mBin dFdiv (mUn dNeg (mVar false 0)) (mVar false 2), mBin dFdiv (mUn dNeg (mVar false 1)) (mVar false 2)])) (sSkip)) (sSkip)) (sSeq (sRet (mTup [mBin dFdiv (mVar false 0) (mVar false 2), mBin dFdiv (mVar false 1) (mVar false 2)])) (sSkip))))
noncomputable def xi_lfraction : FnI := ⟨runS x_lfraction 4, false, 2⟩
theorem absI_nat (i : Int) : absI i = (i.natAbs : Int) := by
  unfold absI
  split <;> omega
theorem xlfraction_sem {n d : Int} (h : d ≠ 0) (h2 : d.natAbs < 2 ^ 200) : xi_lfraction.sem [.int n, .int d] = .ok (frD (Rat.divInt n d)) := by
  refine sem_wp ?_
  simp only [x_lfraction]
  rw [wp_seq]
  refine wp_par' (d := .int (n.natAbs : Nat)) (e := .int (d.natAbs : Nat)) (by simp [rho0, absI_nat]) (by simp [rho0, absI_nat]) ?_
  rw [sqK_nx, wp_seq]
  have gp : 0 < Int.gcd n d := Int.gcd_pos_of_ne_zero_right _ h
  have gl : Int.gcd n d ≤ d.natAbs := Nat.gcd_le_right _ (by omega)
  refine wp_while (fun m ρ => Fr [2, 3] [.sh (.int n), .sh (.int d), .un, .un] ρ ∧ ∃ a b : Nat, gt ρ 2 = some (.sh (.int a)) ∧ gt ρ 3 = some (.sh (.int b)) ∧ Nat.gcd a b = Int.gcd n d ∧ m = b) ?_ d.natAbs _ ⟨(Fr.refl.set (by decide)).set (by decide), n.natAbs, d.natAbs, by simp [rho0], by simp [rho0], rfl, rfl⟩
  rintro m ρ ⟨F, a, b, g2, g3, e, rfl⟩
  have l0 := F.len
  have g0 := F.get 0 (by decide)
  have g1 := F.get 1 (by decide)
  simp at l0 g0 g1
  by_cases z : m = 0
  · subst z
    refine ⟨false, by simp [xt_lfr, g3], ?_⟩
    rw [if_neg (by decide)]
    rw [Nat.gcd_zero_right] at e
    subst e
    rw [sqK_nx, wp_seq]
    by_cases c : d < 0
    · refine wp_tt (by simp [g1, c]) ?_
      have gpd := dFdiv_pos (i := -n) (j := (Int.gcd n d : Nat)) (by omega) (by omega)
      have gpd2 := dFdiv_pos (i := -d) (j := (Int.gcd n d : Nat)) (by omega) (by omega)
      obtain ⟨e1, e2⟩ := Fq.divInt_parts (n := -n) (d := -d) (by omega)
      rw [Int.gcd_neg, Int.neg_gcd, Fq.neg_neg] at e1 e2
      simp [g0, g1, g2, gpd, gpd2]
      rw [← e1, ← e2]
      rfl
    · refine wp_ff (by simp [g1]; omega) ?_
      have gpd := dFdiv_pos (i := n) (j := (Int.gcd n d : Nat)) (by omega) (by omega)
      have gpd2 := dFdiv_pos (i := d) (j := (Int.gcd n d : Nat)) (by omega) (by omega)
      obtain ⟨e1, e2⟩ := Fq.divInt_parts (n := n) (d := d) (by omega)
      simp [g0, g1, g2, gpd, gpd2]
      rw [← e1, ← e2]
      rfl
  · refine ⟨true, by simp [xt_lfr, g3]; omega, ?_⟩
    rw [if_pos rfl]
    simp only [xb_lfr]
    rw [wp_seq]
    refine wp_par' (d := .int m) (e := .int (a % m : Nat)) (by simp [g3]) (by
      simp [g2, g3, dMod_int (i := a) (j := m) (by omega)]
      rw [Int.fmod_eq_emod_of_nonneg _ (by omega)]) ?_
    rw [sqK_nx, wp_skip, loK_nx]
    refine ⟨a % m, Nat.mod_lt _ (by omega), (F.set (by decide)).set (by decide), m, a % m, by simp [l0], by simp [l0], ?_, rfl⟩
    rw [← e, Nat.gcd_comm a m, Nat.gcd_rec m a, Nat.gcd_comm]
/-! sums and orders -/
def x_less : Sx := sSeq (sRet (mBin dLt (mBin dMul (mBin dIx (mVar false 0) (mC (.int 0))) (mBin dIx (mVar false 1) (mC (.int 1)))) (mBin dMul (mBin dIx (mVar false 1) (mC (.int 0))) (mBin dIx (mVar false 0) (mC (.int 1)))))) (sSkip)
def xi_less : FnI := ⟨runS x_less 2, false, 2⟩
theorem xless_sem {p q : Rat} (hp : fits p) (hq : fits q) : xi_less.sem [frD p, frD q] = .ok (.bool (decide (p < q))) := by
  refine sem_wp ?_
  obtain ⟨_, _, a3, a4⟩ := fits_mul q hq p.num
  obtain ⟨_, _, b3, b4⟩ := fits_mul p hp q.num
  simp [x_less, rho0, dMul_int a3, dMul_int b3]
  rw [Rat.lt_iff]
def x_plus (i : FnI) : Sx := sSeq (sRet (mCall i.sem [mBin dAdd (mBin dMul (mBin dIx (mVar false 0) (mC (.int 0))) (mBin dIx (mVar false 1) (mC (.int 1)))) (mBin dMul (mBin dIx (mVar false 1) (mC (.int 0))) (mBin dIx (mVar false 0) (mC (.int 1)))), mBin dMul (mBin dIx (mVar false 0) (mC (.int 1))) (mBin dIx (mVar false 1) (mC (.int 1)))])) (sSkip)
def x_times (i : FnI) : Sx := sSeq (sRet (mCall i.sem [mBin dMul (mBin dIx (mVar false 0) (mC (.int 0))) (mBin dIx (mVar false 1) (mC (.int 0))), mBin dMul (mBin dIx (mVar false 0) (mC (.int 1))) (mBin dIx (mVar false 1) (mC (.int 1)))])) (sSkip)
/-- it makes fractions -/
def Makes (i : FnI) : Prop := ∀ n d : Int, d ≠ 0 → d.natAbs < 2 ^ 200 → i.sem [.int n, .int d] = .ok (frD (Rat.divInt n d))
theorem makes1 : Makes xi_fraction := fun _ _ h h2 => xfraction_sem h h2
theorem makes2 : Makes xi_lfraction := fun _ _ h h2 => xlfraction_sem h h2
theorem den_mul {p q : Rat} (hp : fits p) (hq : fits q) : ((p.den : Int) * q.den) ≠ 0 ∧ ((p.den : Int) * q.den).natAbs < 2 ^ 200 := by
  have h1 := p.den_pos
  have h2 := q.den_pos
  have h3 : p.den * q.den < 2 ^ 64 * 2 ^ 64 := Nat.mul_lt_mul_of_lt_of_lt hp.2 hq.2
  have h4 : 0 < p.den * q.den := Nat.mul_pos h1 h2
  rw [show ((p.den : Int) * q.den) = ((p.den * q.den : Nat) : Int) by simp]
  omega
theorem xplus_sem {i : FnI} (hi : Makes i) {p q : Rat} (hp : fits p) (hq : fits q) : (⟨runS (x_plus i) 2, false, 2⟩ : FnI).sem [frD p, frD q] = .ok (frD (p + q)) := by
  refine sem_wp ?_
  obtain ⟨_, _, a3, a4⟩ := fits_mul q hq p.num
  obtain ⟨_, _, b3, b4⟩ := fits_mul p hp q.num
  obtain ⟨_, _, c3, c4⟩ := fits_mul q hq p.den
  obtain ⟨d1, d2⟩ := den_mul hp hq
  simp [x_plus, rho0, dMul_int a3, dMul_int b3, dMul_int c3, hi _ _ d1 d2, Fq.add_parts]
theorem xtimes_sem {i : FnI} (hi : Makes i) {p q : Rat} (hp : fits p) (hq : fits q) : (⟨runS (x_times i) 2, false, 2⟩ : FnI).sem [frD p, frD q] = .ok (frD (p * q)) := by
  refine sem_wp ?_
  obtain ⟨a1, _, _, _⟩ := fits_mul q hq p.num
  obtain ⟨_, _, c3, c4⟩ := fits_mul q hq p.den
  obtain ⟨d1, d2⟩ := den_mul hp hq
  simp [x_times, rho0, dMul_int a1, dMul_int c3, hi _ _ d1 d2, Fq.mul_parts]
def xb_total (i : FnI) : Sx := sSeq (sSet (tNm 1) (mCall i.sem [mVar true 1, mVar true 2])) (sSkip)
def x_total (i : FnI) : Sx := sSeq (sSet (tNm 1) (mTup [mC (.int 0), mC (.int 1)])) (sSeq (sFor (iSeq (mVar true 0)) (tNm 2) (xb_total i)) (sSeq (sRetV false 1) (sSkip)))
def qs (l : List Rat) : Nat → Rat
  | 0 => 0
  | k + 1 => qs l k + l[k]?.getD 0
def qsum (l : List Rat) : Rat := qs l l.length
def Adds (i : FnI) : Prop := ∀ p q : Rat, fits p → fits q → i.sem [frD p, frD q] = .ok (frD (p + q))
theorem fits_zero : fits 0 := ⟨by decide, by decide⟩
theorem xtotal_sem {i : FnI} (hi : Adds i) {l : List Rat} (hl : ∀ q ∈ l, fits q) (hs : ∀ k, k ≤ l.length → fits (qs l k)) : (⟨runS (x_total i) 3, false, 1⟩ : FnI).sem [.list (l.map frD)] = .ok (frD (qsum l)) := by
  refine sem_wp ?_
  simp [x_total, rho0]
  refine wp_forE (enc := frD) (l := l) (fun k ρ => Fr [1, 2] [.sh (.list (l.map frD)), .sh (.tuple [.int 0, .int 1]), .un] ρ ∧ gt ρ 1 = some (.sh (frD (qs l k)))) (by simp [iSeq]) ⟨.refl, by simp [qs]; rfl⟩ ?_ ?_
  · rintro k hk ρ ⟨F, g1⟩
    have l0 := F.len
    simp at l0
    have e := hi (qs l k) l[k] (hs k (by omega)) (hl _ (List.getElem_mem hk))
    simp [xb_total, l0, g1, e]
    refine ⟨(F.set (by decide)).set (by decide), ?_⟩
    simp [qs, hk]
  · rintro ρ ⟨F, g1⟩
    simp [g1, qsum]
/-! numbers of choices -/
def xb_ways : Sx := sSeq (sSet (tNm 2) (mBin dFdiv (mBin dMul (mVar false 2) (mBin dSub (mVar false 0) (mVar false 3))) (mBin dAdd (mVar false 3) (mC (.int 1))))) (sSkip)
def x_ways : Sx := sSeq (sIf (tOr (tBl (mBin dLt (mVar false 1) (mC (.int 0)))) (tBl (mBin dGt (mVar false 1) (mVar false 0)))) (sSeq (sRet (mC (.int 0))) (sSkip)) (sSkip)) (sSeq (sSet (tNm 2) (mC (.int 1))) (sSeq (sFor (iCall iR1 [mVar false 1]) (tNm 3) xb_ways) (sSeq (sRetV false 2) (sSkip))))
def x_choices : Sx := sSeq (sSet (tNm 2) (mC (.int 1))) (sSeq (sIf (tOr (tBl (mBin dLt (mVar false 1) (mC (.int 0)))) (tBl (mBin dGt (mVar false 1) (mVar false 0)))) (sSeq (sRet (mC (.int 0))) (sSkip)) (sSkip)) (sSeq (sFor (iCall iR1 [mVar false 1]) (tNm 3) xb_ways) (sSeq (sRetV false 2) (sSkip))))
theorem ways_loop {n k : Nat} (hk : k ≤ n) (hn : n ≤ 60) {ρ : Rho} (l0 : ρ.length = 4) (g0 : gt ρ 0 = some (.sh (.int n))) (g1 : gt ρ 1 = some (.sh (.int k))) (g2 : gt ρ 2 = some (.sh (.int 1))) :
    Wp (sSeq (sFor (iCall iR1 [mVar false 1]) (tNm 3) xb_ways) (sSeq (sRetV false 2) (sSkip))) ρ fun o => outR o = .ok (.int (Fq.ch n k : Nat)) := by
  rw [wp_seq]
  refine wp_forR0 (n := k) (fun j ρ' => Fr [2, 3] ρ ρ' ∧ gt ρ' 2 = some (.sh (.int (Fq.ch n j : Nat)))) (it1 (by simp [g1]) rfl (by omega)) ⟨.refl, by simp [g2, Fq.ch_zero]⟩ ?_ ?_
  · rintro j hj ρ' ⟨F, f2⟩
    have l1 := F.len
    have f0 := F.get 0 (by decide)
    rw [l0] at l1
    rw [g0] at f0
    have st := Fq.ch_step n j (by omega)
    have m : dMul (.int (Fq.ch n j : Nat)) (.int ((n : Int) - j)) = .ok (.int ((Fq.ch n j : Nat) * ((n : Int) - j))) := dMul_int (mulOk_r (by omega) (by omega))
    have dv : ((Fq.ch n j : Nat) * ((n : Int) - j)).fdiv ((j : Int) + 1) = (Fq.ch n (j + 1) : Nat) := by
      have e : ((Fq.ch n j : Nat) * ((n : Int) - j)) = ((Fq.ch n (j + 1) : Nat) : Int) * ((j : Int) + 1) := by
        rw [show ((n : Int) - j) = ((n - j : Nat) : Int) by omega]
        have := congrArg (fun x : Nat => (x : Int)) st
        simp at this
        rw [this]
      rw [e, Int.fdiv_eq_ediv_of_nonneg _ (by omega), Int.mul_ediv_cancel _ (by omega)]
    simp [xb_ways, l1, f0, f2, m, dFdiv_pos (i := (Fq.ch n j : Nat) * ((n : Int) - j)) (j := (j : Int) + 1) (by omega) (by omega), dv]
    exact (F.set (by decide)).set (by decide)
  · rintro ρ' ⟨F, f2⟩
    simp [f2]
theorem xways_sem {n k : Nat} (hn : n ≤ 60) (hk : k ≤ 60) : (⟨runS x_ways 4, false, 2⟩ : FnI).sem [.int n, .int k] = .ok (.int (Fq.ch n k : Nat)) := by
  refine sem_wp ?_
  simp only [x_ways]
  rw [wp_seq]
  by_cases c : k ≤ n
  · refine wp_ff (by simp [rho0, show ¬ (k : Int) < 0 by omega, show ¬ n < k by omega]) ?_
    rw [wp_skip, sqK_nx, wp_seq]
    refine wp_set' (d := .int 1) (by simp) ?_
    rw [sqK_nx]
    exact ways_loop c hn (by simp [rho0]) (by simp [rho0]) (by simp [rho0]) (by simp [rho0])
  · refine wp_tt (by simp [rho0]; omega) ?_
    simp [Fq.ch_big n k (by omega)]
theorem xchoices_sem {n k : Nat} (hn : n ≤ 60) (hk : k ≤ 60) : (⟨runS x_choices 4, false, 2⟩ : FnI).sem [.int n, .int k] = .ok (.int (Fq.ch n k : Nat)) := by
  refine sem_wp ?_
  simp only [x_choices]
  rw [wp_seq]
  refine wp_set' (d := .int 1) (by simp) ?_
  rw [sqK_nx, wp_seq]
  by_cases c : k ≤ n
  · refine wp_ff (by simp [rho0, show ¬ (k : Int) < 0 by omega, show ¬ n < k by omega]) ?_
    rw [wp_skip, sqK_nx]
    exact ways_loop c hn (by simp [rho0]) (by simp [rho0]) (by simp [rho0]) (by simp [rho0])
  · refine wp_tt (by simp [rho0]; omega) ?_
    simp [Fq.ch_big n k (by omega)]
end Sm

/-! What repr may be asked of: greater ints, fewer of them. -/
namespace Sm
open PySem L2
mutual
/-- ints of at most twenty digits, in lists and tuples -/
def okE : PyData → Bool
  | .int i => decide (i.natAbs < 10 ^ 20)
  | .bool _ => true
  | .none => true
  | .list ds => okEs ds
  | .tuple ds => okEs ds
  | .str _ => false
  | .dict _ => false
def okEs : List PyData → Bool
  | [] => true
  | d :: ds => okE d && okEs ds
end
theorem okEs_all : ∀ {ds : List PyData}, (∀ d ∈ ds, okE d = true) → okEs ds = true
  | [], _ => rfl
  | d :: ds, h => by
    show (okE d && okEs ds) = true
    rw [h d List.mem_cons_self, okEs_all fun e he => h e (List.mem_cons_of_mem _ he)]
    rfl
theorem int_shortE {i : Int} (h : i.natAbs < 10 ^ 20) : (PyData.shown (.int i)).length ≤ 21 := by
  have q := int_text_length_le10 (a := i) (k := 20) (by decide) h
  rw [PyData.shown_int, ofString_length]
  exact q
theorem int_showE {i : Int} (h : i.natAbs < 10 ^ 20) : i.natAbs.log2 < 1920 := by
  by_cases z : i.natAbs = 0
  · rw [z]; decide
  · exact Nat.lt_of_lt_of_le ((Nat.log2_lt z).mpr (Nat.lt_trans h (by decide : 10 ^ 20 < 2 ^ 70))) (by decide)
mutual
theorem ok_factsE : ∀ (d : PyData), okE d = true → d.showable = true ∧ d.hasDict = false ∧ d.leavesShort 21 = true ∧ d.canLay0 = true
  | .int i, h => by
    have h' : i.natAbs < 10 ^ 20 := by
      unfold okE at h
      exact of_decide_eq_true h
    refine ⟨by unfold PyData.showable; exact decide_eq_true (int_showE h'), rfl, by unfold PyData.leavesShort; exact decide_eq_true (int_shortE h'), rfl⟩
  | .bool _, _ => ⟨rfl, rfl, rfl, rfl⟩
  | .none, _ => ⟨rfl, rfl, rfl, rfl⟩
  | .list ds, h => ok_factsAllE ds (by unfold okE at h; exact h)
  | .tuple ds, h => ok_factsAllE ds (by unfold okE at h; exact h)
  | .str _, h => by cases h
  | .dict _, h => by cases h
theorem ok_factsAllE : ∀ (ds : List PyData), okEs ds = true → PyData.showableAll ds = true ∧ PyData.hasDictAll ds = false ∧ PyData.leavesShortAll 21 ds = true ∧ PyData.canLayAll0 ds = true
  | [], _ => ⟨rfl, rfl, rfl, rfl⟩
  | d :: ds, h => by
    have h' : (okE d && okEs ds) = true := h
    rw [Bool.and_eq_true] at h'
    obtain ⟨a1, a2, a3, a4⟩ := ok_factsE d h'.1
    obtain ⟨b1, b2, b3, b4⟩ := ok_factsAllE ds h'.2
    refine ⟨?_, ?_, ?_, ?_⟩
    · show (d.showable && PyData.showableAll ds) = true
      rw [a1, b1]; rfl
    · show (d.hasDict || PyData.hasDictAll ds) = false
      rw [a2, b2]; rfl
    · show (d.leavesShort 21 && PyData.leavesShortAll 21 ds) = true
      rw [a3, b3]; rfl
    · show (d.canLay0 && PyData.canLayAll0 ds) = true
      rw [a4, b4]; rfl
end
theorem shows_E {d : PyData} (h : okE d = true) (h1 : d.depth ≤ 60) (h2 : d.bulk ≤ 2 ^ 18) : shows d = true := by
  obtain ⟨a1, a2, a3, _⟩ := ok_factsE d h
  unfold shows
  rw [a1, a2]
  simp only [Bool.not_false, Bool.and_true, Bool.true_and, Bool.and_eq_true, decide_eq_true_eq]
  refine ⟨h1, ?_⟩
  have q := PyData.shown_le_bulk 21 (by decide) d a3
  rw [sizeLine_eq]
  have e : (2 : Nat) ^ 18 = 262144 := by decide
  omega
theorem okE_fr {q : Rat} (h : fits q) : okE (frD q) = true := by
  obtain ⟨h1, h2⟩ := h
  refine okEs_all fun d hd => ?_
  simp at hd
  rcases hd with rfl | rfl
  · exact decide_eq_true (by have : (2 : Nat) ^ 64 < 10 ^ 20 := by decide
                             omega)
  · exact decide_eq_true (p := ((q.den : Int)).natAbs < 10 ^ 20) (by have : (2 : Nat) ^ 64 < 10 ^ 20 := by decide
                                                                     omega)
theorem depth_fr (q : Rat) : (frD q).depth ≤ 1 := Nat.le_refl _
theorem bulk_fr (q : Rat) : (frD q).bulk ≤ 2 := Nat.le_refl _
theorem show_fr {q : Rat} (h : fits q) : dRepr [frD q] = .ok (.str (frD q).shown) := repr_of (shows_E (okE_fr h) (Nat.le_trans (depth_fr q) (by decide)) (Nat.le_trans (bulk_fr q) (by decide)))
theorem show_frs {l : List Rat} (h : ∀ q ∈ l, fits q) (hl : l.length ≤ 10000) : dRepr [.list (l.map frD)] = .ok (.str (PyData.list (l.map frD)).shown) := by
  refine repr_of (shows_E (okEs_all fun d hd => ?_) ?_ ?_)
  · obtain ⟨q, hq, rfl⟩ := List.mem_map.mp hd
    exact okE_fr (h q hq)
  · have q : PyData.depthAll (l.map frD) ≤ 1 := depthAll_le fun d hd => by
      obtain ⟨q, _, rfl⟩ := List.mem_map.mp hd
      exact depth_fr q
    show PyData.depthAll (l.map frD) + 1 ≤ 60
    omega
  · have q : PyData.bulkAll (l.map frD) ≤ (2 + 1) * (l.map frD).length := bulkAll_le fun d hd => by
      obtain ⟨q, _, rfl⟩ := List.mem_map.mp hd
      exact bulk_fr q
    rw [List.length_map] at q
    show PyData.bulkAll (l.map frD) ≤ 2 ^ 18
    omega
theorem eq_tupI {a b : List Int} : dEq (intT a) (intT b) = .ok (.bool (decide (a = b))) := by
  have sh : ∀ a : List Int, SeqAt.shaped (intT a) = true := fun a => shaped_ints a
  show (if (SeqAt.shaped (intT a) && SeqAt.shaped (intT b)) = true then okB (PyData.eqv (intT a) (intT b)) else .no) = _
  rw [sh, sh]
  have e : PyData.eqv (intT a) (intT b) = decide (a = b) := by
    rw [← PySem.W.ked_eqvAll]
    show PyData.eqv (.tuple _) (.tuple _) = _
    rw [PyData.eqv]
  rw [e]
  rfl
theorem ne_tupI {a b : List Int} : dNe (intT a) (intT b) = .ok (.bool (!decide (a = b))) := by
  have sh : ∀ a : List Int, SeqAt.shaped (intT a) = true := fun a => shaped_ints a
  show (if (SeqAt.shaped (intT a) && SeqAt.shaped (intT b)) = true then okB (!PyData.eqv (intT a) (intT b)) else .no) = _
  rw [sh, sh]
  have e : PyData.eqv (intT a) (intT b) = decide (a = b) := by
    rw [← PySem.W.ked_eqvAll]
    show PyData.eqv (.tuple _) (.tuple _) = _
    rw [PyData.eqv]
  rw [e]
  rfl
end Sm

/-! Fractions of a denominator, pairs unpacked. -/
namespace Sm
open PySem L2
/-- M-ths, not many -/
def gr (M B : Nat) (q : Rat) : Prop := 0 < M ∧ ∃ n : Int, q = Rat.divInt n M ∧ n.natAbs ≤ B
theorem gr_fits {M B : Nat} {q : Rat} (h : gr M B q) (hM : M < 2 ^ 60) (hB : B < 2 ^ 60) : fits q := by
  obtain ⟨h0, n, rfl, hn⟩ := h
  have := Fq.divInt_size (n := n) (d := M) (B := 2 ^ 60) (by omega) (by omega) (by omega)
  exact ⟨by omega, by omega⟩
theorem divInt_eq (n : Int) (M : Nat) : Rat.divInt n M = (n : Rat) / (M : Rat) := by
  rw [Rat.divInt_eq_div]
  rfl
theorem natR {M : Nat} (h : 0 < M) : (M : Rat) ≠ 0 := by
  intro z
  have : M = 0 := Rat.natCast_eq_zero_iff.mp z
  omega
theorem gr_mono {M B C : Nat} {q : Rat} (h : gr M B q) (hB : B ≤ C) : gr M C q := by
  obtain ⟨h0, n, e, hn⟩ := h
  exact ⟨h0, n, e, by omega⟩
theorem gr_scale {M B : Nat} {q : Rat} (k : Nat) (hk : 0 < k) (h : gr M B q) : gr (M * k) (B * k) q := by
  obtain ⟨h0, n, rfl, hn⟩ := h
  refine ⟨Nat.mul_pos h0 hk, n * k, ?_, ?_⟩
  · rw [divInt_eq, divInt_eq, Rat.intCast_mul, Rat.natCast_mul]
    have a := natR h0
    have b := natR hk
    rw [Rat.intCast_natCast]
    grind
  · rw [Int.natAbs_mul]
    exact Nat.mul_le_mul hn (by omega)
theorem gr_add {M B C : Nat} {p q : Rat} (hp : gr M B p) (hq : gr M C q) : gr M (B + C) (p + q) := by
  obtain ⟨h0, n, rfl, hn⟩ := hp
  obtain ⟨_, m, rfl, hm⟩ := hq
  refine ⟨h0, n + m, ?_, by omega⟩
  rw [divInt_eq, divInt_eq, divInt_eq, Rat.intCast_add]
  have a := natR h0
  grind
theorem gr_sub {M B C : Nat} {p q : Rat} (hp : gr M B p) (hq : gr M C q) : gr M (B + C) (p - q) := by
  obtain ⟨h0, n, rfl, hn⟩ := hp
  obtain ⟨_, m, rfl, hm⟩ := hq
  refine ⟨h0, n - m, ?_, by omega⟩
  rw [divInt_eq, divInt_eq, divInt_eq, Rat.intCast_sub]
  have a := natR h0
  grind
theorem gr_mul {M N B C : Nat} {p q : Rat} (hp : gr M B p) (hq : gr N C q) : gr (M * N) (B * C) (p * q) := by
  obtain ⟨h0, n, rfl, hn⟩ := hp
  obtain ⟨h1, m, rfl, hm⟩ := hq
  refine ⟨Nat.mul_pos h0 h1, n * m, ?_, by rw [Int.natAbs_mul]; exact Nat.mul_le_mul hn hm⟩
  rw [divInt_eq, divInt_eq, divInt_eq, Rat.intCast_mul, Rat.natCast_mul]
  have a := natR h0
  have b := natR h1
  grind
theorem gr_nat (n : Nat) : gr 1 n (n : Rat) := ⟨by decide, n, by rw [divInt_eq, Rat.intCast_natCast]; grind, by omega⟩
theorem gr_one {n : Nat} (h : 0 < n) : gr n 1 (Rat.divInt 1 n) := ⟨h, 1, rfl, by decide⟩
theorem fr_nat (n : Nat) : frD (n : Rat) = .tuple [.int n, .int 1] := by
  unfold frD
  rw [Rat.num_natCast, Rat.den_natCast]
  rfl
theorem fr_one {n : Nat} (h : 0 < n) : frD (Rat.divInt 1 n) = .tuple [.int 1, .int n] := by
  obtain ⟨e1, e2⟩ := Fq.divInt_parts (n := 1) (d := n) (by omega)
  unfold frD
  rw [e1, e2]
  simp
theorem wp_pairL {i j : Nat} {m : M} {d e : PyData} {ρ : Rho} {Q : Out → Prop} (h : m ρ = .ok (.list [d, e])) (k : Q (.nx ((ρ.set i (.sh d)).set j (.sh e)))) : Wp (sSet (tTp [tNm i, tNm j]) m) ρ Q := by
  unfold Wp sSet
  rw [h]
  exact k
theorem wp_pairT {i j : Nat} {m : M} {d e : PyData} {ρ : Rho} {Q : Out → Prop} (h : m ρ = .ok (.tuple [d, e])) (k : Q (.nx ((ρ.set i (.sh d)).set j (.sh e)))) : Wp (sSet (tTp [tNm i, tNm j]) m) ρ Q := by
  unfold Wp sSet
  rw [h]
  exact k
end Sm
namespace Sm
open PySem L2
/-! pairs of ints, greatest numbers, ranges down -/
def prD (p : Int × Int) : PyData := .tuple [.int p.1, .int p.2]
def prsD (l : List (Int × Int)) : PyData := .list (l.map prD)
theorem comp_pr {it : Its} {t : Ts} {el : M} {own : List Nat} {ρ : Rho} {i j : Nat} (l : List (Int × Int)) (hit : it ρ = .ok (l.map prD)) (p : Int × Int → Bool) (f : Int × Int → PyData)
    (h : ∀ x ∈ l, t (((wipeR ρ own).set i (.sh (.int x.1))).set j (.sh (.int x.2))) = .ok (p x) ∧ (p x = true → el (((wipeR ρ own).set i (.sh (.int x.1))).set j (.sh (.int x.2))) = .ok (f x))) :
    mComp it (tTp [tNm i, tNm j]) t el own ρ = .ok (.list ((l.filter p).map f)) :=
  comp_enc l prD hit p f fun x hx => ⟨_, rfl, h x hx⟩
theorem fr_int (a : Int) : frD (a : Rat) = .tuple [.int a, .int 1] := by
  unfold frD
  rw [Rat.num_intCast, Rat.den_intCast]
  rfl
theorem gr_int (a : Int) : gr 1 a.natAbs (a : Rat) := ⟨by decide, a, by rw [divInt_eq]; grind, Nat.le_refl _⟩
theorem iter3 {ms : List M} {ρ : Rho} {n : Nat} (h : mAll ms ρ = .ok [.int ((n : Int) - 1), .int (-1), .int (-1)]) (hn : n ≤ 16777216) : iCall iR3 ms ρ = .ok ((List.range n).map fun k : Nat => .int ((n : Int) - 1 - (k : Nat))) := by
  have e : iR3 [.int ((n : Int) - 1), .int (-1), .int (-1)] = .ok ((List.range n).map fun k : Nat => .int ((n : Int) - 1 - (k : Nat))) := by
    show (if (-1 : Int) = -1 then rangeDn ((n : Int) - 1) (-1) else .no) = _
    rw [if_pos rfl]
    unfold rangeDn
    have l : ((n : Int) - 1 - -1).toNat = n := by omega
    rw [if_pos ⟨by omega, by omega, by omega, by omega, by rw [l, sizeLine_eq]; exact hn⟩, l]
    congr 1
    refine List.map_congr_left fun k _ => ?_
    congr 1
    omega
  show (mAll ms ρ >>= iR3) = _
  rw [h, Rs.bind_ok, e]
/-- a loop over a range down to 0 -/
theorem wp_forD {it : Its} {b : Sx} {ρ : Rho} {Q : Out → Prop} {v n : Nat} (I : Nat → Rho → Prop) (hit : it ρ = .ok ((List.range n).map fun k : Nat => .int ((n : Int) - 1 - (k : Nat)))) (h0 : I n ρ) (hs : ∀ k, k < n → ∀ ρ, I (k + 1) ρ → Wp b (ρ.set v (.sh (.int (k : Nat)))) (loK (I k) Q)) (he : ∀ ρ, I 0 ρ → Q (.nx ρ)) : Wp (sFor it (tNm v) b) ρ Q := by
  refine wp_for (fun k ρ => I (n - k) ρ) hit h0 (fun k x e ρ p => ?_) (by rw [List.length_map, List.length_range, Nat.sub_self]; exact he)
  rw [List.getElem?_map] at e
  have hk : k < n := by
    cases Nat.lt_or_ge k n with
    | inl h => exact h
    | inr h => rw [List.getElem?_eq_none (by simpa using h)] at e; cases e
  rw [List.getElem?_range hk] at e
  cases e
  refine ⟨_, rfl, ?_⟩
  have q := hs (n - 1 - k) (by omega) ρ (by rw [show n - 1 - k + 1 = n - k by omega]; exact p)
  rw [show (((n - 1 - k : Nat) : Int)) = (n : Int) - 1 - (k : Nat) by omega] at q
  rw [show n - (k + 1) = n - 1 - k by omega]
  exact q
/-- the greatest of some ints and 0 -/
def mx0 : List Int → Int
  | [] => 0
  | a :: l => max a (mx0 l)
theorem mx0_nn : ∀ l, 0 ≤ mx0 l
  | [] => Int.le_refl _
  | a :: l => by have := mx0_nn l; show 0 ≤ max a (mx0 l); omega
theorem maxI_mx : ∀ (l : List Int) (m : Int), 0 ≤ m → maxI m l = max m (mx0 l)
  | [], m, h => by show m = max m 0; omega
  | x :: l, m, h => by
    show maxI (if x > m then x else m) l = max m (max x (mx0 l))
    rw [maxI_mx l _ (by split <;> omega)]
    split <;> omega
theorem max_0 {l : List Int} : dMax [.list (.int 0 :: l.map .int)] = .ok (.int (mx0 l)) := by
  show (match intsOf (PyData.int 0 :: l.map .int) with | some (n :: ns) => okI (maxI n ns) | _ => Rs.no) = _
  rw [show PyData.int 0 :: l.map .int = (0 :: l).map .int from rfl, intsOf_int]
  show okI (maxI 0 l) = _
  rw [maxI_mx l 0 (Int.le_refl _)]
  have := mx0_nn l
  unfold okI
  congr 2
  omega
theorem max_nn {l : List Int} (h : ∀ a ∈ l, 0 ≤ a) (ne : l ≠ []) : dMax [intD l] = .ok (.int (mx0 l)) := by
  cases l with
  | nil => exact absurd rfl ne
  | cons a l =>
    show (match intsOf ((a :: l).map .int) with | some (n :: ns) => okI (maxI n ns) | _ => Rs.no) = _
    rw [intsOf_int]
    show okI (maxI a l) = _
    rw [maxI_mx l a (h a (by simp))]
    rfl
theorem app_0 {l : List Int} (h : l.length < 16777216) : dAdd (.list [.int 0]) (.list (l.map .int)) = .ok (.list (.int 0 :: l.map .int)) := by
  rw [dAdd_list (by simp; omega)]
  rfl
theorem zeros {n : Nat} (h : n ≤ 100000) : dMul (.list [.int 0]) (.int n) = .ok (intD (List.replicate n 0)) := by
  rw [dMul_list (by simp; omega) (by omega)]
  congr 1
  unfold intD
  congr 1
  rw [List.map_replicate]
  induction n with
  | zero => rfl
  | succ n ih => rw [List.replicate_succ, List.replicate_succ, List.flatten_cons, ih (by omega)]; rfl
theorem ix_i {L : List Int} {i : Int} (h0 : 0 ≤ i) (h : i < L.length) : dIx (intD L) (.int i) = .ok (.int (L[i.toNat]?.getD 0)) := by
  obtain ⟨k, rfl⟩ := Int.eq_ofNat_of_zero_le h0
  exact ix_intD (k := k) (by omega)
theorem wp_putI {L : List Int} {j x : Int} {i : Nat} {m k : M} {ρ : Rho} {Q : Out → Prop} (h : gt ρ i = some (.ow (intD L))) (hk : k ρ = .ok (.int j)) (hm : m ρ = .ok (.int x)) (j0 : 0 ≤ j) (j1 : j < L.length) (q : Q (.nx (ρ.set i (.ow (intD (L.set j.toNat x)))))) : Wp (sPut i k m) ρ Q := by
  have h' : ρ[i]? = some (.ow (intD L)) := h
  unfold Wp sPut
  rw [h', show owL (some (.ow (intD L))) = some (L.map .int) from rfl, hm, hk]
  have e : ixN (L.map PyData.int).length j = some j.toNat := by
    unfold ixN
    rw [if_pos j0, List.length_map, if_pos j1]
  show Q (match ixN (L.map PyData.int).length j with
    | some p => Out.nx (ρ.set i (.ow (.list ((L.map PyData.int).set p (.int x)))))
    | none => .no)
  rw [e]
  have e2 : (L.map PyData.int).set j.toNat (.int x) = (L.set j.toNat x).map .int := by rw [List.map_set]
  show Q (Out.nx (ρ.set i (.ow (.list ((L.map PyData.int).set j.toNat (.int x))))))
  rw [e2]
  exact q
theorem wp_fz1 {i : Nat} {s : Sx} {ρ : Rho} {d : PyData} {Q : Out → Prop} (h : gt ρ i = some (.ow d)) (k : Wp s (ρ.set i (.sh d)) Q) : Wp (sFz [i] s) ρ Q := by
  have e : sFz [i] s ρ = s (ρ.set i (.sh d)) := by
    show s (frz i ρ) = _
    rw [frz_ow h]
  unfold Wp at k ⊢
  rw [e]
  exact k
/-- a list of anything, a place stored -/
theorem wp_putE {α : Type} {enc : α → PyData} {L : List α} {j : Int} {x : α} {i : Nat} {m k : M} {ρ : Rho} {Q : Out → Prop} (h : gt ρ i = some (.ow (.list (L.map enc)))) (hk : k ρ = .ok (.int j)) (hm : m ρ = .ok (enc x)) (j0 : 0 ≤ j) (j1 : j.toNat < L.length) (q : Q (.nx (ρ.set i (.ow (.list ((L.set j.toNat x).map enc)))))) : Wp (sPut i k m) ρ Q := by
  have h' : ρ[i]? = some (.ow (.list (L.map enc))) := h
  obtain ⟨n, rfl⟩ := Int.eq_ofNat_of_zero_le j0
  unfold Wp sPut
  rw [h', show owL (some (.ow (.list (L.map enc)))) = some (L.map enc) from rfl, hm, hk]
  show Q (match ixN (L.map enc).length (n : Int) with
      | some p => .nx (ρ.set i (.ow (.list ((L.map enc).set p (enc x)))))
      | none => .no)
  have e : ixN (L.map enc).length (n : Int) = some n := by
    unfold ixN
    rw [if_pos (by omega), if_pos (by simpa using j1)]
    simp
  rw [e]
  rw [List.map_set] at q
  exact q
end Sm

/-! Order and equality of tuples of ints; loops over pairs. -/
namespace Sm
open PySem L2
theorem ord_tupI (a b : List Int) : ordOk (intT a) (intT b) = true := by
  unfold ordOk
  rw [show PySem.W.alike (intT a) (intT b) = true from alike_ints a b, show (intT a).hasDict = false from dict_ints a, show (intT b).hasDict = false from dict_ints b]
  have h1 : (intT a).depth ≤ 2 := by
    have := depth_ints a
    show PyData.depthAll (a.map .int) + 1 ≤ 2
    omega
  have e : decide (min (intT a).depth (intT b).depth ≤ 64) = true := decide_eq_true (by omega)
  rw [e]
  rfl
theorem lt_tupI (a b : List Int) : PySem.W.dataLt (intT a) (intT b) = decide (a < b) := by
  show PySem.W.dataLt (.tuple (a.map .int)) (.tuple (b.map .int)) = _
  rw [PySem.W.dataLt_tuple]
  exact PySem.W.dataLt_ints a b
theorem ge_tupI (a b : List Int) : dGe (intT a) (intT b) = .ok (.bool (!decide (a < b))) := by
  show (if ordOk (intT a) (intT b) = true then okB (!PySem.W.dataLt (intT a) (intT b)) else .no) = _
  rw [if_pos (ord_tupI a b), lt_tupI]
  rfl
theorem ltt_tupI (a b : List Int) : dLt (intT a) (intT b) = .ok (.bool (decide (a < b))) := by
  show (if ordOk (intT a) (intT b) = true then okB (PySem.W.dataLt (intT a) (intT b)) else .no) = _
  rw [if_pos (ord_tupI a b), lt_tupI]
  rfl
theorem ge_pr (p q : Int × Int) : dGe (prD p) (prD q) = .ok (.bool (!decide (p.1 < q.1 ∨ p.1 = q.1 ∧ p.2 < q.2))) := by
  have h := ge_tupI [p.1, p.2] [q.1, q.2]
  have e : ([p.1, p.2] < [q.1, q.2]) ↔ (p.1 < q.1 ∨ p.1 = q.1 ∧ p.2 < q.2) := by
    rw [List.cons_lt_cons_iff, List.cons_lt_cons_iff]
    simp
  rw [decide_eq_decide.mpr e] at h
  exact h
theorem eq_pr (p q : Int × Int) : dEq (prD p) (prD q) = .ok (.bool (decide (p = q))) := by
  have h := eq_tupI (a := [p.1, p.2]) (b := [q.1, q.2])
  have e : ([p.1, p.2] = [q.1, q.2]) ↔ p = q := by
    constructor
    · intro h; injection h with h1 h2; injection h2 with h2; exact Prod.ext h1 h2
    · rintro rfl; rfl
  rw [decide_eq_decide.mpr e] at h
  exact h
/-- for k, (a, b) in enumerate(pairs) -/
theorem wp_forNP {u v w : Nat} {ms : List M} {b : Sx} {ρ : Rho} {Q : Out → Prop} {l : List (Int × Int)} (I : Nat → Rho → Prop) (hit : mAll ms ρ = .ok [prsD l]) (h0 : I 0 ρ)
    (hs : ∀ k (h : k < l.length) ρ, I k ρ → Wp b (((ρ.set u (.sh (.int (k : Nat)))).set v (.sh (.int l[k].1))).set w (.sh (.int l[k].2))) (loK (I (k + 1)) Q)) (he : ∀ ρ, I l.length ρ → Q (.nx ρ)) : Wp (sFor (iCall iEnumD ms) (tTp [tNm u, tTp [tNm v, tNm w]]) b) ρ Q :=
  wp_for I (iterE hit) h0 (fun k x e ρ p => by
    rw [List.getElem?_map, List.getElem?_zipIdx, List.getElem?_map] at e
    have hk : k < l.length := by
      cases Nat.lt_or_ge k l.length with
      | inl h => exact h
      | inr h => rw [List.getElem?_eq_none h] at e; cases e
    rw [List.getElem?_eq_getElem hk] at e
    cases e
    rw [Nat.zero_add]
    exact ⟨_, rfl, hs k hk ρ p⟩) (by rw [List.length_map, List.length_zipIdx, List.length_map]; exact he)
theorem ix_pr {l : List (Int × Int)} {k : Nat} (h : k < l.length) : dIx (prsD l) (.int (k : Nat)) = .ok (prD l[k]) := ix_enc h
/-! chains of comparisons -/
def chK (z : PyData) (r : Rs PyData) : Rs PyData := match z with
  | .bool true => r
  | .bool false => .ok (.bool false)
  | _ => .no
@[simp] theorem chK_bb {b c : Bool} : chK (.bool b) (.ok (.bool c)) = .ok (.bool (b && c)) := by
  cases b <;> rfl
@[simp] theorem chK_f {r : Rs PyData} : chK (.bool false) r = .ok (.bool false) := by
  refine Eq.trans ?_ (Eq.refl _)
  rfl
@[simp] theorem chK_t {r : Rs PyData} : chK (.bool true) r = r := by
  refine Eq.trans ?_ (Eq.refl _)
  rfl
section
variable {f g h : PyData → PyData → Rs PyData} {a b c e : M} {ρ : Rho}
@[simp high] theorem chain_k : mChain f g a b c ρ = (a ρ >>= fun x => b ρ >>= fun y => f x y >>= fun z => chK z (c ρ >>= fun w => g y w)) := by
  refine Eq.trans mChain_ap ?_
  refine congrArg _ (funext fun x => congrArg _ (funext fun y => congrArg _ (funext fun z => ?_)))
  cases z with
  | bool b => cases b <;> rfl
  | _ => rfl
@[simp] theorem chain3_k : mChain3 f g h a b c e ρ = (a ρ >>= fun x => b ρ >>= fun y => f x y >>= fun z => chK z (c ρ >>= fun w => g y w >>= fun z2 => chK z2 (e ρ >>= fun u => h w u))) := by
  unfold mChain3
  cases a ρ with
  | exc => rfl
  | no => rfl
  | ok x =>
    cases b ρ with
    | exc => rfl
    | no => rfl
    | ok y =>
      simp only [Rs.bind_ok]
      cases f x y with
      | exc => rfl
      | no => rfl
      | ok z =>
        simp only [Rs.bind_ok]
        cases z with
        | bool k =>
          cases k with
          | false => rfl
          | true =>
            simp only [chK_t]
            cases c ρ with
            | exc => rfl
            | no => rfl
            | ok w =>
              simp only [Rs.bind_ok]
              cases g y w with
              | exc => rfl
              | no => rfl
              | ok z2 =>
                simp only [Rs.bind_ok]
                cases z2 with
                | bool k => cases k <;> rfl
                | _ => rfl
        | _ => rfl
end
end Sm

/-! Sorted sets and handlers that tell what they caught: marching. -/
namespace Sm
open PySem L2
theorem sortset {a : M} {ρ : Rho} {L : List Int} (h : a ρ = .ok (intD L)) (hl : L.length ≤ 4000) (h2 : (metI L).length < 64) : mSortSet a ρ = .ok (intD (ascI L)) := by
  unfold mSortSet
  rw [h, Rs.bind_ok]
  show (match intsOf (L.map .int) with
    | some ns => if ns.length ≤ 4000 ∧ (metI ns).length < 64 then Rs.ok (PyData.list ((ascI ns).map .int)) else .no
    | none => .no) = _
  rw [intsOf_int]
  exact if_pos ⟨hl, h2⟩
theorem eqv_bbi (a b : Bool) (i : Int) : PyData.eqv (.tuple [.bool a, .bool b, .int i]) (.tuple [.bool a, .bool b, .int i]) = true := by
  simp [PyData.eqv, PyData.eqvAll]
theorem shp_bbi (a b : Bool) (i : Int) : SeqAt.shaped (.tuple [.bool a, .bool b, .int i]) = true := by
  simp [SeqAt.shaped, PyData.canLay0, PyData.canLayAll0]
  simp [PyData.depth, PyData.depthAll]
theorem eq_bbi (a b : Bool) (i : Int) : dEq (.tuple [.bool a, .bool b, .int i]) (.tuple [.bool a, .bool b, .int i]) = .ok (.bool true) := by
  unfold dEq
  simp [eqv_bbi, shp_bbi, okB]
theorem ne_bbi (a b : Bool) (i : Int) : dNe (.tuple [.bool a, .bool b, .int i]) (.tuple [.bool a, .bool b, .int i]) = .ok (.bool false) := by
  unfold dNe
  simp [eqv_bbi, shp_bbi, okB]
def tyRK (xs : List Str) (y : Str) (ws : List (Option Str)) (Q : Out → Prop) : Out → Prop
  | .xc ρ c d => if c ∈ xs ∧ boxed d = false then (if takesX c y = true then Q (.rt (rowX c d ws)) else Q (.xc ρ c d)) else Q .no
  | o => Q o
section
variable {xs : List Str} {y : Str} {ws : List (Option Str)} {Q : Out → Prop} {ρ : Rho} {d : PyData} {s : Sx} {c : Str}
@[simp] theorem tyRK_nx : tyRK xs y ws Q (.nx ρ) = Q (.nx ρ) := by
  refine Eq.trans ?_ (Eq.refl _)
  rfl
@[simp] theorem tyRK_rt : tyRK xs y ws Q (.rt d) = Q (.rt d) := by
  refine Eq.trans ?_ (Eq.refl _)
  rfl
theorem tyRK_xc (h1 : c ∈ xs) (h2 : boxed d = false) (h3 : takesX c y = true) : tyRK xs y ws Q (.xc ρ c d) = Q (.rt (rowX c d ws)) := by
  unfold tyRK
  simp [h1, h2, h3]
@[simp] theorem wp_tryR : Wp (sTryR s xs y ws) ρ Q = Wp s ρ (tyRK xs y ws Q) := by
  unfold Wp sTryR
  cases s ρ with
  | xc ρ' c d =>
    unfold tyRK
    simp only
    split
    · split <;> rfl
    · rfl
  | _ => rfl
end
theorem wp_let1 {i j : Nat} {m : M} {ρ : Rho} {d e : PyData} {Q : Out → Prop} (h : gt ρ i = some (.ow e)) (hm : m (ρ.set i (.sh e)) = .ok d) (f : flatS d = true) (q : Q (.nx (ρ.set j (.sh d)))) : Wp (sLet [i] j m) ρ Q := by
  have e1 : frzAll [i] ρ = ρ.set i (.sh e) := frz_ow h
  unfold Wp sLet
  rw [e1, hm]
  show Q (if flatS d = true then Out.nx (ρ.set j (.sh d)) else .no)
  rw [if_pos f]
  exact q
theorem sl_lastI {L : List Int} : dSl (intD L) (some (-1)) none = .ok (intD (L.drop (L.length - 1))) := by
  show Rs.ok (PyData.list (cutD (L.map .int) (some (-1)) none)) = _
  unfold cutD
  have e : HT.sIx (L.map PyData.int).length 0 (some (-1)) = L.length - 1 := by
    unfold HT.sIx
    simp
    omega
  have e2 : HT.sIx (L.map PyData.int).length (L.map PyData.int).length none = L.length := by simp [HT.sIx_none]
  rw [e, e2]
  unfold intD
  rw [List.map_drop, List.take_of_length_le (by simp)]
theorem pickD3 {m : Nat} (a b c : PyData) (h : (m : Int) < 3) : ∃ x, dIx (.list [a, b, c]) (.int m) = .ok x ∧ (x = a ∨ x = b ∨ x = c) := by
  have : m = 0 ∨ m = 1 ∨ m = 2 := by omega
  rcases this with rfl | rfl | rfl
  · exact ⟨a, rfl, .inl rfl⟩
  · exact ⟨b, rfl, .inr (.inl rfl)⟩
  · exact ⟨c, rfl, .inr (.inr rfl)⟩
theorem int_b (b : Bool) : dInt [.bool b] = .ok (.int ((if b = true then 1 else 0 : Nat) : Int)) := by cases b <;> rfl
end Sm

/-! Dicts with ints as keys. -/
namespace Sm
open PySem L2
def dkI {α : Type} (enc : α → PyData) (l : List (Int × α)) : List (PyData × PyData) := l.map fun p => (.int p.1, enc p.2)
section
variable {α : Type} {enc : α → PyData} {l : List (Int × α)} {i : Int} {x : α}
theorem keyC_int (i : Int) : keyC (.int i) = some (.inl (.inl i)) := rfl
theorem kind_dkI : kindB (dkI enc l) (.int i) = true := by cases l <;> rfl
theorem look_dkI : ∀ l : List (Int × α), lookD (dkI enc l) (.int i) = (l.lookup i).map enc
  | [] => rfl
  | p :: l => by
    show lookD ((.int p.1, enc p.2) :: dkI enc l) (.int i) = _
    unfold lookD
    rw [keyC_int, keyC_int, List.lookup_cons]
    by_cases e : p.1 = i
    · subst e
      simp
    · have e' : (i == p.1) = false := by simpa using Ne.symm e
      rw [if_neg (by intro z; cases z; exact e rfl), e', look_dkI l]
theorem repl_dkI : ∀ l : List (Int × α), replD (.int i) (enc x) (dkI enc l) = dkI enc (l.map fun p => if p.1 = i then (p.1, x) else p)
  | [] => rfl
  | p :: l => by
    show replD (.int i) (enc x) ((.int p.1, enc p.2) :: dkI enc l) = _
    unfold replD
    rw [keyC_int, keyC_int, repl_dkI l]
    by_cases e : p.1 = i
    · subst e
      simp [dkI]
    · rw [if_neg (by intro z; cases z; exact e rfl)]
      simp [dkI, e]
/-- a store -/
def putL (l : List (Int × α)) (i : Int) (x : α) : List (Int × α) := if (l.lookup i).isSome then l.map (fun p => if p.1 = i then (p.1, x) else p) else l ++ [(i, x)]
theorem put_dkI : putD (dkI enc l) (.int i) (enc x) = dkI enc (putL l i x) := by
  unfold putD putL
  rw [look_dkI, Option.isSome_map]
  split
  · exact repl_dkI l
  · simp [dkI]
theorem putL_new (h : l.lookup i = none) : putL l i x = l ++ [(i, x)] := by
  unfold putL
  rw [h]
  rfl
theorem lookup_none : ∀ {l : List (Int × α)}, l.lookup i = none ↔ i ∉ l.map (·.1)
  | [] => by simp
  | p :: l => by
    rw [List.lookup_cons, List.map_cons, List.mem_cons]
    by_cases e : i = p.1
    · subst e; simp
    · have e' : (i == p.1) = false := by simpa using e
      rw [e', lookup_none]
      simp [e]
theorem lookup_put : ∀ (l : List (Int × α)) (j : Int), (putL l i x).lookup j = if j = i then some x else l.lookup j := by
  intro l j
  unfold putL
  by_cases h : (l.lookup i).isSome = true
  · rw [if_pos h]
    have go : ∀ l : List (Int × α), (l.lookup i).isSome = true → (l.map (fun p => if p.1 = i then (p.1, x) else p)).lookup j = if j = i then some x else l.lookup j := by
      intro l
      induction l with
      | nil => intro h; cases h
      | cons p l ih =>
        intro h
        rw [List.map_cons, List.lookup_cons]
        rw [List.lookup_cons] at h
        by_cases e : p.1 = i
        · rw [if_pos e]
          by_cases ej : j = i
          · rw [if_pos ej, ej, e]; simp
          · rw [if_neg ej, List.lookup_cons]
            have e1 : (j == p.1) = false := by rw [e]; simpa using ej
            rw [e1]
            simp only
            have go2 : ∀ l : List (Int × α), (l.map (fun p => if p.1 = i then (p.1, x) else p)).lookup j = l.lookup j := by
              intro l
              induction l with
              | nil => rfl
              | cons q l ih2 =>
                rw [List.map_cons, List.lookup_cons, List.lookup_cons, ih2]
                by_cases eq : q.1 = i
                · rw [if_pos eq]
                  have : (j == q.1) = false := by rw [eq]; simpa using ej
                  simp [this]
                · rw [if_neg eq]
            exact go2 l
        · rw [if_neg e]
          have e2 : (i == p.1) = false := by simpa using Ne.symm e
          rw [e2] at h
          rw [ih h, List.lookup_cons]
          by_cases ej : j = i
          · subst ej
            rw [e2]
            try simp
          · rw [if_neg ej, if_neg ej]
    exact go l h
  · rw [if_neg h]
    have hn : l.lookup i = none := Option.not_isSome_iff_eq_none.mp h
    have go : ∀ l : List (Int × α), l.lookup i = none → (l ++ [(i, x)]).lookup j = if j = i then some x else l.lookup j := by
      intro l
      induction l with
      | nil =>
        intro _
        rw [List.nil_append, List.lookup_cons]
        by_cases ej : j = i
        · subst ej; simp
        · have : (j == i) = false := by simpa using ej
          simp [this, ej]
      | cons p l ih =>
        intro h
        rw [List.lookup_cons] at h
        rw [List.cons_append, List.lookup_cons, List.lookup_cons]
        by_cases e : i == p.1
        · rw [e] at h; cases h
        · have e' : (i == p.1) = false := by simpa using e
          rw [e'] at h
          rw [ih h]
          by_cases ej : j = i
          · subst ej; rw [e']; try simp
          · rw [if_neg ej, if_neg ej]
    exact go l hn
theorem in_dkI (neg : Bool) : dIn neg (.int i) (.dict (dkI enc l)) = .ok (.bool (if neg then !(l.lookup i).isSome else (l.lookup i).isSome)) := by
  have e : dIn neg (.int i) (.dict (dkI enc l)) = if kindB (dkI enc l) (.int i) then okB (if neg then !(lookD (dkI enc l) (.int i)).isSome else (lookD (dkI enc l) (.int i)).isSome) else .no := rfl
  rw [e, kind_dkI, look_dkI, Option.isSome_map]
  rfl
theorem ix_dkI (h : l.lookup i = some x) : dIx (.dict (dkI enc l)) (.int i) = .ok (enc x) := by
  have e : dIx (.dict (dkI enc l)) (.int i) = if kindB (dkI enc l) (.int i) then ofOpt (lookD (dkI enc l) (.int i)) else .no := rfl
  rw [e, kind_dkI, look_dkI, h]
  rfl
theorem get_dkI {z : PyData} : dGet2 (.dict (dkI enc l)) (.int i) z = .ok (((l.lookup i).map enc).getD z) := by
  have e : dGet2 (.dict (dkI enc l)) (.int i) z = if kindB (dkI enc l) (.int i) then .ok ((lookD (dkI enc l) (.int i)).getD z) else .no := rfl
  rw [e, kind_dkI, look_dkI]
  rfl
theorem len_dkI : dLen [.dict (dkI enc l)] = .ok (.int (l.length : Nat)) := by
  have e : dLen [.dict (dkI enc l)] = if kindB (dkI enc l) (.int 0) then okI (dkI enc l).length else .no := rfl
  rw [e, kind_dkI]
  simp [dkI, okI]
end
section
variable {ρ : Rho} {Q : Out → Prop} {m k a b c : M} {i : Nat}
@[simp] theorem mGet2_ap : mGet2 a b c ρ = (a ρ >>= fun x => match x with
    | .dict kvs => (b ρ >>= fun y => c ρ >>= fun z => dGet2 (.dict kvs) y z)
    | _ => .no) := by
  refine Eq.trans ?_ (Eq.refl _)
  rfl
theorem mDict1 {q v : PyData} (ha : a ρ = .ok q) (hb : b ρ = .ok v) (hk : (keyC q).isSome = true) : mDict [(a, b)] ρ = .ok (.dict [(q, v)]) := by
  show (mPairs [(a, b)] ρ >>= fun l => storeD [] l) = _
  have e : mPairs [(a, b)] ρ = .ok [(q, v)] := by
    show (a ρ >>= fun x => b ρ >>= fun y => mPairs [] ρ >>= fun l => Rs.ok ((x, y) :: l)) = _
    rw [ha, Rs.bind_ok, hb, Rs.bind_ok]
    rfl
  rw [e, Rs.bind_ok]
  have k : kindB [] q = true := by simpa [kindB] using hk
  show (if kindB [] q = true ∧ ([] : List (PyData × PyData)).length < 1000 then storeD (putD [] q v) [] else .no) = _
  rw [if_pos ⟨k, by simp⟩]
  rfl
theorem ownC_dict {kvs : List (PyData × PyData)} : ownC (.dict kvs) = .ow (.dict kvs) := rfl
theorem wp_putD' {kvs : List (PyData × PyData)} {q d : PyData} (h : gt ρ i = some (.ow (.dict kvs))) (hm : m ρ = .ok d) (hk : k ρ = .ok q) (kd : kindB kvs q = true) (hl : kvs.length < 100000) (z : Q (.nx (ρ.set i (.ow (.dict (putD kvs q d)))))) : Wp (sPutD i k m) ρ Q := by
  have h' : ρ[i]? = some (.ow (.dict kvs)) := h
  unfold Wp sPutD
  rw [h']
  show Q (lf (m ρ) ρ fun d => lf (k ρ) ρ fun q => if kindB kvs q = true ∧ kvs.length < 100000 then .nx (ρ.set i (.ow (.dict (putD kvs q d)))) else .no)
  rw [hm, hk]
  show Q (if kindB kvs q = true ∧ kvs.length < 100000 then .nx (ρ.set i (.ow (.dict (putD kvs q d)))) else .no)
  rw [if_pos ⟨kd, hl⟩]
  exact z
theorem wp_putDI {α : Type} {enc : α → PyData} {l : List (Int × α)} {j : Int} {x : α} (h : gt ρ i = some (.ow (.dict (dkI enc l)))) (hm : m ρ = .ok (enc x)) (hk : k ρ = .ok (.int j)) (hl : l.length < 100000) (z : Q (.nx (ρ.set i (.ow (.dict (dkI enc (putL l j x))))))) : Wp (sPutD i k m) ρ Q := by
  refine wp_putD' h hm hk kind_dkI (by simpa [dkI] using hl) ?_
  rw [put_dkI]
  exact z
/-- the first is popped -/
theorem wp_pop0 {ds : List PyData} {d : PyData} {t : Nat} (h : gt ρ i = some (.ow (.list (d :: ds)))) (hl : ds.length < 1000000) (z : Q (.nx ((ρ.set i (.ow (.list ds))).set t (.sh d)))) : Wp (sPop (some (tNm t)) i (some (mC (.int 0)))) ρ Q := by
  have h' : ρ[i]? = some (.ow (.list (d :: ds))) := h
  unfold Wp sPop
  rw [h']
  have e : popAt (d :: ds) (some 0) = some (d, ds) := by
    have ix : ixN (d :: ds).length (0 : Int) = some 0 := by
      unfold ixN
      simp
    show ((ixN (d :: ds).length (0 : Int)).bind fun p => (d :: ds)[p]?.map fun x => (x, (d :: ds).eraseIdx p)) = _
    rw [ix]
    rfl
  show Q (lf (optM (some (mC (.int 0))) ρ) ρ fun o => popTo (some (tNm t)) i ρ (popAt (d :: ds) o))
  rw [optM_some, mC_ap]
  show Q (popTo (some (tNm t)) i ρ (popAt (d :: ds) (some 0)))
  rw [e]
  exact z
end
end Sm

/-! Graphs in plain Lean: what is reached, and rings. -/
namespace Gp
open L2 Sm
abbrev Ps := List (Int × Int)
inductive Rch (P : Ps) : Int → Int → Prop
  | refl (x : Int) : Rch P x x
  | tail {x y z : Int} : Rch P x y → (y, z) ∈ P → Rch P x z
theorem Rch.trans {P : Ps} {x y z : Int} (h : Rch P x y) (k : Rch P y z) : Rch P x z := by
  induction k with
  | refl => exact h
  | tail _ e ih => exact ih.tail e
theorem Rch.mono {P T : Ps} (s : ∀ p ∈ P, p ∈ T) {x y : Int} (h : Rch P x y) : Rch T x y := by
  induction h with
  | refl => exact .refl _
  | tail _ e ih => exact ih.tail (s _ e)
theorem Rch.one {P : Ps} {x y : Int} (h : (x, y) ∈ P) : Rch P x y := (Rch.refl x).tail h
theorem Rch.head {P : Ps} {x y z : Int} (h : (x, y) ∈ P) (k : Rch P y z) : Rch P x z := (Rch.one h).trans k
theorem rch_iff {P : Ps} {s : Int} {R : List Int} (hs : s ∈ R) (hc : ∀ p ∈ P, p.1 ∈ R → p.2 ∈ R) (hr : ∀ x ∈ R, Rch P s x) (x : Int) : x ∈ R ↔ Rch P s x := by
  refine ⟨hr x, fun h => ?_⟩
  induction h with
  | refl => exact hs
  | tail _ e ih => exact hc _ e ih
theorem nd_le : ∀ {a b : List Int}, a.Nodup → (∀ x ∈ a, x ∈ b) → a.length ≤ b.length
  | [], _, _, _ => Nat.zero_le _
  | x :: a, b, h, s => by
    obtain ⟨h1, h2⟩ := List.nodup_cons.mp h
    have m := s x List.mem_cons_self
    have q := nd_le (b := b.erase x) h2 fun y hy => (List.mem_erase_of_ne (fun e => h1 (by rw [← e]; exact hy))).mpr (s y (List.mem_cons_of_mem _ hy))
    have l := List.length_erase_of_mem m
    have p := List.length_pos_of_mem m
    rw [List.length_cons]
    omega
theorem rch_in {P : Ps} {s x : Int} (h : Rch P s x) : x ∈ s :: P.map (·.2) := by
  cases h with
  | refl => exact List.mem_cons_self
  | tail _ e => exact List.mem_cons_of_mem _ (List.mem_map_of_mem (f := (·.2)) e)
/-- found so far, those ahead of at looked at -/
structure Inv (P : Ps) (s : Int) (acc : List Int) (k : Nat) : Prop where
  start : s ∈ acc
  nd : acc.Nodup
  sound : ∀ x ∈ acc, Rch P s x
  done : ∀ i, i < k → ∀ p ∈ P, acc[i]? = some p.1 → p.2 ∈ acc
  at' : k ≤ acc.length
theorem Inv.len {P : Ps} {s : Int} {acc : List Int} {k : Nat} (h : Inv P s acc k) : acc.length ≤ P.length + 1 := by
  have := nd_le h.nd fun x hx => rch_in (h.sound x hx)
  simpa using this
def news (P : Ps) (acc : List Int) (a : Int) : List Int := (P.filter fun p => decide (p.1 = a) && decide (p.2 ∉ acc)).map (·.2)
theorem news_in {P : Ps} {acc : List Int} {a y : Int} : y ∈ news P acc a ↔ (a, y) ∈ P ∧ y ∉ acc := by
  unfold news
  simp only [List.mem_map, List.mem_filter, Bool.and_eq_true, decide_eq_true_eq]
  constructor
  · rintro ⟨⟨u, v⟩, ⟨h1, h2, h3⟩, rfl⟩
    simp only at h2 h3
    exact ⟨h2 ▸ h1, h3⟩
  · rintro ⟨h1, h2⟩
    exact ⟨(a, y), ⟨h1, rfl, h2⟩, rfl⟩
theorem asc_nil : ascI [] = [] := List.eq_nil_iff_forall_not_mem.mpr fun y hy => by
  rw [ascI_has] at hy
  cases hy
theorem app_nd {acc : List Int} {L : List Int} (h : acc.Nodup) (k : ∀ y ∈ L, y ∉ acc) : (acc ++ ascI L).Nodup := by
  refine List.nodup_append.mpr ⟨h, (ascI_lt L).imp (fun h e => by omega), fun x hx y hy e => ?_⟩
  rw [ascI_has] at hy
  exact k y hy (e ▸ hx)
theorem Inv.step {P : Ps} {s : Int} {acc : List Int} {k : Nat} {a : Int} (h : Inv P s acc k) (ha : acc[k]? = some a) : Inv P s (acc ++ ascI (news P acc a)) (k + 1) := by
  have hk : k < acc.length := (List.getElem?_eq_some_iff.mp ha).1
  have ma : a ∈ acc := List.mem_of_getElem? ha
  refine ⟨List.mem_append_left _ h.start, app_nd h.nd fun y hy => (news_in.mp hy).2, fun x hx => ?_, fun i hi p hp e => ?_, by rw [List.length_append]; omega⟩
  · rcases List.mem_append.mp hx with m | m
    · exact h.sound x m
    · rw [ascI_has, news_in] at m
      exact (h.sound a ma).tail m.1
  · rw [List.getElem?_append_left (by omega)] at e
    by_cases c : i = k
    · subst c
      rw [ha] at e
      cases e
      by_cases m : p.2 ∈ acc
      · exact List.mem_append_left _ m
      · exact List.mem_append_right _ ((ascI_has _ _).mpr (news_in.mpr ⟨hp, m⟩))
    · exact List.mem_append_left _ (h.done i (by omega) p hp e)
theorem Inv.first (P : Ps) (s : Int) : Inv P s [s] 0 := ⟨by simp, by simp, fun x hx => by rw [List.mem_singleton.mp hx]; exact .refl _, fun i hi => by omega, Nat.zero_le _⟩
theorem Inv.all {P : Ps} {s : Int} {acc : List Int} (h : Inv P s acc acc.length) (x : Int) : x ∈ acc ↔ Rch P s x := by
  refine rch_iff h.start (fun p hp m => ?_) h.sound x
  obtain ⟨i, hi, e⟩ := List.mem_iff_getElem.mp m
  exact h.done i hi p hp (by rw [List.getElem?_eq_getElem hi, e])
/-- the law's: round by round -/
structure InvL (P : Ps) (s : Int) (acc : List Int) (k : Nat) : Prop where
  start : s ∈ acc
  nd : acc.Nodup
  sound : ∀ x ∈ acc, Rch P s x
  more : (∀ p ∈ P, p.1 ∈ acc → p.2 ∈ acc) ∨ k + 1 ≤ acc.length
def newsL (P : Ps) (acc : List Int) : List Int := (P.filter fun p => decide (p.1 ∈ acc) && decide (p.2 ∉ acc)).map (·.2)
theorem newsL_in {P : Ps} {acc : List Int} {y : Int} : y ∈ newsL P acc ↔ (∃ a, a ∈ acc ∧ (a, y) ∈ P) ∧ y ∉ acc := by
  unfold newsL
  simp only [List.mem_map, List.mem_filter, Bool.and_eq_true, decide_eq_true_eq]
  constructor
  · rintro ⟨⟨u, v⟩, ⟨h1, h2, h3⟩, rfl⟩
    exact ⟨⟨u, h2, h1⟩, h3⟩
  · rintro ⟨⟨a, ha, h1⟩, h2⟩
    exact ⟨(a, y), ⟨h1, ha, h2⟩, rfl⟩
theorem InvL.len {P : Ps} {s : Int} {acc : List Int} {k : Nat} (h : InvL P s acc k) : acc.length ≤ P.length + 1 := by
  have := nd_le h.nd fun x hx => rch_in (h.sound x hx)
  simpa using this
theorem InvL.step {P : Ps} {s : Int} {acc : List Int} {k : Nat} (h : InvL P s acc k) : InvL P s (acc ++ ascI (newsL P acc)) (k + 1) := by
  have nn : ∀ y ∈ newsL P acc, y ∉ acc := fun y hy => (newsL_in.mp hy).2
  refine ⟨List.mem_append_left _ h.start, app_nd h.nd nn, fun x hx => ?_, ?_⟩
  · rcases List.mem_append.mp hx with m | m
    · exact h.sound x m
    · rw [ascI_has, newsL_in] at m
      obtain ⟨⟨a, ha, e⟩, _⟩ := m
      exact (h.sound a ha).tail e
  · by_cases z : ∀ p ∈ P, p.1 ∈ acc → p.2 ∈ acc
    · left
      have e : newsL P acc = [] := List.eq_nil_iff_forall_not_mem.mpr fun y hy => by
        obtain ⟨⟨a, ha, e⟩, n⟩ := newsL_in.mp hy
        exact n (z _ e ha)
      rw [e, asc_nil, List.append_nil]
      exact z
    · right
      have q := h.more.resolve_left z
      have : ∃ p ∈ P, p.1 ∈ acc ∧ p.2 ∉ acc := Classical.byContradiction fun w => z fun p hp h1 => Classical.byContradiction fun h2 => w ⟨p, hp, h1, h2⟩
      obtain ⟨⟨u, v⟩, hp, h1, h2⟩ := this
      have m : v ∈ ascI (newsL P acc) := (ascI_has _ _).mpr (newsL_in.mpr ⟨⟨u, h1, hp⟩, h2⟩)
      have := List.length_pos_of_mem m
      rw [List.length_append]
      omega
theorem InvL.first (P : Ps) (s : Int) : InvL P s [s] 0 := ⟨by simp, by simp, fun x hx => by rw [List.mem_singleton.mp hx]; exact .refl _, .inr (by simp)⟩
theorem InvL.all {P : Ps} {s : Int} {acc : List Int} (h : InvL P s acc (P.length + 1)) (x : Int) : x ∈ acc ↔ Rch P s x := by
  refine rch_iff h.start ?_ h.sound x
  rcases h.more with z | z
  · exact z
  · have := h.len
    omega
/-- no ring -/
def Acyc (P : Ps) : Prop := ∀ p ∈ P, ¬ Rch P p.2 p.1
theorem rch_add {K : Ps} {a b x y : Int} (h : Rch (K ++ [(a, b)]) x y) : Rch K x y ∨ (Rch K x a ∧ Rch K b y) := by
  induction h with
  | refl => exact .inl (.refl _)
  | tail _ e ih =>
    rcases List.mem_append.mp e with m | m
    · rcases ih with i | i
      · exact .inl (i.tail m)
      · exact .inr ⟨i.1, i.2.tail m⟩
    · obtain ⟨rfl, rfl⟩ := Prod.mk.inj (List.mem_singleton.mp m)
      rcases ih with i | i
      · exact .inr ⟨i, .refl _⟩
      · exact .inr ⟨i.1, .refl _⟩
theorem acyc_add {K : Ps} {a b : Int} (h : Acyc K) (n : ¬ Rch K b a) : Acyc (K ++ [(a, b)]) := by
  rintro ⟨c, d⟩ hp r
  rcases List.mem_append.mp hp with m | m
  · rcases rch_add r with i | i
    · exact h _ m i
    · exact n ((i.2.tail m).trans i.1)
  · obtain ⟨rfl, rfl⟩ := Prod.mk.inj (List.mem_singleton.mp m)
    rcases rch_add r with i | i
    · exact n i
    · exact n i.1
theorem acyc_nil : Acyc [] := fun p h => by cases h
end Gp

/-! Graphs: what reached computes (shared by laws). -/
namespace Sm
open PySem L2 Gp
def gt_reached : Ts := tBl (mBin dLt (mVar false 3) (mCall dLen [mVar false 2]))
def gb_reached : Sx := sSeq (sExt 2 (mSortSet (mComp (iSeq (mVar false 0)) (tTp [tNm 4, tNm 5]) (tAnd (tBl (mBin dEq (mVar false 4) (mBin dIx (mVar false 2) (mVar false 3)))) (tBl (mBin (dIn true) (mVar false 5) (mVar false 2)))) (mVar true 5) [4, 5]))) (sSeq (sSet (tNm 3) (mBin dAdd (mVar false 3) (mC (.int 1)))) (sSkip))
noncomputable def gs_reached : Sx := sSeq (sOwn 2 (mLst [mVar true 1])) (sSeq (sSet (tNm 3) (mC (.int 0))) (sSeq (sWhile gt_reached gb_reached) (sSeq (sRet (mCall dSorted [mVar false 2])) (sSkip))))
def gb_lreached : Sx := sSeq (sSet (tNm 2) (mBin dAdd (mVar false 2) (mSortSet (mComp (iSeq (mVar false 0)) (tTp [tNm 4, tNm 5]) (tAnd (tBl (mBin (dIn false) (mVar false 4) (mVar false 2))) (tBl (mBin (dIn true) (mVar false 5) (mVar false 2)))) (mVar true 5) [4, 5])))) (sSkip)
def gs_lreached : Sx := sSeq (sSet (tNm 2) (mLst [mVar true 1])) (sSeq (sFor (iCall iR1 [mBin dAdd (mCall dLen [mVar false 0]) (mC (.int 1))]) (tNm 3) gb_lreached) (sSeq (sRetV false 2) (sSkip)))
theorem wp_extI {A B : List Int} {i : Nat} {m : M} {ρ : Rho} {Q : Out → Prop} (h : gt ρ i = some (.ow (intD A))) (hm : m ρ = .ok (intD B)) (hl : A.length + B.length ≤ 16777216) (k : Q (.nx (ρ.set i (.ow (intD (A ++ B)))))) : Wp (sExt i m) ρ Q := by
  rw [wp_ext, h, hm]
  show owK (some (.ow (.list (A.map .int)))) Q _
  rw [owK_ow, rsK_ok]
  show if (A.map PyData.int).length + (B.map PyData.int).length ≤ 16777216 then Q (.nx (ρ.set i (.ow (.list (A.map .int ++ B.map .int))))) else Q .no
  rw [if_pos (by rw [List.length_map, List.length_map]; exact hl), ← List.map_append]
  exact k
theorem wp_ret' {m : M} {d : PyData} {ρ : Rho} {Q : Out → Prop} (h : m ρ = .ok d) (k : Q (.rt d)) : Wp (sRet m) ρ Q := by
  rw [wp_ret, h]
  exact k
theorem sem_ex {s : Sx} {n ar : Nat} {fr : Bool} {ds : List PyData} (p : Rs PyData → Prop) (h : Wp s (rho0 n (ds.map .sh)) fun o => p (outR o)) : p ((⟨runS s n, fr, ar⟩ : FnI).sem ds) := by
  unfold Wp at h
  exact h
theorem news_len (P : Ps) (acc : List Int) (a : Int) : (news P acc a).length ≤ P.length := by
  unfold news
  rw [List.length_map]
  exact List.length_filter_le _ _
theorem newsL_len (P : Ps) (acc : List Int) : (newsL P acc).length ≤ P.length := by
  unfold newsL
  rw [List.length_map]
  exact List.length_filter_le _ _
theorem asc_len (L : List Int) : (ascI L).length = (metI L).length := (List.mergeSort_perm _ _).length_eq
theorem reached_sem {P : Ps} {s : Int} (hp : P.length ≤ 60) {fr : Bool} {ar : Nat} : ∃ R : List Int, R.Pairwise (· < ·) ∧ (∀ x, x ∈ R ↔ Rch P s x) ∧ (⟨runS gs_reached 6, fr, ar⟩ : FnI).sem [prsD P, .int s] = .ok (intD R) := by
  suffices w : Wp gs_reached (rho0 6 [.sh (prsD P), .sh (.int s)]) (fun o => ∃ R : List Int, R.Pairwise (· < ·) ∧ (∀ x, x ∈ R ↔ Rch P s x) ∧ outR o = .ok (intD R)) by
    unfold Wp at w
    obtain ⟨R, g, h, e⟩ := w
    exact ⟨R, g, h, e⟩
  simp only [gs_reached, rho0, wp_seq]
  refine wp_own' (d := intD [s]) (by simp [intD]) ?_
  rw [sqK_nx, wp_seq, ownC_int]
  refine wp_set' (d := .int 0) (by simp) ?_
  rw [sqK_nx, wp_seq]
  refine wp_while (fun n ρ => Fr [2, 3] [.sh (prsD P), .sh (.int s), .ow (intD [s]), .sh (.int 0), .un, .un] ρ ∧ ∃ (acc : List Int) (k : Nat), Inv P s acc k ∧ gt ρ 2 = some (.ow (intD acc)) ∧ gt ρ 3 = some (.sh (.int k)) ∧ n = P.length + 1 - k) ?_ (P.length + 1) _ ?_
  · rintro n ρ ⟨F, acc, k, I, g2, g3, hn⟩
    have l0 := F.len
    have g0 := F.get 0 (by decide)
    simp at l0 g0
    have il := I.len
    have ia := I.at'
    by_cases c : k < acc.length
    · refine ⟨true, by simp [gt_reached, g2, g3]; omega, ?_⟩
      rw [if_pos rfl]
      obtain ⟨a, ha⟩ : ∃ a, acc[k]? = some a := ⟨_, List.getElem?_eq_getElem c⟩
      have ix : dIx (intD acc) (.int (k : Nat)) = .ok (.int a) := by
        rw [ix_intD c, ha]
        rfl
      have J := I.step ha
      have jl := J.len
      have nl := news_len P acc a
      have ml := metI_len (news P acc a)
      have ss : mSortSet (mComp (iSeq (mVar false 0)) (tTp [tNm 4, tNm 5]) (tAnd (tBl (mBin dEq (mVar false 4) (mBin dIx (mVar false 2) (mVar false 3)))) (tBl (mBin (dIn true) (mVar false 5) (mVar false 2)))) (mVar true 5) [4, 5]) ρ = .ok (intD (ascI (news P acc a))) := by
        refine sortset ?_ (by omega) (by omega)
        rw [comp_pr P (by simp [iSeq, g0, prsD]) (fun p => decide (p.1 = a) && decide (p.2 ∉ acc)) (fun p => .int p.2) (by
          intro x hx
          refine ⟨?_, fun _ => by simp [wipeR, l0]⟩
          by_cases e : x.1 = a <;> simp [wipeR, l0, g2, g3, ix, e])]
        simp [news, intD]
      simp only [gb_reached, wp_seq]
      refine wp_extI g2 ss (by rw [asc_len]; omega) ?_
      rw [sqK_nx, wp_seq]
      refine wp_set' (d := .int (k + 1 : Nat)) (by simp [l0, g3]) ?_
      rw [sqK_nx, wp_skip, loK_nx]
      have F' := (F.set (i := 2) (x := .ow (intD (acc ++ ascI (news P acc a)))) (by decide)).set (i := 3) (x := .sh (.int (k + 1 : Nat))) (by decide)
      exact ⟨P.length + 1 - (k + 1), by omega, F', _, k + 1, J, by simp [l0], by simp [l0], rfl⟩
    · refine ⟨false, by simp [gt_reached, g2, g3]; omega, ?_⟩
      rw [if_neg (by decide)]
      have ek : k = acc.length := by omega
      subst ek
      have so : dSorted [intD acc] = .ok (intD (sortI acc)) := sorted_ints _
      rw [sqK_nx, wp_seq]
      refine wp_ret' (d := intD (sortI acc)) (by simp only [mCall_ap, mAll_cons, mAll_nil, mVar_rd, g2, rdC_ow, Rs.bind_ok, so]) ?_
      rw [sqK_rt]
      refine ⟨sortI acc, ?_, fun x => ?_, by rw [outR_rt]⟩
      · exact (sortI_le acc).imp₂ (fun a b h1 h2 => by omega) ((sortI_perm acc).nodup_iff.mpr I.nd)
      · rw [(sortI_perm acc).mem_iff]
        exact I.all x
  · exact ⟨by simpa using Fr.refl, [s], 0, Inv.first P s, by simp, by simp, by omega⟩
theorem lreached_sem {P : Ps} {s : Int} (hp : P.length ≤ 60) {fr : Bool} {ar : Nat} : ∃ R : List Int, (∀ x, x ∈ R ↔ Rch P s x) ∧ (⟨runS gs_lreached 6, fr, ar⟩ : FnI).sem [prsD P, .int s] = .ok (intD R) := by
  suffices w : ∃ R : List Int, (fun r : Rs PyData => (∀ x, x ∈ R ↔ Rch P s x) ∧ r = .ok (intD R)) ((⟨runS gs_lreached 6, fr, ar⟩ : FnI).sem [prsD P, .int s]) from w
  refine sem_ex (fun r => ∃ R : List Int, (∀ x, x ∈ R ↔ Rch P s x) ∧ r = .ok (intD R)) ?_
  simp only [gs_lreached, rho0, wp_seq]
  refine wp_set' (d := intD [s]) (by simp [intD]) ?_
  rw [sqK_nx, wp_seq]
  refine wp_forR0 (n := P.length + 1) (fun k ρ => Fr [2, 3] [.sh (prsD P), .sh (.int s), .sh (intD [s]), .un, .un, .un] ρ ∧ ∃ acc : List Int, InvL P s acc k ∧ gt ρ 2 = some (.sh (intD acc)))
    (it1 (by simp [prsD]) rfl (by omega)) ⟨by simpa using Fr.refl, [s], InvL.first P s, by simp⟩ ?_ ?_
  · rintro k hk ρ ⟨F, acc, I, g2⟩
    have l0 := F.len
    have g0 := F.get 0 (by decide)
    simp at l0 g0
    have il := I.len
    have J := I.step
    have jl := J.len
    have nl := newsL_len P acc
    have ml := metI_len (newsL P acc)
    have ss : ∀ ρ' : Rho, ρ'.length = 6 → gt ρ' 0 = some (.sh (prsD P)) → gt ρ' 2 = some (.sh (intD acc)) → mSortSet (mComp (iSeq (mVar false 0)) (tTp [tNm 4, tNm 5]) (tAnd (tBl (mBin (dIn false) (mVar false 4) (mVar false 2))) (tBl (mBin (dIn true) (mVar false 5) (mVar false 2)))) (mVar true 5) [4, 5]) ρ' = .ok (intD (ascI (newsL P acc))) := by
      intro ρ' a0 a1 a2
      refine sortset ?_ (by omega) (by omega)
      rw [comp_pr P (by simp [iSeq, a1, prsD]) (fun p => decide (p.1 ∈ acc) && decide (p.2 ∉ acc)) (fun p => .int p.2) (by
        intro x hx
        refine ⟨?_, fun _ => by simp [wipeR, a0]⟩
        by_cases e : x.1 ∈ acc <;> simp [wipeR, a0, a2, e])]
      simp [newsL, intD]
    have e : dAdd (intD acc) (intD (ascI (newsL P acc))) = .ok (intD (acc ++ ascI (newsL P acc))) := app_ints (by rw [asc_len]; omega)
    simp only [gb_lreached, wp_seq]
    refine wp_set' (d := intD (acc ++ ascI (newsL P acc))) (by rw [mBin_ap, ss _ (by simp [l0]) (by simp [g0]) (by simp [g2])]; simp [g2, e]) ?_
    rw [sqK_nx, wp_skip, loK_nx]
    have F' := (F.set (i := 3) (x := .sh (.int (k : Nat))) (by decide)).set (i := 2) (x := .sh (intD (acc ++ ascI (newsL P acc)))) (by decide)
    exact ⟨F', _, J, by simp [l0]⟩
  · rintro ρ ⟨F, acc, I, g2⟩
    rw [sqK_nx, wp_seq]
    simp [g2]
    exact ⟨acc, I.all, rfl⟩
end Sm

/-! Graphs: what the program's check takes (shared by laws). -/
namespace Sm
open PySem L2 Gp
def plt (p q : Int × Int) : Prop := p.1 < q.1 ∨ p.1 = q.1 ∧ p.2 < q.2
structure Grf (n : Nat) (S : Ps) : Prop where
  n2 : 2 ≤ n
  n10 : n ≤ 10
  len : S.length ≤ 20
  lt : S.Pairwise plt
  rng : ∀ p ∈ S, 0 ≤ p.1 ∧ p.1 < (n : Int) - 1 ∧ 0 < p.2 ∧ p.2 < n
  ahead : ∀ x : Int, 0 ≤ x → x < n → Rch S 0 x
  behind : ∀ x : Int, 0 ≤ x → x < n → Rch (S.map fun p => (p.2, p.1)) ((n : Int) - 1) x
def grfD (n : Nat) (S : Ps) : PyData := .tuple [.int n, prsD S]
def gb_first_bad : Sx := sSeq (sIf (tOr (tNot (tBl (mChain dLe dLt (mC (.int 0)) (mVar false 3) (mBin dSub (mVar false 0) (mC (.int 1)))))) (tOr (tNot (tBl (mChain dLt dLt (mC (.int 0)) (mVar false 4) (mVar false 0)))) (tAnd (tBl (mBin dGt (mVar false 2) (mC (.int 0)))) (tBl (mBin dGe (mBin dIx (mVar false 1) (mBin dSub (mVar false 2) (mC (.int 1)))) (mTup [mVar true 3, mVar true 4])))))) (sSeq (sRetV false 2) (sSkip)) (sSkip)) (sSkip)
def gs_first_bad : Sx := sSeq (sFor (iCall iEnumD [mVar true 1]) (tTp [tNm 2, tTp [tNm 3, tNm 4]]) gb_first_bad) (sSeq (sRet (mC .none)) (sSkip))
noncomputable def gi_reached : FnI := ⟨runS gs_reached 6, false, 2⟩
noncomputable def gs_stray : Sx := sSeq (sSet (tNm 2) (mCall gi_reached.sem [mVar true 1, mC (.int 0)])) (sSeq (sSet (tNm 3) (mCall gi_reached.sem [mComp (iSeq (mVar false 1)) (tTp [tNm 6, tNm 7]) (fun _ => .ok true) (mTup [mVar true 7, mVar true 6]) [6, 7], mBin dSub (mVar false 0) (mC (.int 1))])) (sSeq (sSet (tNm 4) (mComp (iCall iR1 [mVar false 0]) (tNm 5) (tOr (tBl (mBin (dIn true) (mVar false 5) (mVar false 2))) (tBl (mBin (dIn true) (mVar false 5) (mVar false 3)))) (mVar true 5) [5])) (sSeq (sIf (tBl (mBin dEq (mCall dLen [mVar false 4]) (mC (.int 0)))) (sSeq (sRet (mC .none)) (sSkip)) (sSkip)) (sSeq (sRet (mBin dIx (mVar false 4) (mC (.int 0)))) (sSkip)))))
def gi_first_bad : FnI := ⟨runS gs_first_bad 5, false, 2⟩
noncomputable def gi_stray : FnI := ⟨runS gs_stray 8, false, 2⟩
noncomputable def gs_check_graph : Sx := sSeq (sSet (tTp [tNm 1, tNm 2]) (mVar true 0)) (sSeq (sIf (tNot (tBl (mChain dLe dLe (mC (.int 2)) (mVar false 1) (mC (.int 10))))) (sSeq (sRs "OutOfRange" (mVar true 1)) (sSkip)) (sSkip)) (sSeq (sIf (tBl (mBin dGt (mCall dLen [mVar false 2]) (mC (.int 20)))) (sSeq (sRs "TooMany" (mCall dLen [mVar false 2])) (sSkip)) (sSkip)) (sSeq (sSet (tNm 3) (mCall gi_first_bad.sem [mVar true 1, mVar true 2])) (sSeq (sIf (tBl (mBin (dIs true) (mVar false 3) (mC .none))) (sSeq (sRs "BadStep" (mVar true 3)) (sSkip)) (sSkip)) (sSeq (sSet (tNm 3) (mCall gi_stray.sem [mVar true 1, mVar true 2])) (sSeq (sIf (tBl (mBin (dIs true) (mVar false 3) (mC .none))) (sSeq (sRs "BadPlace" (mVar true 3)) (sSkip)) (sSkip)) (sSkip)))))))
theorem first_bad_sem {n : Nat} {S : Ps} (h : Grf n S) {fr : Bool} {ar : Nat} : (⟨runS gs_first_bad 5, fr, ar⟩ : FnI).sem [.int n, prsD S] = .ok .none := by
  refine sem_wp ?_
  simp only [gs_first_bad, wp_seq]
  refine wp_forNP (l := S) (fun _ ρ => Fr [2, 3, 4] [.sh (.int n), .sh (prsD S), .un, .un, .un] ρ) (by simp [rho0]) (by simpa [rho0] using Fr.refl) ?_ ?_
  · intro k hk ρ F
    have l0 := F.len
    have g0 := F.get 0 (by decide)
    have g1 := F.get 1 (by decide)
    simp at l0 g0 g1
    obtain ⟨r1, r2, r3, r4⟩ := h.rng _ (List.getElem_mem hk)
    simp only [gb_first_bad, wp_seq]
    refine wp_ff ?_ ?_
    · cases k with
      | zero => simp [l0, g0, g1, r1, r2, r3, r4]
      | succ j =>
        have q := List.pairwise_iff_getElem.mp h.lt j (j + 1) (by omega) hk (by omega)
        have ix := ix_pr (l := S) (k := j) (by omega)
        have ge := ge_pr S[j] S[j + 1]
        rw [show (decide (S[j].1 < S[j + 1].1 ∨ S[j].1 = S[j + 1].1 ∧ S[j].2 < S[j + 1].2)) = true from decide_eq_true (show S[j].1 < S[j + 1].1 ∨ S[j].1 = S[j + 1].1 ∧ S[j].2 < S[j + 1].2 from q)] at ge
        have ge2 : dGe (prD S[j]) (.tuple [.int S[j + 1].1, .int S[j + 1].2]) = .ok (.bool false) := ge
        simp [l0, g0, g1, r1, r2, r3, r4, show ((j : Int) + 1 - 1) = j by omega, ix, ge2]
    · rw [wp_skip, sqK_nx, wp_skip, loK_nx]
      exact ((F.set (by decide)).set (by decide)).set (by decide)
  · intro ρ _
    rw [sqK_nx, wp_seq]
    simp
theorem stray_sem {n : Nat} {S : Ps} (h : Grf n S) {fr : Bool} {ar : Nat} : (⟨runS gs_stray 8, fr, ar⟩ : FnI).sem [.int n, prsD S] = .ok .none := by
  have hl := h.len
  have h10 := h.n10
  have h2 := h.n2
  obtain ⟨A, _, hA, eA⟩ := reached_sem (P := S) (s := 0) (by omega) (fr := false) (ar := 2)
  obtain ⟨B, _, hB, eB⟩ := reached_sem (P := S.map fun p => (p.2, p.1)) (s := (n : Int) - 1) (by simp; omega) (fr := false) (ar := 2)
  have eA' : gi_reached.sem [prsD S, .int 0] = .ok (intD A) := eA
  have eB' : gi_reached.sem [prsD (S.map fun p => (p.2, p.1)), .int ((n : Int) - 1)] = .ok (intD B) := eB
  refine sem_wp ?_
  simp only [gs_stray, wp_seq]
  refine wp_set' (d := intD A) (by simp [rho0, eA']) ?_
  rw [sqK_nx, wp_seq]
  refine wp_set' (d := intD B) (by
    rw [mCall_ap, mAll_cons, comp_pr S (by simp [iSeq, rho0, prsD]) (fun _ => true) (fun p => prD (p.2, p.1)) (by
      intro x hx
      simp [rho0, wipeR, prD])]
    have e : PyData.list ((S.filter fun _ => true).map fun p => prD (p.2, p.1)) = prsD (S.map fun p => (p.2, p.1)) := by
      rw [List.filter_eq_self.mpr fun _ _ => rfl]
      simp [prsD]
    rw [e]
    simp [rho0, eB']) ?_
  rw [sqK_nx, wp_seq]
  refine wp_set' (d := .list []) (by
    rw [comp_if (List.range n) (fun j : Nat => .int (j : Nat)) (it_range (n := n) (by simp [rho0]) (by omega)) (fun _ => false) (fun _ => .none) (by
      intro k mk
      have hk := List.mem_range.mp mk
      have a := (hA k).mpr (h.ahead k (by omega) (by omega))
      have b := (hB k).mpr (h.behind k (by omega) (by omega))
      simp [rho0, wipeR, a, b])]
    simp) ?_
  rw [sqK_nx, wp_seq]
  simp [rho0]
theorem check_graph_sem {n : Nat} {S : Ps} (h : Grf n S) {fr : Bool} {ar : Nat} : (⟨runS gs_check_graph 4, fr, ar⟩ : FnI).sem [grfD n S] = .ok .none := by
  have hl := h.len
  have h10 := h.n10
  have h2 := h.n2
  have e1 : gi_first_bad.sem [.int n, prsD S] = .ok .none := first_bad_sem h
  have e2 : gi_stray.sem [.int n, prsD S] = .ok .none := stray_sem h
  have e3 : dLen [prsD S] = .ok (.int (S.length : Nat)) := by simp [prsD]
  refine sem_wp ?_
  simp only [gs_check_graph, wp_seq]
  refine wp_pairT (d := .int n) (e := prsD S) (by simp [rho0, grfD]) ?_
  rw [sqK_nx, wp_seq]
  refine wp_ff (by simp [rho0, show (2 : Int) ≤ n by omega, show (n : Int) ≤ 10 by omega]) ?_
  rw [wp_skip, sqK_nx, wp_seq]
  refine wp_ff (by simp [rho0, e3, show ¬ (20 : Int) < S.length by omega]; try omega) ?_
  rw [wp_skip, sqK_nx, wp_seq]
  refine wp_set' (d := .none) (by simp [rho0, e1]) ?_
  rw [sqK_nx, wp_seq]
  refine wp_ff (by simp [rho0]) ?_
  rw [wp_skip, sqK_nx, wp_seq]
  refine wp_set' (d := .none) (by simp [rho0, e2]) ?_
  rw [sqK_nx, wp_seq]
  refine wp_ff (by simp [rho0]) ?_
  rw [wp_skip, sqK_nx, wp_skip, outR_nx]
end Sm

/-! Lists of pairs: membership, order, repr; index and pop. -/
namespace Sm
open PySem L2 Gp
theorem pr_T (p : Int × Int) : prD p = intT [p.1, p.2] := rfl
theorem eqv_pr (p q : Int × Int) : PyData.eqv (prD p) (prD q) = decide (p = q) := by
  have e : PyData.eqv (intT [p.1, p.2]) (intT [q.1, q.2]) = decide ([p.1, p.2] = [q.1, q.2]) := by
    rw [← PySem.W.ked_eqvAll]
    show PyData.eqv (.tuple _) (.tuple _) = _
    rw [PyData.eqv]
  rw [pr_T, pr_T, e]
  refine decide_eq_decide.mpr ⟨fun h => ?_, fun h => by rw [h]⟩
  injection h with h1 h2
  injection h2 with h2
  exact Prod.ext h1 h2
theorem shaped_pr (p : Int × Int) : SeqAt.shaped (prD p) = true := shaped_ints [p.1, p.2]
theorem shaped_prs (P : Ps) : SeqAt.shaped (prsD P) = true := by
  unfold SeqAt.shaped prsD
  rw [show (PyData.list (P.map prD)).canLay0 = true from canLay_all fun d m => by
    obtain ⟨r, _, rfl⟩ := List.mem_map.mp m
    exact canLay_ints [r.1, r.2]]
  have q : PyData.depthAll (P.map prD) ≤ 2 := depthAll_le fun d hd => by
    obtain ⟨r, hr, rfl⟩ := List.mem_map.mp hd
    have := depth_ints [r.1, r.2]
    show PyData.depthAll ([r.1, r.2].map .int) + 1 ≤ 2
    omega
  simp only [Bool.true_and, decide_eq_true_eq]
  show PyData.depthAll (P.map prD) + 1 ≤ 64
  omega
theorem mem_prs (p : Int × Int) (P : Ps) : memB (prD p) (P.map prD) = decide (p ∈ P) := by
  unfold memB
  rw [List.any_map, Bool.eq_iff_iff, List.any_eq_true, decide_eq_true_eq]
  constructor
  · rintro ⟨j, m, e⟩
    have e' : PyData.eqv (prD j) (prD p) = true := e
    rw [eqv_pr, decide_eq_true_eq] at e'
    exact e' ▸ m
  · intro m
    exact ⟨p, m, by show PyData.eqv (prD p) (prD p) = true; rw [eqv_pr]; simp⟩
theorem in_prs (neg : Bool) (p : Int × Int) (P : Ps) : dIn neg (prD p) (prsD P) = .ok (.bool (if neg then !decide (p ∈ P) else decide (p ∈ P))) := by
  show (if (SeqAt.shaped (prD p) && SeqAt.shaped (.list (P.map prD))) = true then okB (if neg = true then !memB (prD p) (P.map prD) else memB (prD p) (P.map prD)) else .no) = _
  rw [shaped_pr, show SeqAt.shaped (.list (P.map prD)) = true from shaped_prs P, mem_prs]
  rfl
theorem sorts_prs (P : Ps) : sortsOk (P.map prD) := by
  refine ⟨fun d m e m' => ?_, .inl fun d m => ?_, ?_, fun d m => ?_⟩
  · obtain ⟨a, _, rfl⟩ := List.mem_map.mp m
    obtain ⟨b, _, rfl⟩ := List.mem_map.mp m'
    exact alike_ints [a.1, a.2] [b.1, b.2]
  · obtain ⟨a, _, rfl⟩ := List.mem_map.mp m
    exact ⟨_, _, rfl⟩
  · induction P with
    | nil => rfl
    | cons p P ih => exact ih
  · obtain ⟨a, _, rfl⟩ := List.mem_map.mp m
    have := depth_ints [a.1, a.2]
    show PyData.depthAll ([a.1, a.2].map .int) + 1 ≤ 60
    omega
def sortP (P : Ps) : Ps := P.mergeSort fun p q => decide (p.1 < q.1 ∨ (p.1 = q.1 ∧ p.2 ≤ q.2))
theorem sorted_prs (P : Ps) : dSorted [prsD P] = .ok (prsD (sortP P)) := by
  unfold dSorted prsD
  dsimp only
  rw [if_pos (sorts_prs P)]
  unfold sortP
  rw [List.map_mergeSort (s := PySem.W.dataLe false id)]
  intro a _ b _
  exact (congrFun (congrFun (PySem.W.dataLe_ii (β := Int × Int) (·.1) (·.2)) a) b).symm
theorem sortP_perm (P : Ps) : (sortP P).Perm P := List.mergeSort_perm _ _
theorem sortP_lt {P : Ps} (h : P.Nodup) : (sortP P).Pairwise plt := by
  have nd : (sortP P).Nodup := (sortP_perm P).nodup_iff.mpr h
  have q := List.pairwise_mergeSort (le := fun p q : Int × Int => decide (p.1 < q.1 ∨ (p.1 = q.1 ∧ p.2 ≤ q.2))) (fun a b c h k => by
    have h := of_decide_eq_true h
    have k := of_decide_eq_true k
    exact decide_eq_true (by omega)) (fun a b => by
    by_cases h : a.1 < b.1 ∨ (a.1 = b.1 ∧ a.2 ≤ b.2)
    · simp [h]
    · have : b.1 < a.1 ∨ (b.1 = a.1 ∧ b.2 ≤ a.2) := by omega
      simp [this]) P
  refine q.imp₂ (fun a b h1 h2 => ?_) nd
  have h1 := of_decide_eq_true h1
  unfold plt
  rcases h1 with h | ⟨h, k⟩
  · exact .inl h
  · refine .inr ⟨h, ?_⟩
    have : a.2 ≠ b.2 := fun e => h2 (Prod.ext h e)
    omega
theorem idx_int {W : List Int} {a : Int} (h : a ∈ W) : ∃ p : Nat, dIndex (W.map .int) (.int a) = .ok (.int p) := by
  unfold dIndex
  rw [if_pos ⟨shaped_ints W, rfl⟩]
  cases e : (W.map PyData.int).findIdx? (fun z => PyData.eqv z (.int a)) with
  | some j => exact ⟨j, rfl⟩
  | none =>
    exfalso
    have q := List.findIdx?_eq_none_iff.mp e (.int a) (List.mem_map_of_mem h)
    simp [PyData.eqv] at q
theorem wp_appPopI {A B : List Int} {i j : Nat} {p : Nat} {k : M} {ρ : Rho} {Q : Out → Prop} (hi : gt ρ i = some (.ow (intD A))) (hj : gt ρ j = some (.ow (intD B))) (hk : k ρ = .ok (.int (p : Nat))) (hp : p < B.length) (hA : A.length < 16777216) (ne : i ≠ j)
    (q : Q (.nx ((ρ.set j (.ow (intD (B.eraseIdx p)))).set i (.ow (intD (A ++ [B[p]])))))) : Wp (sAppPop i j (some k)) ρ Q := by
  have hi' : ρ[i]? = some (.ow (intD A)) := hi
  have hj' : ρ[j]? = some (.ow (intD B)) := hj
  have e : popAt (B.map .int) (some (p : Int)) = some (.int B[p], (B.eraseIdx p).map .int) := by
    unfold popAt
    have i1 : ixN (B.map PyData.int).length (p : Int) = some p := by
      unfold ixN
      simp
      omega
    dsimp only
    rw [i1]
    simp [hp]
    rw [List.eraseIdx_eq_take_drop_succ, List.eraseIdx_eq_take_drop_succ, List.map_append, List.map_take, List.map_drop]
  unfold Wp sAppPop
  rw [hi', hj']
  show Q (lf (optM (some k) ρ) ρ fun o => match popAt (B.map .int) o with
    | some (d, ds') => if (A.map PyData.int).length < sizeLine ∧ i ≠ j then .nx ((ρ.set j (.ow (.list ds'))).set i (.ow (.list (A.map .int ++ [d])))) else .no
    | none => .no)
  have ek : optM (some k) ρ = .ok (some (p : Int)) := by
    unfold optM
    dsimp only
    rw [hk]
    rfl
  rw [ek]
  show Q (match popAt (B.map .int) (some (p : Int)) with
    | some (d, ds') => if (A.map PyData.int).length < sizeLine ∧ i ≠ j then .nx ((ρ.set j (.ow (.list ds'))).set i (.ow (.list (A.map .int ++ [d])))) else .no
    | none => .no)
  rw [e]
  dsimp only
  rw [if_pos ⟨by rw [List.length_map, sizeLine_eq]; exact hA, ne⟩]
  rw [show A.map PyData.int ++ [.int B[p]] = (A ++ [B[p]]).map .int by simp]
  exact q
end Sm

/-! Dicts with tuples of ints as keys and ints as values; sorted of them; comprehensions with two fors. -/
namespace Sm
open PySem L2
abbrev PI := List (List Int × Int)
def dkT (l : PI) : List (PyData × PyData) := l.map fun p => (intT p.1, .int p.2)
section
variable {l : PI} {q : List Int} {x : Int}
theorem keysK_ints : ∀ q : List Int, keysK (q.map .int) = some (q.map Sum.inl)
  | [] => rfl
  | i :: q => by
    show (match keyK (.int i), keysK (q.map .int) with
      | some k, some ks => some (k :: ks)
      | _, _ => none) = _
    rw [keysK_ints q]
    rfl
theorem keyC_intT (q : List Int) : keyC (intT q) = some (.inr (q.map Sum.inl)) := by
  show Option.map Sum.inr (keysK (q.map .int)) = _
  rw [keysK_ints]
  rfl
theorem keyC_inj {p q : List Int} : keyC (intT p) = keyC (intT q) ↔ p = q := by
  rw [keyC_intT, keyC_intT]
  constructor
  · intro h
    injection h with h
    injection h with h
    exact (List.map_inj_right (fun a b e => by injection e)).mp h
  · rintro rfl
    rfl
theorem kind_dkT : kindB (dkT l) (intT q) = true := by
  cases l with
  | nil =>
    show (keyC (intT q)).isSome = true
    rw [keyC_intT]
    rfl
  | cons p l =>
    show (match keyC (intT p.1), keyC (intT q) with
      | some (.inl _), some (.inl _) => true
      | some (.inr _), some (.inr _) => true
      | _, _ => false) = true
    rw [keyC_intT, keyC_intT]
theorem look_dkT : ∀ l : PI, lookD (dkT l) (intT q) = (l.lookup q).map .int
  | [] => rfl
  | p :: l => by
    show lookD ((intT p.1, .int p.2) :: dkT l) (intT q) = _
    unfold lookD
    rw [List.lookup_cons]
    by_cases e : p.1 = q
    · subst e
      simp
    · have e' : (q == p.1) = false := by simpa using Ne.symm e
      rw [if_neg (fun z => e (keyC_inj.mp z)), e', look_dkT l]
theorem repl_dkT : ∀ l : PI, replD (intT q) (.int x) (dkT l) = dkT (l.map fun p => if p.1 = q then (p.1, x) else p)
  | [] => rfl
  | p :: l => by
    show replD (intT q) (.int x) ((intT p.1, .int p.2) :: dkT l) = _
    unfold replD
    rw [repl_dkT l]
    by_cases e : p.1 = q
    · subst e
      simp [dkT]
    · rw [if_neg (fun z => e (keyC_inj.mp z))]
      simp [dkT, e]
def putT (l : PI) (q : List Int) (x : Int) : PI := if (l.lookup q).isSome then l.map (fun p => if p.1 = q then (p.1, x) else p) else l ++ [(q, x)]
theorem put_dkT : putD (dkT l) (intT q) (.int x) = dkT (putT l q x) := by
  unfold putD putT
  rw [look_dkT, Option.isSome_map]
  split
  · exact repl_dkT l
  · simp [dkT]
theorem get_dkT {z : PyData} : dGet2 (.dict (dkT l)) (intT q) z = .ok (((l.lookup q).map .int).getD z) := by
  have e : dGet2 (.dict (dkT l)) (intT q) z = if kindB (dkT l) (intT q) then .ok ((lookD (dkT l) (intT q)).getD z) else .no := rfl
  rw [e, kind_dkT, look_dkT]
  rfl
theorem ix_dkT (h : l.lookup q = some x) : dIx (.dict (dkT l)) (intT q) = .ok (.int x) := by
  have e : dIx (.dict (dkT l)) (intT q) = if kindB (dkT l) (intT q) then ofOpt (lookD (dkT l) (intT q)) else .no := rfl
  rw [e, kind_dkT, look_dkT, h]
  rfl
theorem lookT_none : ∀ {l : PI}, l.lookup q = none ↔ q ∉ l.map (·.1)
  | [] => by simp
  | p :: l => by
    rw [List.lookup_cons, List.map_cons, List.mem_cons]
    by_cases e : q = p.1
    · subst e; simp
    · have e' : (q == p.1) = false := by simpa using e
      rw [e', lookT_none]
      simp [e]
theorem lookT_map {j : List Int} (ne : j ≠ q) : ∀ l : PI, (l.map (fun p => if p.1 = q then (p.1, x) else p)).lookup j = l.lookup j
  | [] => rfl
  | p :: l => by
    rw [List.map_cons, List.lookup_cons, List.lookup_cons, lookT_map ne l]
    by_cases e : p.1 = q
    · rw [if_pos e]
      have : (j == p.1) = false := by rw [e]; simpa using ne
      simp [this]
    · rw [if_neg e]
theorem lookT_map' : ∀ l : PI, (l.lookup q).isSome = true → (l.map (fun p => if p.1 = q then (p.1, x) else p)).lookup q = some x
  | [], h => by cases h
  | p :: l, h => by
    rw [List.map_cons, List.lookup_cons]
    rw [List.lookup_cons] at h
    by_cases e : p.1 = q
    · subst e
      simp
    · have e' : (q == p.1) = false := by simpa using Ne.symm e
      rw [if_neg e, e']
      rw [e'] at h
      exact lookT_map' l h
theorem lookT_app {j : List Int} : ∀ l : PI, l.lookup q = none → (l ++ [(q, x)]).lookup j = if j = q then some x else l.lookup j
  | [], _ => by
    rw [List.nil_append, List.lookup_cons]
    by_cases e : j = q
    · subst e; simp
    · have : (j == q) = false := by simpa using e
      simp [this, e]
  | p :: l, h => by
    rw [List.lookup_cons] at h
    rw [List.cons_append, List.lookup_cons, List.lookup_cons]
    by_cases e : q = p.1
    · subst e
      simp at h
    · have e' : (q == p.1) = false := by simpa using e
      rw [e'] at h
      have ih := lookT_app (j := j) l h
      by_cases ej : j = p.1
      · have e2 : (j == p.1) = true := by simpa using ej
        rw [e2]
        by_cases c : j = q
        · exact absurd (c.symm.trans ej) e
        · rw [if_neg c]
      · have e2 : (j == p.1) = false := by simpa using ej
        rw [e2, ih]
theorem lookT_put (j : List Int) : (putT l q x).lookup j = if j = q then some x else l.lookup j := by
  unfold putT
  by_cases h : (l.lookup q).isSome = true
  · rw [if_pos h]
    by_cases e : j = q
    · subst e
      rw [if_pos rfl, lookT_map' l h]
    · rw [if_neg e, lookT_map e]
  · rw [if_neg h]
    exact lookT_app l (Option.not_isSome_iff_eq_none.mp h)
theorem keysT_put (j : List Int) : j ∈ (putT l q x).map (·.1) ↔ j = q ∨ j ∈ l.map (·.1) := by
  have a := lookT_none (q := j) (l := putT l q x)
  have b := lookT_none (q := j) (l := l)
  rw [lookT_put] at a
  by_cases e : j = q
  · subst e
    rw [if_pos rfl] at a
    simp at a
    simp [a]
  · rw [if_neg e] at a
    have : j ∈ (putT l q x).map (·.1) ↔ j ∈ l.map (·.1) := by
      have z := a.symm.trans b
      exact ⟨fun h => Classical.byContradiction fun n => z.mpr n h, fun h => Classical.byContradiction fun n => z.mp n h⟩
    rw [this]
    simp [e]
theorem ndT_put (h : (l.map (·.1)).Nodup) : ((putT l q x).map (·.1)).Nodup := by
  unfold putT
  by_cases c : (l.lookup q).isSome = true
  · rw [if_pos c, List.map_map]
    have : (l.map ((·.1) ∘ fun p => if p.1 = q then (p.1, x) else p)) = l.map (·.1) := List.map_congr_left fun p _ => by
      show (if p.1 = q then (p.1, x) else p).1 = p.1
      split <;> rfl
    rw [this]
    exact h
  · rw [if_neg c, List.map_append, List.nodup_append]
    have n := lookT_none.mp (Option.not_isSome_iff_eq_none.mp c)
    exact ⟨h, by simp, fun a ha b hb e => n (by
      have hb' : b = q := by simpa using hb
      rw [← hb', ← e]
      exact ha)⟩
theorem lookT_mem {j : List Int} {v : Int} : ∀ {l : PI}, (l.map (·.1)).Nodup → ((j, v) ∈ l ↔ l.lookup j = some v)
  | [], _ => by simp
  | p :: l, h => by
    rw [List.map_cons, List.nodup_cons] at h
    rw [List.lookup_cons, List.mem_cons]
    by_cases e : j = p.1
    · have e' : (j == p.1) = true := by simpa using e
      rw [e']
      constructor
      · rintro (z | z)
        · rw [← z]
        · exact absurd (by rw [← e]; exact List.mem_map.mpr ⟨(j, v), z, rfl⟩) h.1
      · intro z
        injection z with z
        exact .inl (Prod.ext e z.symm)
    · have e' : (j == p.1) = false := by simpa using e
      rw [e', ← lookT_mem h.2]
      constructor
      · rintro (z | z)
        · exact absurd (by rw [← z]) e
        · exact z
      · exact .inr
end
/-! sorted -/
theorem hasDict_intT (q : List Int) : (intT q).hasDict = false := dict_ints q
theorem alike_intT (p q : List Int) : PySem.W.alike (intT p) (intT q) = true := by
  show PySem.W.alikeAll (p.map .int) (q.map .int) = true
  exact alike_ints p q
theorem depth_intT (q : List Int) : (intT q).depth ≤ 2 := by
  have := depth_ints q
  show PyData.depthAll (q.map .int) + 1 ≤ 2
  omega
theorem lt_intT (a b : List Int) : PySem.W.dataLt (intT a) (intT b) = decide (a < b) := by
  show PySem.W.dataLt (.tuple (a.map .int)) (.tuple (b.map .int)) = _
  rw [PySem.W.dataLt_tuple, ← PySem.W.dataLt_ints a b]
  rfl
theorem keys_okI (l : PI) : (dkT l).all (fun p => isKeyI p.1) = true := by
  rw [List.all_eq_true]
  intro p hp
  obtain ⟨r, _, rfl⟩ := List.mem_map.mp hp
  show (r.1.map PyData.int).all isIntD = true
  rw [List.all_eq_true]
  intro d hd
  obtain ⟨i, _, rfl⟩ := List.mem_map.mp hd
  rfl
theorem sortsE_keys {l : PI} (v : Int) : sortsOkE ((dkT (([], v) :: l)).map (·.1)) := by
  have mem : ∀ d ∈ (dkT (([], v) :: l)).map (·.1), ∃ q : List Int, d = intT q := fun d m => by
    obtain ⟨p, hp, rfl⟩ := List.mem_map.mp m
    obtain ⟨r, _, rfl⟩ := List.mem_map.mp hp
    exact ⟨r.1, rfl⟩
  refine ⟨fun d m e m' => ?_, .inr ⟨(dkT l).map (·.1), rfl, fun d m => ?_⟩, ?_, fun d m => ?_⟩
  · obtain ⟨a, rfl⟩ := mem d m
    obtain ⟨b, rfl⟩ := mem e m'
    exact alike_intT a b
  · obtain ⟨a, rfl⟩ := mem d (List.mem_cons_of_mem _ m)
    exact ⟨_, rfl⟩
  · have all : ∀ ds : List PyData, (∀ d ∈ ds, ∃ q : List Int, d = intT q) → PyData.hasDictAll ds = false := by
      intro ds
      induction ds with
      | nil => intro _; rfl
      | cons d ds ih =>
        intro h
        obtain ⟨q, rfl⟩ := h d List.mem_cons_self
        show ((intT q).hasDict || PyData.hasDictAll ds) = false
        rw [hasDict_intT, ih fun e m => h e (List.mem_cons_of_mem _ m)]
        rfl
    exact all _ mem
  · obtain ⟨a, rfl⟩ := mem d m
    have := depth_intT a
    omega
def itT (p : List Int × Int) : PyData := .tuple [intT p.1, .int p.2]
theorem items_dkT (l : PI) : dItems (dkT l) = l.map itT := by
  unfold dItems dkT
  rw [List.map_map]
  rfl
theorem alike_itT (p q : List Int × Int) : PySem.W.alike (itT p) (itT q) = true := by
  show (PySem.W.alike (intT p.1) (intT q.1) && (PySem.W.alike (.int p.2) (.int q.2) && true)) = true
  rw [alike_intT]
  rfl
theorem sortsE_items (l : PI) : sortsOkE (dItems (dkT l)) := by
  rw [items_dkT]
  refine ⟨fun d m e m' => ?_, .inl (.inl fun d m => ?_), ?_, fun d m => ?_⟩
  · obtain ⟨a, _, rfl⟩ := List.mem_map.mp m
    obtain ⟨b, _, rfl⟩ := List.mem_map.mp m'
    exact alike_itT a b
  · obtain ⟨a, _, rfl⟩ := List.mem_map.mp m
    exact ⟨_, _, rfl⟩
  · induction l with
    | nil => rfl
    | cons p l ih =>
      show ((itT p).hasDict || PyData.hasDictAll (l.map itT)) = false
      rw [ih]
      show ((intT p.1).hasDict || (false || false) || false) = false
      rw [hasDict_intT]
      rfl
  · obtain ⟨a, _, rfl⟩ := List.mem_map.mp m
    have := depth_intT a.1
    show max (intT a.1).depth (max 0 0) + 1 ≤ 60
    omega
/-- the items by their keys -/
def sortD (l : PI) : PI := l.mergeSort fun p q => decide (p.1 < q.1 ∨ (p.1 = q.1 ∧ p.2 ≤ q.2))
theorem le_itT (p q : List Int × Int) : PySem.W.dataLe false id (itT p) (itT q) = decide (p.1 < q.1 ∨ (p.1 = q.1 ∧ p.2 ≤ q.2)) := by
  show (!PySem.W.dataLt (itT q) (itT p)) = _
  unfold itT
  rw [PySem.W.dataLt_pair (alike_intT q.1 p.1) (by simp [PySem.W.alike]), lt_intT, PySem.W.dataLt_int]
  have e1 : PyData.eqv (intT q.1) (intT p.1) = decide (q.1 = p.1) := eqv_ints q.1 p.1
  rw [e1]
  have e2 : PyData.eqv (.int q.2) (.int p.2) = decide (q.2 = p.2) := by
    show (q.2 == p.2) = _
    rw [Bool.eq_iff_iff]
    simp
  rw [e2]
  by_cases c : q.1 = p.1
  · rw [decide_eq_true c, if_pos rfl]
    have ir : ¬ p.1 < q.1 := by rw [c]; exact List.lt_irrefl _
    by_cases d : q.2 = p.2
    · rw [decide_eq_true d, if_pos rfl]
      simp [c, d]
    · rw [decide_eq_false d, if_neg (by decide)]
      by_cases f : q.2 < p.2
      · simp [f, c]
      · simp [f, c]
        exact .inr (by omega)
  · rw [decide_eq_false c, if_neg (by decide)]
    have c' : ¬ p.1 = q.1 := fun z => c z.symm
    by_cases f : q.1 < p.1
    · have : ¬ p.1 < q.1 := fun z => List.lt_irrefl _ (List.lt_trans z f)
      simp [f, this, c']
    · have : p.1 < q.1 := by
        have := List.not_lt.mp f
        rcases Classical.em (p.1 < q.1) with z | z
        · exact z
        · exact absurd (List.le_antisymm this (List.not_lt.mp z)) c'
      simp [f, this]
theorem sorted_items_dkT (l : PI) : dSortI (.dict (dkT l)) = .ok (.list ((sortD l).map itT)) := by
  rw [dSortI_ok (keys_okI l) (sortsE_items l), items_dkT]
  unfold sortD
  rw [List.map_mergeSort (s := PySem.W.dataLe false id)]
  intro a _ b _
  exact (le_itT a b).symm
theorem sorted_keys_dkT (v : Int) (l : PI) : dSorted [.dict (dkT (([], v) :: l))] = .ok (.list ((sortR ((([], v) :: l).map (·.1))).map intT)) := by
  unfold dSorted
  dsimp only
  rw [if_pos ⟨keys_okI _, sortsE_keys v⟩]
  have e : (dkT (([], v) :: l)).map (·.1) = ((([], v) :: l).map (·.1)).map intT := by
    unfold dkT
    rw [List.map_map, List.map_map]
    rfl
  rw [e]
  unfold sortR
  rw [List.map_mergeSort (s := PySem.W.dataLe false id)]
  intro a _ b _
  show decide (a ≤ b) = (!PySem.W.dataLt (intT b) (intT a))
  rw [lt_intT]
  by_cases c : b < a
  · simp [c]
  · simp [c]
    exact List.not_lt.mp c
@[simp] theorem mSortItems_ap {m : M} {ρ : Rho} : mSortItems m ρ = (m ρ >>= dSortI) := by
  refine Eq.trans ?_ (Eq.refl _)
  rfl
/-- a comprehension with two fors, of lists of things -/
theorem comp2_all {α β : Type} {it it1 : Its} {tg tg1 : Tg} {el : M} {own vs1 : List Nat} {ρ : Rho} (l : List α) (enc : α → PyData) (sub : α → List β) (encb : β → PyData) (f : α → β → PyData) (hit : it ρ = .ok (l.map enc))
    (hl : (l.map fun a => (sub a).length).sum ≤ 16777216)
    (h : ∀ a ∈ l, ∃ ρ1, tg (enc a) (wipeR ρ own) = .ok ρ1 ∧ it1 ρ1 = .ok ((sub a).map encb) ∧ ∀ b ∈ sub a, ∃ ρ2, tg1 (encb b) (wipeR ρ1 vs1) = .ok ρ2 ∧ el ρ2 = .ok (f a b)) :
    mComp2 it tg (fun _ => .ok true) it1 tg1 (fun _ => .ok true) el own vs1 ρ = .ok (.list (l.flatMap fun a => (sub a).map (f a))) := by
  have inner : ∀ {ρ1 : Rho} {a : α} (L : List β), (∀ b ∈ L, ∃ ρ2, tg1 (encb b) (wipeR ρ1 vs1) = .ok ρ2 ∧ el ρ2 = .ok (f a b)) → compL tg1 (fun _ => .ok true) el (wipeR ρ1 vs1) (L.map encb) = .ok (L.map (f a)) := by
    intro ρ1 a L
    induction L with
    | nil => intro _; rfl
    | cons b L ih =>
      intro k
      obtain ⟨ρ2, e1, e2⟩ := k b List.mem_cons_self
      have ih' := ih fun c m => k c (List.mem_cons_of_mem _ m)
      show compL tg1 (fun _ => .ok true) el (wipeR ρ1 vs1) (encb b :: L.map encb) = _
      unfold compL
      rw [e1, Rs.bind_ok, Rs.bind_ok, e2, ih']
      rfl
  have outer : ∀ (L : List α), (∀ a ∈ L, a ∈ l) → compL2 tg (fun _ => .ok true) it1 tg1 (fun _ => .ok true) el vs1 (wipeR ρ own) (L.map enc) = .ok (L.flatMap fun a => (sub a).map (f a)) := by
    intro L
    induction L with
    | nil => intro _; rfl
    | cons a L ih =>
      intro k
      obtain ⟨ρ1, e1, e2, e3⟩ := h a (k a List.mem_cons_self)
      have ih' := ih fun c m => k c (List.mem_cons_of_mem _ m)
      show compL2 tg (fun _ => .ok true) it1 tg1 (fun _ => .ok true) el vs1 (wipeR ρ own) (enc a :: L.map enc) = _
      unfold compL2
      rw [e1, Rs.bind_ok, Rs.bind_ok, e2]
      show (compL tg1 (fun _ => .ok true) el (wipeR ρ1 vs1) ((sub a).map encb) >>= fun ys => compL2 tg (fun _ => .ok true) it1 tg1 (fun _ => .ok true) el vs1 (wipeR ρ own) (L.map enc) >>= fun ws => Rs.ok (ys ++ ws)) = _
      rw [inner (sub a) e3, Rs.bind_ok, ih', Rs.bind_ok]
      rfl
  have len : (l.flatMap fun a => (sub a).map (f a)).length ≤ 16777216 := by
    rw [List.length_flatMap]
    simpa using hl
  show (it ρ >>= fun xs => (compL2 tg (fun _ => .ok true) it1 tg1 (fun _ => .ok true) el vs1 (wipeR ρ own) xs).hush >>= fun ys => if ys.length ≤ 16777216 then Rs.ok (PyData.list ys) else Rs.no) = _
  rw [hit, Rs.bind_ok, outer l fun a m => m]
  show (if (l.flatMap fun a => (sub a).map (f a)).length ≤ 16777216 then Rs.ok (PyData.list (l.flatMap fun a => (sub a).map (f a))) else Rs.no) = _
  rw [if_pos len]
end Sm

/-! Trees of paths, in plain Lean: what is summed. -/
namespace Tr
open Sm
def cell1 (pc : List Int × Int) (l : PI) (k : Nat) : PI := putT l (pc.1.take k) ((l.lookup (pc.1.take k)).getD 0 + pc.2 * (if k = pc.1.length then 1 else 0))
def path1 (l : PI) (pc : List Int × Int) : PI := (List.range (pc.1.length + 1)).foldl (cell1 pc) l
def smd (P : PI) : PI := P.foldl path1 [([], 0)]
def tot (P : PI) (q : List Int) : Int := (P.map fun pc => if pc.1 = q then pc.2 else 0).sum
def keyOf (P : PI) (q : List Int) : Prop := q = [] ∨ ∃ pc ∈ P, q <+: pc.1
theorem tot_cons (pc : List Int × Int) (P : PI) (q : List Int) : tot (pc :: P) q = (if pc.1 = q then pc.2 else 0) + tot P q := by simp [tot]
theorem tot_app (P Q : PI) (q : List Int) : tot (P ++ Q) q = tot P q + tot Q q := by simp [tot]
theorem tot_no {P : PI} {q : List Int} (h : ∀ pc ∈ P, pc.1 ≠ q) : tot P q = 0 := by
  induction P with
  | nil => rfl
  | cons pc P ih =>
    rw [tot_cons, if_neg (h pc List.mem_cons_self), ih fun x m => h x (List.mem_cons_of_mem _ m)]
    rfl
theorem fold_look (p : List Int) (c : Int) (l : PI) (n : Nat) : ∀ q : List Int, n ≤ p.length + 1 → ((List.range n).foldl (cell1 (p, c)) l).lookup q = if q <+: p ∧ q.length < n then some ((l.lookup q).getD 0 + if q = p then c else 0) else l.lookup q := by
  induction n with
  | zero => intro q _; simp
  | succ n ih =>
    intro q h
    have e1 := ih q (by omega)
    have e2 := ih (p.take n) (by omega)
    have tl : (p.take n).length = n := by rw [List.length_take]; omega
    have no : ¬ (p.take n <+: p ∧ (p.take n).length < n) := fun z => by rw [tl] at z; omega
    rw [if_neg no] at e2
    rw [List.range_succ, List.foldl_append]
    show (putT ((List.range n).foldl (cell1 (p, c)) l) (p.take n) (((((List.range n).foldl (cell1 (p, c)) l).lookup (p.take n)).getD 0) + c * (if n = p.length then 1 else 0))).lookup q = _
    rw [lookT_put, e1, e2]
    by_cases e : q = p.take n
    · have pre : q <+: p := by rw [e]; exact List.take_prefix _ _
      have yes : q <+: p ∧ q.length < n + 1 := ⟨pre, by rw [e, tl]; omega⟩
      rw [if_pos e, if_pos yes]
      have it : q = p ↔ n = p.length := by
        rw [e]
        constructor
        · intro z
          have := congrArg List.length z
          omega
        · intro z
          rw [z, List.take_length]
      rw [← e]
      by_cases f : n = p.length
      · simp [f, it.mpr f]
      · have g : ¬ q = p := fun z => f (it.mp z)
        simp [f, g]
    · rw [if_neg e]
      have this : (q <+: p ∧ q.length < n + 1) ↔ (q <+: p ∧ q.length < n) := by
        constructor
        · rintro ⟨a, b⟩
          refine ⟨a, ?_⟩
          rcases Nat.lt_or_ge q.length n with z | z
          · exact z
          · exact absurd (by rw [List.prefix_iff_eq_take.mp a, show q.length = n by omega]) e
        · rintro ⟨a, b⟩
          exact ⟨a, by omega⟩
      by_cases f : q <+: p ∧ q.length < n
      · have f2 := this.mpr f
        rw [if_pos f, if_pos f2]
      · have f2 : ¬ (q <+: p ∧ q.length < n + 1) := fun z => f (this.mp z)
        rw [if_neg f, if_neg f2]
theorem look_path (l : PI) (pc : List Int × Int) (q : List Int) : (path1 l pc).lookup q = if q <+: pc.1 then some ((l.lookup q).getD 0 + if q = pc.1 then pc.2 else 0) else l.lookup q := by
  have h := fold_look pc.1 pc.2 l (pc.1.length + 1) q (Nat.le_refl _)
  show ((List.range (pc.1.length + 1)).foldl (cell1 (pc.1, pc.2)) l).lookup q = _
  rw [h]
  by_cases e : q <+: pc.1
  · rw [if_pos e, if_pos ⟨e, by have := e.length_le; omega⟩]
  · rw [if_neg e, if_neg (fun z => e z.1)]
theorem getD_path (l : PI) (pc : List Int × Int) (q : List Int) : ((path1 l pc).lookup q).getD 0 = (l.lookup q).getD 0 + if pc.1 = q then pc.2 else 0 := by
  rw [look_path]
  by_cases e : q <+: pc.1
  · rw [if_pos e]
    by_cases f : q = pc.1
    · simp [f]
    · simp [f, Ne.symm f]
  · rw [if_neg e]
    have : pc.1 ≠ q := fun z => e (by rw [z]; exact List.prefix_refl _)
    simp [this]
open Classical in
theorem look_fold (q : List Int) : ∀ (P l : PI), (P.foldl path1 l).lookup q = if ∃ pc ∈ P, q <+: pc.1 then some ((l.lookup q).getD 0 + tot P q) else l.lookup q
  | [], l => by simp
  | pc :: P, l => by
    rw [List.foldl_cons, look_fold q P, getD_path, tot_cons]
    by_cases e : ∃ x ∈ P, q <+: x.1
    · have e2 : ∃ x ∈ pc :: P, q <+: x.1 := by
        obtain ⟨x, m, z⟩ := e
        exact ⟨x, List.mem_cons_of_mem _ m, z⟩
      rw [if_pos e, if_pos e2]
      congr 1
      omega
    · rw [if_neg e, look_path]
      have t0 : tot P q = 0 := tot_no fun x m z => e ⟨x, m, by rw [z]; exact List.prefix_refl _⟩
      by_cases f : q <+: pc.1
      · have e2 : ∃ x ∈ pc :: P, q <+: x.1 := ⟨pc, List.mem_cons_self, f⟩
        rw [if_pos f, if_pos e2, t0]
        congr 1
        by_cases g : q = pc.1
        · simp [g]
        · simp [g, Ne.symm g]
      · have e2 : ¬ ∃ x ∈ pc :: P, q <+: x.1 := by
          rintro ⟨x, m, z⟩
          rcases List.mem_cons.mp m with rfl | m
          · exact f z
          · exact e ⟨x, m, z⟩
        rw [if_neg f, if_neg e2]
open Classical in
theorem look_smd (P : PI) (q : List Int) : (smd P).lookup q = if keyOf P q then some (tot P q) else none := by
  unfold smd
  rw [look_fold]
  have l0 : ([([], 0)] : PI).lookup q = if q = [] then some 0 else none := by
    rw [List.lookup_cons]
    by_cases e : q = []
    · subst e; rfl
    · have : (q == []) = false := by simpa using e
      rw [this, if_neg e]
      rfl
  rw [l0]
  by_cases e : ∃ pc ∈ P, q <+: pc.1
  · have k : keyOf P q := .inr e
    rw [if_pos e, if_pos k]
    by_cases f : q = [] <;> simp [f]
  · rw [if_neg e]
    by_cases f : q = []
    · have k : keyOf P q := .inl f
      rw [if_pos f, if_pos k]
      rw [tot_no fun pc m z => e ⟨pc, m, by rw [z]; exact List.prefix_refl _⟩]
    · have k : ¬ keyOf P q := by
        rintro (z | z)
        · exact f z
        · exact e z
      rw [if_neg f, if_neg k]
theorem nd_fold {β : Type} {g : PI → β → PI} (h : ∀ l b, (l.map (·.1)).Nodup → ((g l b).map (·.1)).Nodup) : ∀ (L : List β) (l : PI), (l.map (·.1)).Nodup → ((L.foldl g l).map (·.1)).Nodup
  | [], l, k => k
  | b :: L, l, k => nd_fold h L (g l b) (h l b k)
theorem nd_path (l : PI) (pc : List Int × Int) (h : (l.map (·.1)).Nodup) : ((path1 l pc).map (·.1)).Nodup := nd_fold (fun l k h => ndT_put h) _ _ h
theorem nd_smd (P : PI) : ((smd P).map (·.1)).Nodup := nd_fold nd_path _ _ (by simp)
def Hd (l : PI) : Prop := ∃ v l', l = ([], v) :: l'
theorem hd_put {l : PI} {q : List Int} {x : Int} (h : Hd l) : Hd (putT l q x) := by
  obtain ⟨v, l', rfl⟩ := h
  unfold putT
  split
  · rw [List.map_cons]
    by_cases e : ([] : List Int) = q
    · rw [if_pos e]; exact ⟨_, _, rfl⟩
    · rw [if_neg e]; exact ⟨_, _, rfl⟩
  · exact ⟨_, _, rfl⟩
theorem hd_fold {β : Type} {g : PI → β → PI} (h : ∀ l b, Hd l → Hd (g l b)) : ∀ (L : List β) (l : PI), Hd l → Hd (L.foldl g l)
  | [], l, k => k
  | b :: L, l, k => hd_fold h L (g l b) (h l b k)
theorem hd_path (l : PI) (pc : List Int × Int) (h : Hd l) : Hd (path1 l pc) := hd_fold (fun l k h => hd_put h) _ _ h
theorem hd_smd (P : PI) : Hd (smd P) := hd_fold hd_path _ _ ⟨0, [], rfl⟩
theorem mem_smd {P : PI} {q : List Int} : q ∈ (smd P).map (·.1) ↔ keyOf P q := by
  have a := lookT_none (q := q) (l := smd P)
  rw [look_smd] at a
  by_cases e : keyOf P q
  · rw [if_pos e] at a
    simp only [reduceCtorEq, false_iff, Classical.not_not] at a
    exact ⟨fun _ => e, fun _ => a⟩
  · rw [if_neg e] at a
    simp only [true_iff] at a
    exact ⟨fun z => absurd z a, fun z => absurd z e⟩
/-- what is told -/
def S (P : PI) : PI := (sortR ((smd P).map (·.1))).map fun q => (q, tot P q)
def Asc (T : PI) : Prop := T.Pairwise fun a b => a.1 < b.1
theorem S_asc (P : PI) : Asc (S P) := by
  unfold Asc S
  rw [List.pairwise_map]
  exact sortR_lt (nd_smd P)
theorem mem_S {P : PI} {x : List Int × Int} : x ∈ S P ↔ keyOf P x.1 ∧ x.2 = tot P x.1 := by
  unfold S
  rw [List.mem_map]
  constructor
  · rintro ⟨q, hq, rfl⟩
    exact ⟨mem_smd.mp ((sortR_perm _).mem_iff.mp hq), rfl⟩
  · rintro ⟨a, b⟩
    exact ⟨x.1, (sortR_perm _).mem_iff.mpr (mem_smd.mpr a), Prod.ext rfl b.symm⟩
theorem asc_eq : ∀ {A B : PI}, Asc A → Asc B → (∀ x, x ∈ A ↔ x ∈ B) → A = B
  | [], [], _, _, _ => rfl
  | [], b :: B, _, _, h => by have := (h b).mpr List.mem_cons_self; cases this
  | a :: A, [], _, _, h => by have := (h a).mp List.mem_cons_self; cases this
  | a :: A, b :: B, ha, hb, h => by
    have ha' := List.pairwise_cons.mp ha
    have hb' := List.pairwise_cons.mp hb
    have ir : ∀ p : List Int, ¬ p < p := fun p => List.lt_irrefl p
    have e : a = b := by
      rcases List.mem_cons.mp ((h a).mp List.mem_cons_self) with z | z
      · exact z
      · rcases List.mem_cons.mp ((h b).mpr List.mem_cons_self) with y | y
        · exact y.symm
        · exact absurd (List.lt_trans (ha'.1 b y) (hb'.1 a z)) (ir _)
    subst e
    rw [asc_eq ha'.2 hb'.2 fun x => ?_]
    have hx := h x
    rw [List.mem_cons, List.mem_cons] at hx
    constructor
    · intro m
      rcases hx.mp (.inr m) with z | z
      · exact absurd (ha'.1 x m) (by rw [z]; exact ir _)
      · exact z
    · intro m
      rcases hx.mpr (.inr m) with z | z
      · exact absurd (hb'.1 x m) (by rw [z]; exact ir _)
      · exact z
theorem asc_nd {T : PI} (h : Asc T) : (T.map (·.1)).Nodup := by
  rw [List.Nodup, List.pairwise_map]
  unfold Asc at h
  refine List.Pairwise.imp ?_ h
  intro a b lt e
  rw [e] at lt
  exact List.lt_irrefl _ lt
theorem sortD_smd (P : PI) : sortD (smd P) = S P := by
  have perm : (sortD (smd P)).Perm (smd P) := List.mergeSort_perm _ _
  refine asc_eq ?_ (S_asc P) fun x => ?_
  · have nd : ((sortD (smd P)).map (·.1)).Nodup := (perm.map _).nodup_iff.mpr (nd_smd P)
    rw [List.Nodup, List.pairwise_map] at nd
    have q := List.pairwise_mergeSort (le := fun p q : List Int × Int => decide (p.1 < q.1 ∨ (p.1 = q.1 ∧ p.2 ≤ q.2))) (fun a b c h k => by
      have h := of_decide_eq_true h
      have k := of_decide_eq_true k
      refine decide_eq_true ?_
      rcases h with h | ⟨h, h2⟩
      · rcases k with k | ⟨k, _⟩
        · exact .inl (List.lt_trans h k)
        · exact .inl (by rw [← k]; exact h)
      · rcases k with k | ⟨k, k2⟩
        · exact .inl (by rw [h]; exact k)
        · exact .inr ⟨h.trans k, by omega⟩) (fun a b => by
      have tri : a.1 < b.1 ∨ a.1 = b.1 ∨ b.1 < a.1 := by
        by_cases c : a.1 < b.1
        · exact .inl c
        · by_cases d : b.1 < a.1
          · exact .inr (.inr d)
          · exact .inr (.inl (List.le_antisymm (List.not_lt.mp d) (List.not_lt.mp c)))
      rcases tri with c | c | c
      · simp [c]
      · rcases Int.le_total a.2 b.2 with d | d <;> simp [c, d]
      · simp [c]) (smd P)
    exact q.imp₂ (fun a b h1 h2 => by
      have h1 := of_decide_eq_true h1
      rcases h1 with h | ⟨h, _⟩
      · exact h
      · exact absurd h h2) nd
  · rw [perm.mem_iff, mem_S]
    obtain ⟨q, v⟩ := x
    rw [lookT_mem (nd_smd P), look_smd]
    by_cases e : keyOf P q
    · rw [if_pos e]
      constructor
      · intro z
        injection z with z
        exact ⟨e, z.symm⟩
      · rintro ⟨_, z⟩
        have z' : v = tot P q := z
        rw [z']
    · rw [if_neg e]
      exact ⟨fun z => (by cases z), fun z => absurd z.1 e⟩
theorem smd_len (P : PI) : (smd P).length = (S P).length := by
  have := (List.mergeSort_perm (smd P) (fun p q => decide (p.1 < q.1 ∨ (p.1 = q.1 ∧ p.2 ≤ q.2)))).length_eq
  rw [← sortD_smd]
  exact this.symm
/-! trees -/
structure VT (T : PI) : Prop where
  len : T.length ≤ 60
  ok : ∀ x ∈ T, x.1.length ≤ 8 ∧ (∀ n ∈ x.1, 0 ≤ n ∧ n ≤ 9) ∧ 0 ≤ x.2
  asc : Asc T
  root : [] ∈ T.map (·.1)
  par : ∀ q ∈ T.map (·.1), q.dropLast ∈ T.map (·.1)
theorem tot_nn {P : PI} (h : ∀ x ∈ P, 0 ≤ x.2) (q : List Int) : 0 ≤ tot P q := by
  induction P with
  | nil => exact Int.le_refl _
  | cons pc P ih =>
    rw [tot_cons]
    have a := ih fun x m => h x (List.mem_cons_of_mem _ m)
    have b := h pc List.mem_cons_self
    split <;> omega
theorem dropLast_prefix {q p : List Int} (h : q <+: p) : q.dropLast <+: p := (List.dropLast_prefix q).trans h
theorem S_keys {P : PI} {q : List Int} : q ∈ (S P).map (·.1) ↔ keyOf P q := by
  rw [List.mem_map]
  constructor
  · rintro ⟨x, hx, rfl⟩
    exact (mem_S.mp hx).1
  · intro h
    exact ⟨(q, tot P q), mem_S.mpr ⟨h, rfl⟩, rfl⟩
theorem S_VT {P : PI} (h : ∀ x ∈ P, x.1.length ≤ 8 ∧ (∀ n ∈ x.1, 0 ≤ n ∧ n ≤ 9) ∧ 0 ≤ x.2) (l : (S P).length ≤ 60) : VT (S P) := by
  refine ⟨l, fun x hx => ?_, S_asc P, S_keys.mpr (.inl rfl), fun q hq => ?_⟩
  · obtain ⟨a, b⟩ := mem_S.mp hx
    have t := tot_nn (P := P) (fun y m => (h y m).2.2) x.1
    refine ⟨?_, ?_, by omega⟩
    · rcases a with z | ⟨pc, m, z⟩
      · rw [z]; simp
      · have := (h pc m).1
        have := z.length_le
        omega
    · rcases a with z | ⟨pc, m, z⟩
      · rw [z]; simp
      · exact fun n hn => (h pc m).2.1 n (z.subset hn)
  · rcases S_keys.mp hq with z | ⟨pc, m, z⟩
    · rw [z]; exact S_keys.mpr (.inl rfl)
    · exact S_keys.mpr (.inr ⟨pc, m, dropLast_prefix z⟩)
theorem tot_nd {L : PI} (h : (L.map (·.1)).Nodup) {q : List Int} {v : Int} (m : (q, v) ∈ L) : tot L q = v := by
  induction L with
  | nil => cases m
  | cons x L ih =>
    rw [List.map_cons, List.nodup_cons] at h
    rw [tot_cons]
    rcases List.mem_cons.mp m with z | z
    · rw [← z, if_pos rfl, tot_no]
      · simp
      · intro pc mp e
        exact h.1 (by rw [← z]; exact List.mem_map.mpr ⟨pc, mp, e⟩)
    · rw [if_neg, ih h.2 z]
      · simp
      · intro e
        exact h.1 (by rw [e]; exact List.mem_map.mpr ⟨(q, v), z, rfl⟩)
def neg (T : PI) : PI := T.map fun x => (x.1, -x.2)
theorem tot_neg (T : PI) (q : List Int) : tot (neg T) q = - tot T q := by
  induction T with
  | nil => rfl
  | cons x T ih =>
    show tot ((x.1, -x.2) :: neg T) q = _
    rw [tot_cons, tot_cons, ih]
    show (if x.1 = q then -x.2 else 0) + _ = _
    split <;> omega
def nz (T : PI) : PI := T.filter fun x => !decide (x.2 = 0)
theorem mem_nz {T : PI} {x : List Int × Int} : x ∈ nz T ↔ x ∈ T ∧ x.2 ≠ 0 := by
  unfold nz
  rw [List.mem_filter]
  simp
theorem asc_nz {T : PI} (h : Asc T) : Asc (nz T) := h.sublist List.filter_sublist
theorem back {one two : PI} (h : Asc two) : nz (S (one ++ nz (S (neg one ++ two)))) = nz two := by
  have W : ∀ q, tot (nz (S (neg one ++ two))) q = tot (neg one ++ two) q := fun q => by
    have nd := asc_nd (asc_nz (S_asc (neg one ++ two)))
    by_cases c : keyOf (neg one ++ two) q ∧ tot (neg one ++ two) q ≠ 0
    · exact tot_nd nd (mem_nz.mpr ⟨mem_S.mpr ⟨c.1, rfl⟩, c.2⟩)
    · rw [tot_no]
      · by_cases d : tot (neg one ++ two) q = 0
        · exact d.symm
        · have nk : ¬ keyOf (neg one ++ two) q := fun z => c ⟨z, d⟩
          exact (tot_no fun pc m e => nk (.inr ⟨pc, m, by rw [e]; exact List.prefix_refl _⟩)).symm
      · intro pc m e
        obtain ⟨m1, m2⟩ := mem_nz.mp m
        obtain ⟨k1, k2⟩ := mem_S.mp m1
        rw [e] at k1 k2
        rw [k2] at m2
        exact c ⟨k1, m2⟩
  have T : ∀ q, tot (one ++ nz (S (neg one ++ two))) q = tot two q := fun q => by
    rw [tot_app, W, tot_app, tot_neg]
    omega
  refine asc_eq (asc_nz (S_asc _)) (asc_nz h) fun x => ?_
  rw [mem_nz, mem_nz, mem_S, T]
  obtain ⟨q, v⟩ := x
  constructor
  · rintro ⟨⟨a, b⟩, c⟩
    have b : v = tot two q := b
    refine ⟨?_, c⟩
    by_cases d : ∃ pc ∈ two, pc.1 = q
    · obtain ⟨⟨p, u⟩, m, e⟩ := d
      have e : p = q := e
      rw [e] at m
      rw [b, tot_nd (asc_nd h) m]
      exact m
    · exfalso
      have := tot_no (P := two) (q := q) fun pc m e => d ⟨pc, m, e⟩
      have c : v ≠ 0 := c
      omega
  · rintro ⟨m, c⟩
    have c : v ≠ 0 := c
    have e := tot_nd (asc_nd h) m
    refine ⟨⟨?_, e.symm⟩, c⟩
    by_cases d : ∃ pc ∈ one, pc.1 = q
    · obtain ⟨pc, mp, ep⟩ := d
      exact .inr ⟨pc, List.mem_append_left _ mp, by rw [ep]; exact List.prefix_refl _⟩
    · have t1 := tot_no (P := one) (q := q) fun pc m e => d ⟨pc, m, e⟩
      have t2 : tot (neg one ++ two) q = v := by rw [tot_app, tot_neg, t1, e]; omega
      refine .inr ⟨(q, v), List.mem_append_right _ (mem_nz.mpr ⟨mem_S.mpr ⟨.inr ⟨(q, v), List.mem_append_right _ m, List.prefix_refl _⟩, t2.symm⟩, c⟩), List.prefix_refl _⟩
end Tr

/-! k75: sums, checks. -/
namespace K75
open PySem L2 Sm Tr
def prT (x : List Int × Int) : PyData := .tuple [intD x.1, .int x.2]
def trD (T : PI) : PyData := .list (T.map prT)
theorem pt0 (x : List Int × Int) : dIx (prT x) (.int 0) = .ok (intD x.1) := dIx_t0
theorem pt1 (x : List Int × Int) : dIx (prT x) (.int 1) = .ok (.int x.2) := dIx_t1
theorem lenT (T : PI) : dLen [trD T] = .ok (.int T.length) := by
  unfold trD
  rw [dLen_list, List.length_map]
theorem tup_int (L : List Int) : dTuple [intD L] = .ok (intT L) := rfl
theorem list_intT (L : List Int) : dList [intT L] = .ok (intD L) := rfl
theorem wp_ret' {m : M} {d : PyData} {ρ : Rho} {Q : Out → Prop} (h : m ρ = .ok d) (k : Q (.rt d)) : Wp (sRet m) ρ Q := by
  rw [wp_ret, h, rsK_ok]
  exact k
theorem put_len (l : PI) (q : List Int) (x : Int) : (putT l q x).length ≤ l.length + 1 := by
  unfold putT
  split
  · simp
  · simp
/-- a for over pairs of a path and a number -/
theorem wp_forPT {it : Its} {u v : Nat} {b : Sx} {ρ : Rho} {Q : Out → Prop} {T : PI} (I : Nat → Rho → Prop) (hit : it ρ = .ok (T.map prT)) (h0 : I 0 ρ)
    (hs : ∀ k (h : k < T.length) ρ, I k ρ → Wp b ((ρ.set u (.sh (intD T[k].1))).set v (.sh (.int T[k].2))) (loK (I (k + 1)) Q)) (he : ∀ ρ, I T.length ρ → Q (.nx ρ)) : Wp (sFor it (tTp [tNm u, tNm v]) b) ρ Q :=
  wp_for I hit h0 (fun k x e ρ p => by
    rw [List.getElem?_map] at e
    have hk : k < T.length := by
      cases Nat.lt_or_ge k T.length with
      | inl h => exact h
      | inr h => rw [List.getElem?_eq_none h] at e; cases e
    rw [List.getElem?_eq_getElem hk] at e
    cases e
    exact ⟨_, rfl, hs k hk ρ p⟩) (fun ρ p => he ρ (by rwa [List.length_map] at p))
theorem comp_PT {it : Its} {t : Ts} {el : M} {own : List Nat} {ρ : Rho} {i j : Nat} (T : PI) (hit : it ρ = .ok (T.map prT)) (p : List Int × Int → Bool) (f : List Int × Int → PyData)
    (h : ∀ x ∈ T, t (((wipeR ρ own).set i (.sh (intD x.1))).set j (.sh (.int x.2))) = .ok (p x) ∧ (p x = true → el (((wipeR ρ own).set i (.sh (intD x.1))).set j (.sh (.int x.2))) = .ok (f x))) :
    mComp it (tTp [tNm i, tNm j]) t el own ρ = .ok (.list ((T.filter p).map f)) :=
  comp_enc T prT hit p f fun x hx => ⟨_, rfl, h x hx⟩
theorem take_fold {β γ : Type} (g : γ → β → γ) (L : List β) (a : γ) (k : Nat) (h : k < L.length) : (L.take (k + 1)).foldl g a = g ((L.take k).foldl g a) L[k] := by
  rw [List.take_succ, List.getElem?_eq_getElem h, List.foldl_append]
  rfl
theorem fold_len (pc : List Int × Int) (l : PI) : ∀ n, ((List.range n).foldl (cell1 pc) l).length ≤ l.length + n
  | 0 => Nat.le_refl _
  | n + 1 => by
    rw [List.range_succ, List.foldl_append]
    have a := fold_len pc l n
    have b := put_len ((List.range n).foldl (cell1 pc) l) (pc.1.take n) (((((List.range n).foldl (cell1 pc) l).lookup (pc.1.take n)).getD 0) + pc.2 * (if n = pc.1.length then 1 else 0))
    have c : List.foldl (cell1 pc) ((List.range n).foldl (cell1 pc) l) [n] = putT ((List.range n).foldl (cell1 pc) l) (pc.1.take n) (((((List.range n).foldl (cell1 pc) l).lookup (pc.1.take n)).getD 0) + pc.2 * (if n = pc.1.length then 1 else 0)) := rfl
    rw [c]
    omega
theorem inner (b : Sx) (hb : b = b_summed_1) {r0 : Rho} {Q : Out → Prop} {l : PI} {pc : List Int × Int} (l0 : r0.length = 6) (hl : l.length ≤ 50000) (hp : pc.1.length ≤ 100) (g1 : gt r0 1 = some (.ow (.dict (dkT l)))) (g2 : gt r0 2 = some (.sh (intD pc.1))) (g3 : gt r0 3 = some (.sh (.int pc.2)))
    (he : ∀ ρ, Fr [1, 4, 5] r0 ρ → gt ρ 1 = some (.ow (.dict (dkT (path1 l pc)))) → Q (.nx ρ)) : Wp (sFor (iCall iR1 [mBin dAdd (mCall dLen [mVar false 2]) (mC (.int 1))]) (tNm 4) b) r0 Q := by
  subst hb
  refine wp_forR0 (n := pc.1.length + 1) (fun k ρ => Fr [1, 4, 5] r0 ρ ∧ gt ρ 1 = some (.ow (.dict (dkT ((List.range k).foldl (cell1 pc) l))))) (it1 (n := pc.1.length + 1) (i := (pc.1.length : Int) + 1) (by simp [g2]) (by omega) (by omega)) ⟨.refl, g1⟩ ?_ (fun ρ ⟨F, a⟩ => he ρ F a)
  rintro k hk ρ ⟨F, f1⟩
  have lρ := F.len
  have f2 := F.get 2 (by decide)
  have f3 := F.get 3 (by decide)
  rw [l0] at lρ
  rw [g2] at f2
  rw [g3] at f3
  have fl := fold_len pc l k
  generalize hL : (List.range k).foldl (cell1 pc) l = L at f1 fl
  have es : (List.range (k + 1)).foldl (cell1 pc) l = putT L (pc.1.take k) ((L.lookup (pc.1.take k)).getD 0 + pc.2 * (if k = pc.1.length then 1 else 0)) := by
    rw [List.range_succ, List.foldl_append, hL]
    rfl
  rw [es]
  simp only [b_summed_1, wp_seq]
  have sl := sl_toI (L := pc.1) (i := (k : Int)) (by omega)
  rw [Int.toNat_natCast] at sl
  have tp := tup_int (pc.1.take k)
  refine wp_set' (d := intT (pc.1.take k)) (by simp [lρ, f2, sl, tp, -List.map_take]) ?_
  rw [sqK_nx, wp_seq]
  have gd := get_dkT (l := L) (q := pc.1.take k) (z := .int 0)
  have gv : ((L.lookup (pc.1.take k)).map PyData.int).getD (.int 0) = .int ((L.lookup (pc.1.take k)).getD 0) := by cases L.lookup (pc.1.take k) <;> rfl
  rw [gv] at gd
  have ml : dMul (.int pc.2) (.int (if k = pc.1.length then 1 else 0)) = .ok (.int (pc.2 * (if k = pc.1.length then 1 else 0))) := dMul_int (by
    split
    · exact mulOk_r (by decide) (by decide)
    · exact mulOk_r (by decide) (by decide))
  have ke : decide ((k : Int) = (pc.1.length : Int)) = decide (k = pc.1.length) := decide_eq_decide.mpr (by omega)
  refine wp_putD' (kvs := dkT L) (q := intT (pc.1.take k)) (d := .int ((L.lookup (pc.1.take k)).getD 0 + pc.2 * (if k = pc.1.length then 1 else 0))) (by simp [f1]) (by
    simp only [mBin_ap, mGet2_ap, mVar_rd, mC_ap, mCall_ap, mAll_cons, mAll_nil, gt_set]
    simp [lρ, f1, f2, f3, gd, ke]
    rw [ml]
    simp) (by simp [lρ]) kind_dkT (by simp [dkT]; omega) ?_
  rw [put_dkT, sqK_nx, wp_skip, loK_nx]
  exact ⟨((F.set (by decide)).set (by decide)).set (by decide), by simp [lρ]⟩
theorem fold_len2 : ∀ (P l : PI), (∀ x ∈ P, x.1.length ≤ 100) → (P.foldl path1 l).length ≤ l.length + 101 * P.length
  | [], l, _ => by simp
  | pc :: P, l, h => by
    have a := fold_len2 P (path1 l pc) fun x m => h x (List.mem_cons_of_mem _ m)
    have b := fold_len pc l (pc.1.length + 1)
    have c := h pc List.mem_cons_self
    rw [List.foldl_cons, List.length_cons]
    have d : (path1 l pc).length ≤ l.length + (pc.1.length + 1) := b
    omega
theorem outer (b : Sx) (hb : b = b_summed_2) {r0 : Rho} {Q : Out → Prop} {P : PI} (l0 : r0.length = 6) (hP : P.length ≤ 400) (hx : ∀ x ∈ P, x.1.length ≤ 100) (g0 : gt r0 0 = some (.sh (trD P))) (g1 : gt r0 1 = some (.ow (.dict (dkT [([], 0)]))))
    (he : ∀ ρ, Fr [1, 2, 3, 4, 5] r0 ρ → gt ρ 1 = some (.ow (.dict (dkT (smd P)))) → Q (.nx ρ)) : Wp (sFor (iSeq (mVar true 0)) (tTp [tNm 2, tNm 3]) b) r0 Q := by
  subst hb
  refine wp_forPT (T := P) (fun k ρ => Fr [1, 2, 3, 4, 5] r0 ρ ∧ gt ρ 1 = some (.ow (.dict (dkT ((P.take k).foldl path1 [([], 0)]))))) (iter_seq (by simp [g0, trD])) ⟨.refl, g1⟩ ?_ (fun ρ ⟨F, a⟩ => he ρ F (by rwa [List.take_length] at a))
  rintro k hk ρ ⟨F, f1⟩
  have lρ := F.len
  rw [l0] at lρ
  have fl := fold_len2 (P.take k) [([], 0)] fun x m => hx x (List.take_subset _ _ m)
  rw [take_fold path1 P _ k hk]
  generalize (P.take k).foldl path1 [([], 0)] = L at f1 fl
  have tl : (P.take k).length ≤ 400 := by rw [List.length_take]; omega
  have hL : L.length ≤ 50000 := by
    have : ([([], 0)] : PI).length = 1 := rfl
    omega
  simp only [b_summed_2, wp_seq]
  have F1 := (F.set (i := 2) (x := .sh (intD P[k].1)) (by decide)).set (i := 3) (x := .sh (.int P[k].2)) (by decide)
  refine inner b_summed_1 rfl (pc := P[k]) (by simp [lρ]) hL (hx _ (List.getElem_mem hk)) (by simp [f1]) (by simp [lρ]) (by simp [lρ]) fun ρ' F' e => ?_
  rw [sqK_nx, wp_skip, loK_nx]
  exact ⟨F1.trans (F'.sub (by decide)), e⟩
theorem start {ρ : Rho} : mDict [(mTup [], mC (.int 0))] ρ = .ok (.dict (dkT [([], 0)])) := mDict1 (q := intT []) (v := .int 0) rfl rfl rfl
theorem summed_sem {P : PI} (hP : P.length ≤ 400) (hx : ∀ x ∈ P, x.1.length ≤ 100) : i_summed.sem [trD P] = .ok (trD (S P)) := by
  refine sem_wp ?_
  simp only [s_summed, wp_seq]
  refine wp_own' (d := .dict (dkT [([], 0)])) start ?_
  rw [ownC_dict, sqK_nx, wp_seq]
  refine outer b_summed_2 rfl (P := P) (by simp [rho0]) hP hx (by simp [rho0]) (by simp [rho0]) fun ρ F f1 => ?_
  have lρ := F.len
  simp [rho0] at lρ
  rw [sqK_nx, wp_seq]
  refine wp_ret' (d := trD (S P)) (by
    rw [comp_enc (S P) itT (iter_seq (by simp [f1, sorted_items_dkT, sortD_smd])) (fun _ => true) (fun x => prT x) (by
      rintro ⟨q, v⟩ hx
      have e := list_intT q
      exact ⟨_, rfl, rfl, fun _ => by simp [wipeR, lρ, e]; rfl⟩)]
    rw [List.filter_eq_self.mpr fun _ _ => rfl]
    rfl) ?_
  rw [sqK_rt, outR_rt]
theorem lsummed_sem {P : PI} (hP : P.length ≤ 400) (hx : ∀ x ∈ P, x.1.length ≤ 100) : i_l_summed.sem [trD P] = .ok (trD (S P)) := by
  refine sem_wp ?_
  simp only [s_l_summed, wp_seq]
  refine wp_own' (d := .dict (dkT [([], 0)])) start ?_
  rw [ownC_dict, sqK_nx, wp_seq]
  refine outer b_l_summed_2 rfl (P := P) (by simp [rho0]) hP hx (by simp [rho0]) (by simp [rho0]) fun ρ F f1 => ?_
  have lρ := F.len
  simp [rho0] at lρ
  rw [sqK_nx, wp_seq]
  obtain ⟨v, l', hd⟩ := hd_smd P
  have srt := sorted_keys_dkT v l'
  rw [← hd] at srt
  refine wp_ret' (d := trD (S P)) (by
    rw [comp_enc (sortR ((smd P).map (·.1))) intT (iter_seq (by simp [f1, srt])) (fun _ => true) (fun q => prT (q, tot P q)) (by
      intro q hq
      have e := list_intT q
      have k := mem_smd.mp ((sortR_perm _).mem_iff.mp hq)
      have lk := look_smd P q
      rw [if_pos k] at lk
      have ix := ix_dkT lk
      exact ⟨_, rfl, rfl, fun _ => by simp [wipeR, lρ, f1, e, ix]; rfl⟩)]
    rw [List.filter_eq_self.mpr fun _ _ => rfl]
    unfold trD S
    rw [List.map_map]
    rfl) ?_
  rw [sqK_rt, outR_rt]
end K75

/-! k75: is_path, check_tree, whole, joined, difference. -/
namespace K75
open PySem L2 Sm Tr
def isP (p : List Int) : Bool := decide (p.length ≤ 8) && p.all fun n => decide (0 ≤ n) && decide (n ≤ 9)
theorem is_path_sem (p : List Int) : i_is_path.sem [intD p] = .ok (.bool (isP p)) := by
  refine sem_wp ?_
  simp only [s_is_path, wp_seq]
  have e2 : mCall dAll [mComp (iSeq (mVar false 0)) (tNm 1) (fun _ => .ok true) (mChain dLe dLe (mC (.int 0)) (mVar false 1) (mC (.int 9))) [1]] (rho0 2 ([intD p].map .sh)) = .ok (.bool (p.all fun n => decide (0 ≤ n) && decide (n ≤ 9))) := by
    have q : (p.map fun n => PyData.bool (decide (0 ≤ n) && decide (n ≤ 9))) = (p.map fun n => decide (0 ≤ n) && decide (n ≤ 9)).map .bool := by rw [List.map_map]; rfl
    rw [mCall_ap, mAll_cons, comp_all p .int (iter_seq (by simp [rho0, intD])) (fun n => .bool (decide (0 ≤ n) && decide (n ≤ 9))) (by
      intro n hn
      by_cases c : 0 ≤ n <;> simp [wipeR, rho0, c]), Rs.bind_ok, mAll_nil, Rs.bind_ok, Rs.bind_ok, q, all_bools, List.all_map]
    rfl
  refine wp_ret' (d := .bool (isP p)) (by
    rw [mAnd_ap]
    unfold isP
    have cl : decide ((p.length : Int) ≤ 8) = decide (p.length ≤ 8) := decide_eq_decide.mpr (by omega)
    have e1 : mBin dLe (mCall dLen [mVar false 0]) (mC (.int 8)) (rho0 2 ([intD p].map .sh)) = .ok (.bool (decide (p.length ≤ 8))) := by simp [rho0, cl]
    rw [e1, Rs.bind_ok, dTru_bool, Rs.bind_ok]
    by_cases c : p.length ≤ 8
    · rw [decide_eq_true c, if_pos rfl, e2]
      rfl
    · rw [decide_eq_false c, if_neg (by decide)]
      rfl) ?_
  rw [sqK_rt, outR_rt]
def pth (T : PI) (k : Nat) : List Int := (T[k]?.getD ([], 0)).1
def gd (T : PI) (k : Nat) : Bool := isP (pth T k) && (decide (0 ≤ (T[k]?.getD ([], 0)).2) && (decide (k = 0) || decide (pth T (k - 1) < pth T k)))
def fb (T : PI) : Option Nat := (List.range T.length).find? fun k => !gd T k
def pr (T : PI) (k : Nat) : Bool := decide ((pth T k).dropLast ∈ T.map (·.1))
def fp (T : PI) : Option Nat := (List.range T.length).find? fun k => !pr T k
def chk (T : PI) : Rs PyData := if 60 < T.length then .exc "TooMany" (.int T.length) else match fb T with
  | some k => .exc "BadPath" (.int k)
  | none => if ([] : List Int) ∈ T.map (·.1) then (match fp T with
    | some k => .exc "BadPath" (.int k)
    | none => .ok .none) else .exc "BadPath" (.int (-1))
theorem find_first {p : Nat → Bool} {n k : Nat} (hk : k < n) (h1 : p k = true) (h2 : ∀ j, j < k → p j = false) : (List.range n).find? p = some k := by
  rw [List.find?_range_eq_some]
  exact ⟨h1, List.mem_range.mpr hk, fun j hj => by rw [h2 j hj]; rfl⟩
theorem find_none {p : Nat → Bool} {n : Nat} (h2 : ∀ j, j < n → p j = false) : (List.range n).find? p = none := by
  rw [List.find?_eq_none]
  intro j hj
  rw [h2 j (List.mem_range.mp hj)]
  decide
theorem at_pr {T : PI} {k : Nat} (h : k < T.length) : T[k]?.getD ([], 0) = T[k] := by rw [List.getElem?_eq_getElem h]; rfl
theorem wp_forNT {u v w : Nat} {ms : List M} {b : Sx} {ρ : Rho} {Q : Out → Prop} {l : PI} (I : Nat → Rho → Prop) (hit : mAll ms ρ = .ok [trD l]) (h0 : I 0 ρ)
    (hs : ∀ k (h : k < l.length) ρ, I k ρ → Wp b (((ρ.set u (.sh (.int (k : Nat)))).set v (.sh (intD l[k].1))).set w (.sh (.int l[k].2))) (loK (I (k + 1)) Q)) (he : ∀ ρ, I l.length ρ → Q (.nx ρ)) : Wp (sFor (iCall iEnumD ms) (tTp [tNm u, tTp [tNm v, tNm w]]) b) ρ Q :=
  wp_for I (iterE hit) h0 (fun k x e ρ p => by
    rw [List.getElem?_map, List.getElem?_zipIdx, List.getElem?_map] at e
    have hk : k < l.length := by
      cases Nat.lt_or_ge k l.length with
      | inl h => exact h
      | inr h => rw [List.getElem?_eq_none h] at e; cases e
    rw [List.getElem?_eq_getElem hk] at e
    cases e
    refine ⟨_, rfl, ?_⟩
    rw [show ((0 + k : Nat) : Int) = (k : Int) by omega]
    exact hs k hk ρ p) (fun ρ p => he ρ (by rwa [List.length_map, List.length_zipIdx, List.length_map] at p))
def pathsD (T : PI) : PyData := .list ((T.map (·.1)).map intD)
theorem check_sem (T : PI) : i_check_tree.sem [trD T] = chk T := by
  refine sem_wp ?_
  simp only [s_check_tree, wp_seq]
  unfold chk
  by_cases c : 60 < T.length
  · rw [if_pos c]
    have c' : (60 : Int) < T.length := by omega
    refine wp_tt (by simp [rho0, lenT]; omega) ?_
    rw [wp_seq]
    simp [rho0, lenT]
  rw [if_neg c]
  refine wp_ff (by simp [rho0, lenT]; omega) ?_
  rw [wp_skip, sqK_nx, wp_seq]
  refine wp_forNT (l := T) (fun k ρ => Fr [1, 2, 3] [.sh (trD T), .un, .un, .un, .un, .un] ρ ∧ ∀ j, j < k → gd T j = true) (by simp [rho0]) ⟨by simpa [rho0] using Fr.refl, fun j h => absurd h (Nat.not_lt_zero j)⟩ ?_ ?_
  · rintro k hk ρ ⟨F, iv⟩
    have lρ := F.len
    have f0 := F.get 0 (by decide)
    simp at lρ f0
    simp only [b_check_tree_1, wp_seq]
    have F1 := ((F.set (i := 1) (x := .sh (.int (k : Nat))) (by decide)).set (i := 2) (x := .sh (intD T[k].1)) (by decide)).set (i := 3) (x := .sh (.int T[k].2)) (by decide)
    have ip := is_path_sem T[k].1
    have pk : pth T k = T[k].1 := by unfold pth; rw [at_pr hk]
    have tst : tOr (tNot (tVal (mCall i_is_path.sem [mVar true 2]))) (tOr (tBl (mBin dLt (mVar false 3) (mC (.int 0)))) (tAnd (tBl (mBin dGt (mVar false 1) (mC (.int 0)))) (tBl (mBin dGe (mBin dIx (mBin dIx (mVar false 0) (mBin dSub (mVar false 1) (mC (.int 1)))) (mC (.int 0))) (mVar false 2))))) (((ρ.set 1 (.sh (.int (k : Nat)))).set 2 (.sh (intD T[k].1))).set 3 (.sh (.int T[k].2))) = .ok (!gd T k) := by
      unfold gd
      rw [pk, at_pr hk]
      by_cases a : isP T[k].1 = true
      · by_cases b : 0 ≤ T[k].2
        · by_cases z : k = 0
          · subst z
            have b' : ¬ T[0].2 < 0 := by omega
            simp [lρ, f0, ip, a, b, b']
          · have hk1 : k - 1 < T.length := by omega
            have ix : dIx (trD T) (.int ((k : Int) - 1)) = .ok (prT T[k - 1]) := by
              have := ix_enc (enc := prT) (l := T) (k := k - 1) hk1
              rw [show (((k - 1 : Nat) : Nat) : Int) = (k : Int) - 1 by omega] at this
              exact this
            have p1 : pth T (k - 1) = T[k - 1].1 := by unfold pth; rw [at_pr hk1]
            have b' : ¬ T[k].2 < 0 := by omega
            have z' : 0 < k := by omega
            rw [p1]
            simp [lρ, f0, ip, a, b, b', z, z', ix, pt0]
        · have b' : T[k].2 < 0 := by omega
          simp [lρ, f0, ip, a, b, b']
      · have a' : isP T[k].1 = false := by simpa using a
        rw [a'] at ip
        simp [lρ, ip, a']
    cases g : gd T k with
    | true =>
      rw [g] at tst
      refine wp_ff tst ?_
      rw [wp_skip, sqK_nx, wp_skip, loK_nx]
      refine ⟨F1, fun j hj => ?_⟩
      by_cases e : j = k
      · rw [e]; exact g
      · exact iv j (by omega)
    | false =>
      rw [g] at tst
      refine wp_tt tst ?_
      rw [wp_seq]
      have e : fb T = some k := find_first hk (by rw [g]; rfl) fun j hj => by rw [iv j hj]; rfl
      rw [e]
      simp [lρ]
  · rintro ρ ⟨F, iv⟩
    have lρ := F.len
    have f0 := F.get 0 (by decide)
    simp at lρ f0
    have e : fb T = none := find_none fun j hj => by rw [iv j hj]; rfl
    rw [e]
    rw [sqK_nx, wp_seq]
    refine wp_set' (d := pathsD T) (by
      rw [comp_PT T (iter_seq (by simp [f0, trD])) (fun _ => true) (fun x => intD x.1) (by
        intro x hx
        exact ⟨rfl, fun _ => by simp [wipeR, lρ]⟩)]
      rw [List.filter_eq_self.mpr fun _ _ => rfl]
      unfold pathsD
      rw [List.map_map]
      rfl) ?_
    rw [sqK_nx, wp_seq]
    have F2 : Fr [1, 2, 3, 4] [.sh (trD T), .un, .un, .un, .un, .un] (ρ.set 4 (.sh (pathsD T))) := (F.sub (by decide)).set (by decide)
    have inn : dIn true (intD []) (pathsD T) = .ok (.bool (if true = true then !decide ([] ∈ T.map (·.1)) else decide ([] ∈ T.map (·.1)))) := by
      have z := in_rows true [] (T.map (·.1))
      exact z
    have ei : intD [] = .list [] := rfl
    rw [ei] at inn
    dsimp only
    by_cases z : ([] : List Int) ∈ T.map (·.1)
    rotate_left
    · rw [if_neg z]
      rw [decide_eq_false z] at inn
      refine wp_tt (by simp [lρ, inn]) ?_
      rw [wp_seq]
      simp
    rw [if_pos z]
    rw [decide_eq_true z] at inn
    refine wp_ff (by simp [lρ, inn]) ?_
    rw [wp_skip, sqK_nx, wp_seq]
    have ln : (T.map (·.1)).length = T.length := List.length_map ..
    refine wp_forN (l := T.map (·.1)) (enc := intD) (fun k ρ => ρ.length = 6 ∧ gt ρ 4 = some (.sh (pathsD T)) ∧ ∀ j, j < k → pr T j = true) (by simp [lρ, pathsD]) ⟨by simp [lρ], by simp [lρ], fun j h => absurd h (Nat.not_lt_zero j)⟩ ?_ ?_
    · rintro k hk ρ2 ⟨l2, f4, jv⟩
      rw [ln] at hk
      simp only [b_check_tree_2, wp_seq]
      have ek : (T.map (·.1))[k]'(by rw [ln]; exact hk) = pth T k := by
        rw [List.getElem_map]
        unfold pth
        rw [at_pr hk]
      rw [ek]
      have bl : dSl (intD (pth T k)) none (some (-1)) = .ok (intD (pth T k).dropLast) := by
        unfold intD
        rw [sl_butlast, List.map_dropLast]
      have inp : dIn true (intD (pth T k).dropLast) (pathsD T) = .ok (.bool (!pr T k)) := by
        have z := in_rows true (pth T k).dropLast (T.map (·.1))
        exact z
      have tst : tBl (mBin (dIn true) (mSl (mVar false 2) none (some (mUn dNeg (mC (.int 1))))) (mVar false 4)) ((ρ2.set 1 (.sh (.int (k : Nat)))).set 2 (.sh (intD (pth T k)))) = .ok (!pr T k) := by
        simp [l2, f4, bl, inp]
      cases g : pr T k with
      | true =>
        rw [g] at tst
        refine wp_ff tst ?_
        rw [wp_skip, sqK_nx, wp_skip, loK_nx]
        refine ⟨by simp [l2], by simp [f4], fun j hj => ?_⟩
        by_cases e : j = k
        · rw [e]; exact g
        · exact jv j (by omega)
      | false =>
        rw [g] at tst
        refine wp_tt tst ?_
        rw [wp_seq]
        have e : fp T = some k := find_first hk (by rw [g]; rfl) fun j hj => by rw [jv j hj]; rfl
        rw [e]
        simp [l2]
    · rintro ρ2 ⟨l2, f4, jv⟩
      rw [ln] at jv
      have e : fp T = none := find_none fun j hj => by rw [jv j hj]; rfl
      rw [e, sqK_nx, wp_skip]
      simp
end K75

/-! k75: whole, joined, difference. -/
namespace K75
open PySem L2 Sm Tr
theorem chk_cases (T : PI) : chk T = .ok .none ∨ (∃ i : Int, chk T = .exc "TooMany" (.int i)) ∨ ∃ i : Int, chk T = .exc "BadPath" (.int i) := by
  unfold chk
  split
  · exact .inr (.inl ⟨_, rfl⟩)
  · split
    · exact .inr (.inr ⟨_, rfl⟩)
    · split
      · split
        · exact .inr (.inr ⟨_, rfl⟩)
        · exact .inl rfl
      · exact .inr (.inr ⟨_, rfl⟩)
theorem gd_of {T : PI} {k : Nat} (hk : k < T.length) (h1 : T[k].1.length ≤ 8) (h2 : ∀ n ∈ T[k].1, 0 ≤ n ∧ n ≤ 9) (h3 : 0 ≤ T[k].2) (h4 : ∀ h : 0 < k, T[k - 1].1 < T[k].1) : gd T k = true := by
  unfold gd pth isP
  rw [at_pr hk]
  have a : (T[k].1.all fun n => decide (0 ≤ n) && decide (n ≤ 9)) = true := by
    rw [List.all_eq_true]
    intro n hn
    simp [h2 n hn]
  rw [a, decide_eq_true h1, decide_eq_true h3]
  by_cases z : k = 0
  · simp [z]
  · have q := h4 (by omega)
    rw [at_pr (show k - 1 < T.length by omega)]
    simp [q]
theorem asc_at {T : PI} (h : Asc T) {i j : Nat} (hj : j < T.length) (lt : i < j) : T[i].1 < T[j].1 := List.pairwise_iff_getElem.mp h i j (by omega) hj lt
theorem vt_gd {T : PI} (v : VT T) {k : Nat} (hk : k < T.length) : K75.gd T k = true := by
  have o := v.ok _ (List.getElem_mem hk)
  exact gd_of hk o.1 o.2.1 o.2.2 fun h => asc_at v.asc hk (by omega)
theorem fb_none {T : PI} (h : ∀ k, k < T.length → gd T k = true) : fb T = none := find_none fun j hj => by rw [h j hj]; rfl
theorem vt_pr {T : PI} (v : VT T) {k : Nat} (hk : k < T.length) : K75.pr T k = true := by
  unfold K75.pr pth
  rw [at_pr hk]
  exact decide_eq_true (v.par _ (List.mem_map.mpr ⟨_, List.getElem_mem hk, rfl⟩))
theorem chk_ok {T : PI} (v : VT T) : chk T = .ok .none := by
  unfold chk
  have l := v.len
  have e : fp T = none := find_none fun j hj => by rw [vt_pr v hj]; rfl
  rw [if_neg (by omega), fb_none fun k hk => vt_gd v hk]
  dsimp only
  rw [if_pos v.root, e]
theorem chk_bad {T : PI} {k : Nat} (l : T.length ≤ 60) (hk : k < T.length) (h : gd T k = false) (h2 : ∀ j, j < k → gd T j = true) : chk T = .exc "BadPath" (.int k) := by
  unfold chk
  have e : fb T = some k := find_first hk (by rw [h]; rfl) fun j hj => by rw [h2 j hj]; rfl
  rw [if_neg (by omega), e]
theorem chk_bare {T : PI} (l : T.length ≤ 60) (h : ∀ k, k < T.length → gd T k = true) (n : [] ∉ T.map (·.1)) : chk T = .exc "BadPath" (.int (-1)) := by
  unfold chk
  rw [if_neg (by omega), fb_none h]
  dsimp only
  rw [if_neg n]
theorem chk_par {T : PI} {k : Nat} (l : T.length ≤ 60) (h : ∀ k, k < T.length → gd T k = true) (n : [] ∈ T.map (·.1)) (hk : k < T.length) (p : pr T k = false) (p2 : ∀ j, j < k → pr T j = true) : chk T = .exc "BadPath" (.int k) := by
  unfold chk
  have e : fp T = some k := find_first hk (by rw [p]; rfl) fun j hj => by rw [p2 j hj]; rfl
  rw [if_neg (by omega), fb_none h]
  dsimp only
  rw [if_pos n, e]
theorem chk_many {T : PI} (l : 60 < T.length) : chk T = .exc "TooMany" (.int T.length) := by
  unfold chk
  rw [if_pos l]
def wh (T : PI) (p : List Int) : Int := ((T.filter fun x => decide (x.1.take p.length = p)).map (·.2)).sum
theorem wh_comp {T : PI} {p : List Int} {ρ : Rho} {own : List Nat} {u v i j : Nat} (hu : gt (wipeR ρ own) j = some (.sh (intD p))) (hT : gt ρ i = some (.sh (trD T))) (lu : u < (wipeR ρ own).length) (lv : v < (wipeR ρ own).length) (uj : u ≠ j) (vj : v ≠ j) (uv : u ≠ v) :
    mCall dSum [mComp (iSeq (mVar false i)) (tTp [tNm u, tNm v]) (tBl (mBin dEq (mSl (mVar false u) none (some (mCall dLen [mVar false j]))) (mVar false j))) (mVar true v) own] ρ = .ok (.int (wh T p)) := by
  rw [mCall_ap, mAll_cons, comp_PT T (iter_seq (by simp [hT, trD])) (fun x => decide (x.1.take p.length = p)) (fun x => .int x.2) (by
    intro x hx
    have sl := sl_toI (L := x.1) (i := (p.length : Int)) (by omega)
    rw [Int.toNat_natCast] at sl
    refine ⟨?_, fun _ => by simp [lv]⟩
    simp [lu, lv, uj, vj, hu, uv, Ne.symm uv, sl, -List.map_take])]
  have e : PyData.list ((T.filter fun x => decide (x.1.take p.length = p)).map fun x => PyData.int x.2) = intD ((T.filter fun x => decide (x.1.take p.length = p)).map (·.2)) := by simp [intD]
  have q : dSum [intD ((T.filter fun x => decide (x.1.take p.length = p)).map (·.2))] = .ok (.int (wh T p)) := sum_ints _
  rw [e, Rs.bind_ok, mAll_nil, Rs.bind_ok, Rs.bind_ok, q]
theorem whole_of_sem (T : PI) (p : List Int) : i_whole_of.sem [trD T, intD p] = .ok (.int (wh T p)) := by
  refine sem_wp ?_
  simp only [s_whole_of, wp_seq]
  refine wp_ret' (d := .int (wh T p)) (wh_comp (by simp [rho0, wipeR]) (by simp [rho0]) (by simp [rho0, wipeR]) (by simp [rho0, wipeR]) (by decide) (by decide) (by decide)) ?_
  rw [sqK_rt, outR_rt]
end K75

/-! k75: the drawn tree; the faults. -/
namespace K75
open PySem L2 Sm Tr
theorem mx' (L : List Int) (k : Int) {many : Int} (h : 0 < many) : i_l_mix.sem [intD L, .int k, .int many] = .ok (.int (mixN L k many : Nat)) := mixN_sem L k h
theorem sem_ex {s : Sx} {n ar : Nat} {fr : Bool} {ds : List PyData} (p : Rs PyData → Prop) (h : Wp s (rho0 n (ds.map .sh)) fun o => p (outR o)) : p ((⟨runS s n, fr, ar⟩ : FnI).sem ds) := by
  unfold Wp at h
  exact h
/-- the drawn paths so far -/
structure Ps (R : List (List Int)) (k : Nat) : Prop where
  nd : R.Nodup
  root : [] ∈ R
  ok : ∀ p ∈ R, p.length ≤ 8 ∧ (∀ n ∈ p, 0 ≤ n ∧ n ≤ 9)
  par : ∀ p ∈ R, p.dropLast ∈ R
  len : R.length ≤ k + 1
structure Dr (T : PI) (n : Nat) : Prop extends VT T where
  sm : ∀ x ∈ T, x.2 ≤ 1000000
  ln : T.length ≤ n
theorem ltree_sem {D : List Int} {first : Int} {count : Nat} {names most : Int} (hc : count ≤ 59) (n1 : 1 ≤ names) (n10 : names ≤ 10) (m1 : 1 ≤ most) (m2 : most ≤ 1000001) : ∃ T, Dr T (count + 1) ∧ i_l_tree.sem [intD D, .int first, .int (count : Nat), .int names, .int most] = .ok (trD T) := by
  refine sem_ex (fun r => ∃ T, Dr T (count + 1) ∧ r = .ok (trD T)) ?_
  simp only [s_l_tree, wp_seq]
  refine wp_own' (d := .list (([[]] : List (List Int)).map intD)) (by simp; rfl) ?_
  rw [ownC_list, sqK_nx, wp_seq]
  generalize hr : List.set _ 5 _ = r0
  have l0 : r0.length = 10 := by rw [← hr]; simp [rho0]
  have g0 : gt r0 0 = some (.sh (intD D)) := by rw [← hr]; simp [rho0]
  have g1 : gt r0 1 = some (.sh (.int first)) := by rw [← hr]; simp [rho0]
  have g2 : gt r0 2 = some (.sh (.int (count : Nat))) := by rw [← hr]; simp [rho0]
  have g3 : gt r0 3 = some (.sh (.int names)) := by rw [← hr]; simp [rho0]
  have g4 : gt r0 4 = some (.sh (.int most)) := by rw [← hr]; simp [rho0]
  have g5 : gt r0 5 = some (.ow (.list (([[]] : List (List Int)).map intD))) := by rw [← hr]; simp [rho0]
  clear hr
  refine wp_forR0 (n := count) (fun k ρ => Fr [5, 6, 7, 8] r0 ρ ∧ ∃ R : List (List Int), Ps R k ∧ gt ρ 5 = some (.ow (.list (R.map intD)))) (it1 (n := count) (by simp [g2]) rfl (by omega)) ⟨.refl, [[]], ⟨by simp, by simp, by simp, by simp, by simp⟩, g5⟩ ?_ ?_
  · rintro k hk ρ ⟨F, R, ps, f5⟩
    have lρ := F.len
    have f0 := F.get 0 (by decide)
    have f1 := F.get 1 (by decide)
    have f3 := F.get 3 (by decide)
    rw [l0] at lρ
    rw [g0] at f0
    rw [g1] at f1
    rw [g3] at f3
    have pos : 0 < R.length := List.length_pos_of_mem ps.root
    have mul3 : dMul (.int 3) (.int (k : Nat)) = .ok (.int (3 * (k : Int))) := dMul_int (mulOk_l (by decide) (by decide))
    simp only [b_l_tree_1, wp_seq]
    have mm := mx' D (first + 3 * (k : Int)) (many := (R.length : Int)) (by omega)
    have ml := mixN_lt D (first + 3 * (k : Int)) (many := (R.length : Int)) (by omega)
    generalize mixN D (first + 3 * (k : Int)) (R.length : Int) = p at mm ml
    have hp : p < R.length := by omega
    have ip := ix_enc (enc := intD) (l := R) (k := p) hp
    refine wp_set' (d := intD R[p]) (by simp [lρ, f0, f1, f5, mul3, mm, ip]) ?_
    rw [sqK_nx, wp_seq]
    have nn := mx' D (first + 3 * (k : Int) + 1) (many := names) (by omega)
    have nl := mixN_lt D (first + 3 * (k : Int) + 1) (many := names) (by omega)
    generalize mixN D (first + 3 * (k : Int) + 1) names = nm at nn nl
    have base := ps.ok _ (List.getElem_mem hp)
    have ap := app_int1 (L := R[p]) (i := (nm : Int)) (by omega)
    refine wp_set' (d := intD (R[p] ++ [(nm : Int)])) (by simp [lρ, f0, f1, f3, mul3, nn, ap]) ?_
    rw [sqK_nx, wp_seq]
    have F1 := ((F.set (i := 6) (x := .sh (.int (k : Nat))) (by decide)).set (i := 7) (x := .sh (intD R[p])) (by decide)).set (i := 8) (x := .sh (intD (R[p] ++ [(nm : Int)]))) (by decide)
    have inn := in_rows true (R[p] ++ [(nm : Int)]) R
    have ll : (R[p] ++ [(nm : Int)]).length = R[p].length + 1 := by simp
    have tst : tAnd (tBl (mBin dLt (mCall dLen [mVar false 8]) (mC (.int 9)))) (tBl (mBin (dIn true) (mVar false 8) (mVar false 5))) (((ρ.set 6 (.sh (.int (k : Nat)))).set 7 (.sh (intD R[p]))).set 8 (.sh (intD (R[p] ++ [(nm : Int)])))) = .ok (decide ((R[p] ++ [(nm : Int)]).length < 9) && !decide ((R[p] ++ [(nm : Int)]) ∈ R)) := by
      have cl : decide (((R[p].length : Int) + 1) < 9) = decide (R[p].length + 1 < 9) := decide_eq_decide.mpr (by omega)
      rw [ll]
      by_cases c : R[p].length + 1 < 9
      · simp [lρ, f5, cl, c, inn]
      · simp [lρ, f5, cl, c]
    cases cs : (decide ((R[p] ++ [(nm : Int)]).length < 9) && !decide ((R[p] ++ [(nm : Int)]) ∈ R)) with
    | false =>
      rw [cs] at tst
      refine wp_ff tst ?_
      rw [wp_skip, sqK_nx, wp_skip, loK_nx]
      exact ⟨F1, R, ⟨ps.nd, ps.root, ps.ok, ps.par, by have := ps.len; omega⟩, by simp [f5]⟩
    | true =>
      rw [cs] at tst
      rw [Bool.and_eq_true, decide_eq_true_eq, Bool.not_eq_true', decide_eq_false_iff_not] at cs
      have rl := ps.len
      refine wp_mt (fun ρ' => Fr [5, 6, 7, 8] r0 ρ' ∧ gt ρ' 5 = some (.ow (.list ((R ++ [R[p] ++ [(nm : Int)]]).map intD)))) ?_ (fun ρ' z => ?_)
      · refine wp_tt tst ?_
        rw [wp_seq]
        refine wp_app' (ds := R.map intD) (d := intD (R[p] ++ [(nm : Int)])) (by simp [f5]) (by simp [lρ]) (by simp; omega) ?_
        rw [sqK_nx, wp_skip, mtK_nx]
        exact ⟨F1.set (by decide), by simp [lρ]⟩
      · rw [sqK_nx, wp_skip, loK_nx]
        refine ⟨z.1, R ++ [R[p] ++ [(nm : Int)]], ⟨?_, List.mem_append_left _ ps.root, fun q hq => ?_, fun q hq => ?_, by simp; omega⟩, z.2⟩
        · rw [List.nodup_append]
          exact ⟨ps.nd, by simp, fun a ha b hb e => cs.2 (by
            have hb' : b = R[p] ++ [(nm : Int)] := by simpa using hb
            rw [← hb', ← e]
            exact ha)⟩
        · rcases List.mem_append.mp hq with y | y
          · exact ps.ok q y
          · rw [List.mem_singleton.mp y]
            refine ⟨by omega, fun n hn => ?_⟩
            rcases List.mem_append.mp hn with u | u
            · exact base.2 n u
            · rw [List.mem_singleton.mp u]
              omega
        · rcases List.mem_append.mp hq with y | y
          · exact List.mem_append_left _ (ps.par q y)
          · rw [List.mem_singleton.mp y, List.dropLast_concat]
            exact List.mem_append_left _ (List.getElem_mem hp)
  · rintro ρ ⟨F, R, ps, f5⟩
    have lρ := F.len
    have f0 := F.get 0 (by decide)
    have f1 := F.get 1 (by decide)
    have f4 := F.get 4 (by decide)
    rw [l0] at lρ
    rw [g0] at f0
    rw [g1] at f1
    rw [g4] at f4
    rw [sqK_nx, wp_seq]
    refine wp_own' (d := trD []) (by simp [trD]) ?_
    have ow : ∀ M : PI, ownC (trD M) = .ow (trD M) := fun M => ownC_list
    rw [ow, sqK_nx, wp_seq]
    have sp := sortR_perm R
    have sl := sp.length_eq
    have rl := ps.len
    refine wp_forE (l := sortR R) (enc := intD) (fun k ρ' => Fr [8, 9] ρ ρ' ∧ ∃ T : PI, T.map (·.1) = (sortR R).take k ∧ (∀ x ∈ T, 0 ≤ x.2 ∧ x.2 ≤ 1000000) ∧ gt ρ' 9 = some (.ow (trD T))) (iter_seq (by simp [lρ, f5])) ⟨Fr.refl.set (by decide), [], rfl, (fun x h => by cases h), by simp [lρ]⟩ ?_ ?_
    · rintro k hk ρ2 ⟨F2, T, eT, sm, f9⟩
      have l2 := F2.len
      have q0 := F2.get 0 (by decide)
      have q1 := F2.get 1 (by decide)
      have q4 := F2.get 4 (by decide)
      rw [lρ] at l2
      rw [f0] at q0
      rw [f1] at q1
      rw [f4] at q4
      have tl : T.length = k := by
        have := congrArg List.length eT
        rw [List.length_map, List.length_take] at this
        omega
      simp only [b_l_tree_2, wp_seq]
      have mm := mx' D (first + 200 + (T.length : Int)) (many := most) (by omega)
      have ml := mixN_lt D (first + 200 + (T.length : Int)) (many := most) (by omega)
      have ln := lenT T
      refine wp_app' (ds := T.map prT) (d := prT ((sortR R)[k], (mixN D (first + 200 + (T.length : Int)) most : Int))) (by simp [f9, trD]) (by simp [l2, q0, q1, q4, f9, ln, mm]; rfl) (by simp; omega) ?_
      rw [sqK_nx, wp_skip, loK_nx]
      refine ⟨(F2.set (by decide)).set (by decide), T ++ [((sortR R)[k], (mixN D (first + 200 + (T.length : Int)) most : Int))], ?_, fun x hx => ?_, by simp [l2, trD]⟩
      · rw [List.map_append, eT, List.take_succ, List.getElem?_eq_getElem hk]
        rfl
      · rcases List.mem_append.mp hx with z | z
        · exact sm x z
        · rw [List.mem_singleton.mp z]
          show 0 ≤ (mixN D (first + 200 + (T.length : Int)) most : Int) ∧ (mixN D (first + 200 + (T.length : Int)) most : Int) ≤ 1000000
          omega
    · rintro ρ2 ⟨F2, T, eT, sm, f9⟩
      rw [List.take_length] at eT
      rw [sqK_nx]
      simp [f9]
      have tl : T.length = R.length := by
        have := congrArg List.length eT
        rw [List.length_map] at this
        omega
      have memT : ∀ q, q ∈ T.map (·.1) ↔ q ∈ R := fun q => by rw [eT]; exact sp.mem_iff
      refine ⟨T, ⟨⟨by omega, fun x hx => ?_, ?_, (memT []).mpr ps.root, fun q hq => (memT _).mpr (ps.par q ((memT q).mp hq))⟩, fun x hx => (sm x hx).2, by omega⟩, rfl⟩
      · have o := ps.ok x.1 ((memT x.1).mp (List.mem_map.mpr ⟨x, hx, rfl⟩))
        exact ⟨o.1, o.2, (sm x hx).1⟩
      · have lt := sortR_lt ps.nd
        rw [← eT, List.pairwise_map] at lt
        exact lt
end K75

/-! k75: sizes, reprs, equality. -/
namespace K75
open PySem L2 Sm Tr
structure Sml (T : PI) : Prop where
  ok : ∀ x ∈ T, x.1.length ≤ 20 ∧ (∀ n ∈ x.1, n.natAbs < 10 ^ 12) ∧ x.2.natAbs < 10 ^ 12
  len : T.length ≤ 200
theorem okD_int {i : Int} (h : i.natAbs < 10 ^ 12) : okD (.int i) = true := decide_eq_true h
theorem okD_prT {x : List Int × Int} (h1 : ∀ n ∈ x.1, n.natAbs < 10 ^ 12) (h2 : x.2.natAbs < 10 ^ 12) : okD (prT x) = true := okDs_all (ds := [intD x.1, .int x.2]) fun d hd => by
  simp at hd
  rcases hd with rfl | rfl
  · exact okD_ints h1
  · exact okD_int h2
theorem okD_trD {T : PI} (h : Sml T) : okD (trD T) = true := okDs_all fun d hd => by
  obtain ⟨x, hx, rfl⟩ := List.mem_map.mp hd
  exact okD_prT (h.ok x hx).2.1 (h.ok x hx).2.2
theorem depth_prT (x : List Int × Int) : (prT x).depth ≤ 3 := by
  have q := depth_ints x.1
  have q : PyData.depthAll [intD x.1, .int x.2] ≤ 2 := depthAll_le fun d hd => by
    simp at hd
    rcases hd with rfl | rfl
    · show PyData.depthAll (x.1.map .int) + 1 ≤ 2
      omega
    · exact Nat.zero_le _
  show PyData.depthAll [intD x.1, .int x.2] + 1 ≤ 3
  omega
theorem depth_trD (T : PI) : (trD T).depth ≤ 4 := by
  have q : PyData.depthAll (T.map prT) ≤ 3 := depthAll_le fun d hd => by
    obtain ⟨x, _, rfl⟩ := List.mem_map.mp hd
    exact depth_prT x
  show PyData.depthAll (T.map prT) + 1 ≤ 4
  omega
theorem bulk_prT {x : List Int × Int} (h : x.1.length ≤ 20) : (prT x).bulk ≤ 42 := by
  have q := bulk_ints x.1
  have q2 : PyData.bulkAll [intD x.1, .int x.2] ≤ (20 + 1) * 2 := bulkAll_le (ds := [intD x.1, .int x.2]) fun d hd => by
    simp at hd
    rcases hd with rfl | rfl
    · show PyData.bulkAll (x.1.map .int) ≤ 20
      omega
    · exact Nat.zero_le _
  exact q2
theorem bulk_trD {T : PI} (h : Sml T) : (trD T).bulk ≤ 8600 := by
  have q : PyData.bulkAll (T.map prT) ≤ (42 + 1) * (T.map prT).length := bulkAll_le fun d hd => by
    obtain ⟨x, hx, rfl⟩ := List.mem_map.mp hd
    exact bulk_prT (h.ok x hx).1
  rw [List.length_map] at q
  have := h.len
  show PyData.bulkAll (T.map prT) ≤ 8600
  omega
theorem Sml.show {T : PI} (h : Sml T) : dRepr [trD T] = .ok (.str (trD T).shown) := by
  have e : (8600 : Nat) ≤ 2 ^ 20 := by decide
  exact repr_of (shows_of (okD_trD h) (Nat.le_trans (depth_trD T) (by decide)) (Nat.le_trans (bulk_trD h) e))
theorem Dr.sml {T : PI} {n : Nat} (d : Dr T n) : Sml T := by
  have e : (1000001 : Nat) < 10 ^ 12 := by decide
  refine ⟨fun x hx => ?_, by have := d.len; omega⟩
  have a := d.ok x hx
  have b := d.sm x hx
  exact ⟨by omega, fun n hn => by have := a.2.1 n hn; omega, by omega⟩
theorem tot_abs {P : PI} {M : Nat} (h : ∀ x ∈ P, x.2.natAbs ≤ M) (q : List Int) : (tot P q).natAbs ≤ M * P.length := by
  induction P with
  | nil => exact Nat.zero_le _
  | cons x P ih =>
    have a := ih fun y m => h y (List.mem_cons_of_mem _ m)
    have b := h x List.mem_cons_self
    rw [tot_cons, List.length_cons, Nat.mul_succ]
    split <;> omega
theorem S_sml {P : PI} (h : ∀ x ∈ P, x.1.length ≤ 8 ∧ (∀ n ∈ x.1, 0 ≤ n ∧ n ≤ 9) ∧ x.2.natAbs ≤ 100000000) (hP : P.length ≤ 400) (l : (S P).length ≤ 200) : Sml (S P) := by
  have e : (100000000 * 400 : Nat) < 10 ^ 12 := by decide
  have e9 : (10 : Nat) < 10 ^ 12 := by decide
  refine ⟨fun x hx => ?_, l⟩
  obtain ⟨a, b⟩ := mem_S.mp hx
  have t := tot_abs (P := P) (fun y m => (h y m).2.2) x.1
  have t2 : 100000000 * P.length ≤ 100000000 * 400 := Nat.mul_le_mul_left _ hP
  refine ⟨?_, fun n hn => ?_, by rw [b]; omega⟩
  · rcases a with z | ⟨pc, m, z⟩
    · rw [z]; simp
    · have := (h pc m).1
      have := z.length_le
      omega
  · rcases a with z | ⟨pc, m, z⟩
    · rw [z] at hn; cases hn
    · have := (h pc m).2.1 n (z.subset hn)
      omega
theorem nz_sml {T : PI} (h : Sml T) : Sml (nz T) := ⟨fun x hx => h.ok x (mem_nz.mp hx).1, Nat.le_trans (List.length_filter_le _ _) h.len⟩
theorem wh_abs {T : PI} {M : Nat} (h : ∀ x ∈ T, x.2.natAbs ≤ M) (p : List Int) : (wh T p).natAbs ≤ M * T.length := by
  induction T with
  | nil => exact Nat.zero_le _
  | cons x T ih =>
    have a := ih fun y m => h y (List.mem_cons_of_mem _ m)
    have b := h x List.mem_cons_self
    rw [List.length_cons, Nat.mul_succ]
    unfold wh at a ⊢
    rw [List.filter_cons]
    split
    · rw [List.map_cons, List.sum_cons]
      omega
    · omega
/-- how many keys there are -/
theorem S_len (P : PI) (h : ∀ x ∈ P, x.1.length ≤ 8) : (S P).length ≤ 1 + 9 * P.length := by
  have key : ∀ P l : PI, (∀ x ∈ P, x.1.length ≤ 8) → (P.foldl path1 l).length ≤ l.length + 9 * P.length := by
    intro P
    induction P with
    | nil => intro l _; simp
    | cons pc P ih =>
      intro l h
      have a := ih (path1 l pc) fun x m => h x (List.mem_cons_of_mem _ m)
      have b := fold_len pc l (pc.1.length + 1)
      have c := h pc List.mem_cons_self
      have d : (path1 l pc).length ≤ l.length + (pc.1.length + 1) := b
      rw [List.foldl_cons, List.length_cons]
      omega
  rw [← smd_len]
  have := key P [([], 0)] h
  have e : ([([], 0)] : PI).length = 1 := rfl
  unfold smd
  omega
theorem vt_pre {T : PI} (v : VT T) {p q : List Int} (h : p ∈ T.map (·.1)) (hq : q <+: p) : q ∈ T.map (·.1) := by
  have key : ∀ (n : Nat) (p q : List Int), p.length ≤ n → p ∈ T.map (·.1) → q <+: p → q ∈ T.map (·.1) := by
    intro n
    induction n with
    | zero =>
      intro p q l _ h
      have : q.length ≤ p.length := h.length_le
      have e : q = [] := List.length_eq_zero_iff.mp (by omega)
      rw [e]
      exact v.root
    | succ n ih =>
      intro p q l m h
      obtain ⟨r, rfl⟩ := h
      rcases List.eq_nil_or_concat r with e | ⟨r', x, e⟩
      · rw [e, List.append_nil] at m
        exact m
      · have d := v.par _ m
        rw [e, List.concat_eq_append, ← List.append_assoc, List.dropLast_concat] at d
        rw [e] at l
        refine ih (q ++ r') q ?_ d (List.prefix_append _ _)
        simp at l ⊢
        omega
  exact key _ _ _ (Nat.le_refl _) h hq
theorem nd_leL {α : Type} [DecidableEq α] : ∀ {a b : List α}, a.Nodup → (∀ x ∈ a, x ∈ b) → a.length ≤ b.length
  | [], _, _, _ => Nat.zero_le _
  | x :: a, b, nd, h => by
    rw [List.nodup_cons] at nd
    have mx := h x List.mem_cons_self
    have := nd_leL (a := a) (b := b.erase x) nd.2 fun y hy => by
      have ne : y ≠ x := fun e => nd.1 (e ▸ hy)
      exact (List.mem_erase_of_ne ne).mpr (h y (List.mem_cons_of_mem _ hy))
    rw [List.length_erase_of_mem mx] at this
    have := List.length_pos_of_mem mx
    rw [List.length_cons]
    omega
/-- sums over closed paths have no new keys -/
theorem S_pre {P : PI} {K : List (List Int)} (h0 : [] ∈ K) (h : ∀ x ∈ P, ∀ q, q <+: x.1 → q ∈ K) : (S P).length ≤ K.length := by
  have a := asc_nd (S_asc P)
  have b := nd_leL a (b := K) fun q hq => by
    rcases S_keys.mp hq with z | ⟨pc, m, z⟩
    · rw [z]; exact h0
    · exact h pc m q z
  rwa [List.length_map] at b
theorem Dr.absb {T : PI} {n : Nat} (d : Dr T n) : ∀ x ∈ T, x.1.length ≤ 8 ∧ (∀ n ∈ x.1, 0 ≤ n ∧ n ≤ 9) ∧ x.2.natAbs ≤ 100000000 := fun x hx => by
  have a := d.ok x hx
  have b := d.sm x hx
  exact ⟨a.1, a.2.1, by omega⟩
end K75

/-! k75: folding a path; the hot way (plain). -/
namespace Tr
open PySem Sm
def fstep (f : List Int) (x : Int) : List Int := if x ∈ f then f.take (f.idxOf x + 1) else f ++ [x]
def fold (p : List Int) : List Int := p.foldl fstep []
theorem fold_snoc (p : List Int) (x : Int) : fold (p ++ [x]) = fstep (fold p) x := by
  unfold fold
  rw [List.foldl_append]
  rfl
theorem fold_nil : fold [] = [] := rfl
theorem rev_ind {α : Type} {P : List α → Prop} (h0 : P []) (h1 : ∀ l x, P l → P (l ++ [x])) : ∀ l, P l := by
  intro l
  have key : ∀ n (l : List α), l.length = n → P l := by
    intro n
    induction n with
    | zero => intro l h; rw [List.length_eq_zero_iff.mp h]; exact h0
    | succ n ih =>
      intro l h
      rcases List.eq_nil_or_concat l with e | ⟨r, x, e⟩
      · rw [e] at h; simp at h
      · rw [e, List.concat_eq_append] at h ⊢
        exact h1 r x (ih r (by simpa using h))
  exact key _ l rfl
theorem fold_ok (p : List Int) : (fold p).Nodup ∧ (∀ x ∈ fold p, x ∈ p) ∧ (fold p).length ≤ p.length := by
  refine rev_ind (P := fun p => (fold p).Nodup ∧ (∀ x ∈ fold p, x ∈ p) ∧ (fold p).length ≤ p.length) ⟨by simp [fold_nil], by simp [fold_nil], by simp [fold_nil]⟩ (fun p y ⟨a, b, c⟩ => ?_) p
  rw [fold_snoc]
  unfold fstep
  split
  · refine ⟨a.sublist (List.take_sublist _ _), fun x hx => List.mem_append_left _ (b x (List.take_subset _ _ hx)), ?_⟩
    rw [List.length_take, List.length_append]
    omega
  · rename_i n
    refine ⟨?_, fun x hx => ?_, by simp; omega⟩
    · rw [List.nodup_append]
      refine ⟨a, by simp, fun u hu v hv e => n ?_⟩
      rw [List.mem_singleton] at hv
      rw [← hv, ← e]
      exact hu
    · rcases List.mem_append.mp hx with z | z
      · exact List.mem_append_left _ (b x z)
      · exact List.mem_append_right _ z
theorem fold_id {p : List Int} : p.Nodup → fold p = p := by
  refine rev_ind (P := fun p => p.Nodup → fold p = p) (fun _ => rfl) (fun p y ih nd => ?_) p
  rw [List.nodup_append] at nd
  rw [fold_snoc, ih nd.1]
  unfold fstep
  rw [if_neg]
  intro m
  exact nd.2.2 y m y List.mem_cons_self rfl
/-- what is ahead in a folded path is folded of what is ahead -/
theorem fold_pre {p q : List Int} : q <+: fold p → ∃ r, r <+: p ∧ fold r = q := by
  refine rev_ind (P := fun p => q <+: fold p → ∃ r, r <+: p ∧ fold r = q) (fun h => ?_) (fun p y ih h => ?_) p
  · rw [fold_nil] at h
    have : q = [] := List.prefix_nil.mp h
    exact ⟨[], List.prefix_refl _, by rw [this]; rfl⟩
  · have up : (∃ r, r <+: p ∧ fold r = q) → ∃ r, r <+: p ++ [y] ∧ fold r = q := fun ⟨r, a, b⟩ => ⟨r, a.trans (List.prefix_append _ _), b⟩
    rw [fold_snoc] at h
    unfold fstep at h
    split at h
    · exact up (ih (h.trans (List.take_prefix _ _)))
    · rename_i n
      by_cases c : q = fold p ++ [y]
      · refine ⟨p ++ [y], List.prefix_refl _, ?_⟩
        rw [fold_snoc]
        unfold fstep
        rw [if_neg n, c]
      · refine up (ih ?_)
        rcases List.prefix_concat_iff.mp (by rwa [← List.concat_eq_append] at h) with z | z
        · exact absurd z c
        · exact z
def fpt (T : PI) : PI := T.map fun x => (fold x.1, x.2)
theorem S_S (P : PI) : S (S P) = S P := by
  have nd := asc_nd (S_asc P)
  have kk : ∀ q, keyOf (S P) q ↔ keyOf P q := fun q => by
    constructor
    · rintro (z | ⟨pc, m, z⟩)
      · exact .inl z
      · rcases (mem_S.mp m).1 with e | ⟨pd, m2, e⟩
        · rw [e] at z
          exact .inl (List.prefix_nil.mp z)
        · exact .inr ⟨pd, m2, z.trans e⟩
    · intro h
      obtain ⟨x, hx, e⟩ := List.mem_map.mp (S_keys.mpr h)
      exact .inr ⟨x, hx, by rw [← e]; exact List.prefix_refl _⟩
  refine asc_eq (S_asc _) (S_asc _) fun x => ?_
  rw [mem_S, kk]
  constructor
  · rintro ⟨a, b⟩
    refine mem_S.mpr ⟨a, ?_⟩
    rw [b]
    exact tot_nd nd (mem_S (x := (x.1, tot P x.1)).mpr ⟨a, rfl⟩)
  · intro h
    obtain ⟨a, b⟩ := mem_S.mp h
    exact ⟨a, by rw [b]; exact (tot_nd nd (mem_S (x := (x.1, tot P x.1)).mpr ⟨a, rfl⟩)).symm⟩
/-- folding once more changes nothing -/
theorem fpt_S (T : PI) : fpt (S (fpt T)) = S (fpt T) := by
  unfold fpt
  have : ∀ x ∈ S (T.map fun x => (fold x.1, x.2)), (fold x.1, x.2) = x := fun x hx => by
    have nd : x.1.Nodup := by
      rcases (mem_S.mp hx).1 with e | ⟨pc, m, e⟩
      · rw [e]; simp
      · obtain ⟨y, _, rfl⟩ := List.mem_map.mp m
        exact (fold_ok y.1).1.sublist e.sublist
    rw [fold_id nd]
  rw [List.map_congr_left this, List.map_id']
theorem sum_one {K : List (List Int)} {p : List Int} {c : Int} (nd : K.Nodup) (m : p ∈ K) : (K.map fun q => if p = q then c else 0).sum = c := by
  induction K with
  | nil => cases m
  | cons k K ih =>
    rw [List.nodup_cons] at nd
    rw [List.map_cons, List.sum_cons]
    by_cases e : p = k
    · have z : ∀ K : List (List Int), p ∉ K → (K.map fun q => if p = q then c else 0).sum = 0 := by
        intro K
        induction K with
        | nil => intro _; rfl
        | cons a K ih2 =>
          intro n
          rw [List.mem_cons, not_or] at n
          rw [List.map_cons, List.sum_cons, if_neg n.1, ih2 n.2]
          rfl
      rw [if_pos e, z K (by rw [e]; exact nd.1)]
      omega
    · rw [if_neg e, ih nd.2 ((List.mem_cons.mp m).resolve_left e)]
      omega
theorem sum_addI (K : List (List Int)) (f g : List Int → Int) : (K.map fun q => f q + g q).sum = (K.map f).sum + (K.map g).sum := by
  induction K with
  | nil => rfl
  | cons k K ih =>
    rw [List.map_cons, List.sum_cons, ih, List.map_cons, List.sum_cons, List.map_cons, List.sum_cons]
    omega
theorem sum_tot (P : PI) {K : List (List Int)} (nd : K.Nodup) (h : ∀ x ∈ P, x.1 ∈ K) : (K.map (tot P)).sum = (P.map (·.2)).sum := by
  induction P with
  | nil =>
    have : ∀ K : List (List Int), (K.map (tot [])).sum = 0 := by
      intro K
      induction K with
      | nil => rfl
      | cons a K ih =>
        rw [List.map_cons, List.sum_cons, ih]
        rfl
    rw [this]
    rfl
  | cons x P ih =>
    have e : (K.map (tot (x :: P))).sum = (K.map fun q => (if x.1 = q then x.2 else 0) + tot P q).sum := by
      exact congrArg List.sum (List.map_congr_left fun q _ => tot_cons x P q)
    rw [e, sum_addI, sum_one nd (h x List.mem_cons_self), ih fun y m => h y (List.mem_cons_of_mem _ m), List.map_cons, List.sum_cons]
theorem sum_S (P : PI) : ((S P).map (·.2)).sum = (P.map (·.2)).sum := by
  rw [← sum_tot P (asc_nd (S_asc P)) fun x hx => S_keys.mpr (.inr ⟨x, hx, List.prefix_refl _⟩), List.map_map]
  congr 1
  exact List.map_congr_left fun x hx => (mem_S.mp hx).2
theorem sum_fpt (T : PI) : ((fpt T).map (·.2)).sum = (T.map (·.2)).sum := by
  unfold fpt
  rw [List.map_map]
  rfl
/-! the hot way -/
section
variable (w : List Int → Int)
def better (a y : List Int) : List Int := if w a < w y then y else a
def obest (b : Option (List Int)) (y : List Int) : Option (List Int) := match b with
  | none => some y
  | some a => some (better w a y)
theorem ob_some : ∀ (l : List (List Int)) (a : List Int), l.foldl (obest w) (some a) = some (l.foldl (better w) a)
  | [], a => rfl
  | y :: l, a => ob_some l (better w a y)
def ltC (x y : Int × List Int) : Prop := x.1 < y.1 ∨ (x.1 = y.1 ∧ x.2 < y.2)
instance (x y : Int × List Int) : Decidable (ltC x y) := by unfold ltC; infer_instance
def mnC (p : Int × List Int) (l : List (Int × List Int)) : Int × List Int := l.foldl (fun a y => if ltC y a then y else a) p
/-- with ascending paths the least pair is that of the first greatest one -/
theorem mn_best : ∀ (l : List (List Int)) (a : List Int), (a :: l).Pairwise (· < ·) → mnC (-w a, a) (l.map fun y => (-w y, y)) = (-w (l.foldl (better w) a), l.foldl (better w) a)
  | [], a, _ => rfl
  | y :: l, a, h => by
    rw [List.pairwise_cons] at h
    have ay := h.1 y List.mem_cons_self
    have e : mnC (-w a, a) ((y :: l).map fun y => (-w y, y)) = mnC (if ltC (-w y, y) (-w a, a) then (-w y, y) else (-w a, a)) (l.map fun y => (-w y, y)) := rfl
    have e2 : (y :: l).foldl (better w) a = l.foldl (better w) (better w a y) := rfl
    have c : ltC (-w y, y) (-w a, a) ↔ w a < w y := by
      unfold ltC
      constructor
      · rintro (z | ⟨_, z⟩)
        · have z : -w y < -w a := z
          omega
        · exact absurd z (List.lt_asymm ay)
      · intro z
        left
        show -w y < -w a
        omega
    rw [e, e2]
    unfold better
    by_cases d : w a < w y
    · rw [if_pos (c.mpr d), if_pos d]
      exact mn_best l y h.2
    · rw [if_neg fun z => d (c.mp z), if_neg d]
      refine mn_best l a ?_
      rw [List.pairwise_cons] at h ⊢
      exact ⟨fun z m => h.1 z (List.mem_cons_of_mem _ m), h.2.2⟩
theorem better_mem : ∀ (l : List (List Int)) (a : List Int), l.foldl (better w) a ∈ a :: l
  | [], a => List.mem_cons_self
  | y :: l, a => by
    have := better_mem l (better w a y)
    show l.foldl (better w) (better w a y) ∈ _
    rcases List.mem_cons.mp this with z | z
    · rw [z]
      unfold better
      split
      · exact List.mem_cons_of_mem _ List.mem_cons_self
      · exact List.mem_cons_self
    · exact List.mem_cons_of_mem _ (List.mem_cons_of_mem _ z)
end
def kid (h p : List Int) : Bool := decide (p.length = h.length + 1) && decide (p.dropLast = h)
def kids (T : PI) (h : List Int) : List (List Int) := (T.map (·.1)).filter (kid h)
def best (w : List Int → Int) (T : PI) (h : List Int) : Option (List Int) := (kids T h).foldl (obest w) none
def nxt (w : List Int → Int) (T : PI) (h : List Int) : Option (List Int) := match best w T h with
  | some b => if 0 < w b then some b else none
  | none => none
def hotN (w : List Int → Int) (T : PI) : Nat → List Int → List Int
  | 0, h => h
  | n + 1, h => match nxt w T h with
    | some b => hotN w T n b
    | none => h
theorem best_mem {w : List Int → Int} {T : PI} {h b : List Int} (e : best w T h = some b) : b ∈ kids T h := by
  unfold best at e
  cases hk : kids T h with
  | nil => rw [hk] at e; cases e
  | cons a l =>
    rw [hk] at e
    have e' : l.foldl (obest w) (some a) = some b := e
    rw [ob_some] at e'
    cases e'
    exact better_mem w l a
theorem nxt_kid {w : List Int → Int} {T : PI} {h b : List Int} (e : nxt w T h = some b) : b ∈ T.map (·.1) ∧ b.length = h.length + 1 := by
  unfold nxt at e
  cases hb : best w T h with
  | none => rw [hb] at e; cases e
  | some c =>
    rw [hb] at e
    dsimp only at e
    split at e
    · cases e
      have := best_mem hb
      unfold kids kid at this
      rw [List.mem_filter, Bool.and_eq_true, decide_eq_true_eq] at this
      exact ⟨this.1, this.2.1⟩
    · cases e
end Tr

/-! k75: fold. -/
namespace K75
open PySem L2 Sm Tr
theorem find_val {a : Int} : ∀ {W : List Int}, a ∈ W → (W.map PyData.int).findIdx? (fun z => PyData.eqv z (.int a)) = some (W.idxOf a)
  | [], h => by cases h
  | x :: W, h => by
    rw [List.map_cons, List.findIdx?_cons, List.idxOf_cons]
    by_cases e : x = a
    · subst e
      simp [PyData.eqv]
    · have m := (List.mem_cons.mp h).resolve_left fun z => e z.symm
      rw [find_val m]
      have e1 : PyData.eqv (.int x) (.int a) = false := by simp [PyData.eqv, e]
      have e2 : (x == a) = false := by simp [e]
      rw [e1, e2]
      rfl
theorem idx_val {W : List Int} {a : Int} (h : a ∈ W) : dIndex (W.map .int) (.int a) = .ok (.int (W.idxOf a : Nat)) := by
  unfold dIndex
  rw [if_pos ⟨shaped_ints W, rfl⟩, find_val h]
  rfl
theorem fold_take (p : List Int) (k : Nat) (h : k < p.length) : Tr.fold (p.take (k + 1)) = fstep (Tr.fold (p.take k)) p[k] := by
  rw [List.take_succ, List.getElem?_eq_getElem h]
  exact fold_snoc _ _
theorem fold_sem {p : List Int} (hp : p.length ≤ 100) : i_fold.sem [intD p] = .ok (intD (Tr.fold p)) := by
  refine sem_wp ?_
  simp only [s_fold, wp_seq]
  refine wp_own' (d := intD []) (by simp [intD]) ?_
  have ow : ∀ M : List Int, ownC (intD M) = .ow (intD M) := fun M => ownC_list
  rw [ow, sqK_nx, wp_seq]
  refine wp_forE (l := p) (enc := .int) (fun k ρ => Fr [1, 2] [.sh (intD p), .un, .un] ρ ∧ gt ρ 1 = some (.ow (intD (Tr.fold (p.take k))))) (iter_seq (by simp [rho0, intD])) ⟨Fr.refl.set (by decide), by simp [rho0, Tr.fold]⟩ ?_ ?_
  · rintro k hk ρ ⟨F, f1⟩
    have lρ := F.len
    simp at lρ
    have fo := fold_ok (p.take k)
    rw [fold_take p k hk]
    have fl : (Tr.fold (p.take k)).length ≤ 100 := by
      have := fo.2.2
      rw [List.length_take] at this
      omega
    generalize Tr.fold (p.take k) = f at f1 fl
    simp only [b_fold_1, wp_seq]
    unfold fstep
    refine wp_mt (fun ρ' => Fr [1, 2] [.sh (intD p), .un, .un] ρ' ∧ gt ρ' 1 = some (.ow (intD (if p[k] ∈ f then f.take (f.idxOf p[k] + 1) else f ++ [p[k]])))) ?_ (fun ρ' z => ?_)
    · by_cases c : p[k] ∈ f
      · refine wp_tt (by simp [lρ, f1, c]) ?_
        rw [if_pos c, wp_seq]
        have ix := idx_val c
        have sl := sl_toI (L := f) (i := (f.idxOf p[k] : Int) + 1) (by omega)
        rw [show ((f.idxOf p[k] : Int) + 1).toNat = f.idxOf p[k] + 1 by omega] at sl
        refine wp_own' (d := intD (f.take (f.idxOf p[k] + 1))) (by
          simp [lρ, f1, mLm, intD] at sl ix ⊢
          simp [ix, sl]) ?_
        rw [ow, sqK_nx, wp_skip, mtK_nx]
        exact ⟨(F.set (by decide)).set (by decide), by simp [lρ]⟩
      · refine wp_ff (by simp [lρ, f1, c]) ?_
        rw [if_neg c, wp_seq]
        refine wp_app' (ds := f.map .int) (d := .int p[k]) (by simp [f1, intD]) (by simp [lρ]) (by simp; omega) ?_
        rw [sqK_nx, wp_skip, mtK_nx]
        exact ⟨(F.set (by decide)).set (by decide), by simp [lρ, intD]⟩
    · rw [sqK_nx, wp_skip, loK_nx]
      exact z
  · rintro ρ ⟨F, f1⟩
    rw [List.take_length] at f1
    rw [sqK_nx]
    simp [f1]
theorem lfold_sem {p : List Int} (hp : p.length ≤ 100) : i_l_fold.sem [intD p] = .ok (intD (Tr.fold p)) := by
  refine sem_wp ?_
  simp only [s_l_fold, wp_seq]
  refine wp_set' (d := intD []) (by simp [intD]) ?_
  rw [sqK_nx, wp_seq]
  refine wp_forE (l := p) (enc := .int) (fun k ρ => Fr [1, 2] [.sh (intD p), .un, .un] ρ ∧ gt ρ 1 = some (.sh (intD (Tr.fold (p.take k))))) (iter_seq (by simp [rho0, intD])) ⟨Fr.refl.set (by decide), by simp [rho0, Tr.fold]⟩ ?_ ?_
  · rintro k hk ρ ⟨F, f1⟩
    have lρ := F.len
    simp at lρ
    have fo := fold_ok (p.take k)
    rw [fold_take p k hk]
    have fl : (Tr.fold (p.take k)).length ≤ 100 := by
      have := fo.2.2
      rw [List.length_take] at this
      omega
    generalize Tr.fold (p.take k) = f at f1 fl
    simp only [b_l_fold_1, wp_seq]
    unfold fstep
    refine wp_mt (fun ρ' => Fr [1, 2] [.sh (intD p), .un, .un] ρ' ∧ gt ρ' 1 = some (.sh (intD (if p[k] ∈ f then f.take (f.idxOf p[k] + 1) else f ++ [p[k]])))) ?_ (fun ρ' z => ?_)
    · by_cases c : p[k] ∈ f
      · refine wp_tt (by simp [lρ, f1, c]) ?_
        rw [if_pos c, wp_seq]
        have ix := idx_val c
        have sl := sl_toI (L := f) (i := (f.idxOf p[k] : Int) + 1) (by omega)
        rw [show ((f.idxOf p[k] : Int) + 1).toNat = f.idxOf p[k] + 1 by omega] at sl
        refine wp_set' (d := intD (f.take (f.idxOf p[k] + 1))) (by
          simp [lρ, f1, mLm, intD] at sl ix ⊢
          simp [ix, sl]) ?_
        rw [sqK_nx, wp_skip, mtK_nx]
        exact ⟨(F.set (by decide)).set (by decide), by simp [lρ]⟩
      · refine wp_ff (by simp [lρ, f1, c]) ?_
        rw [if_neg c, wp_seq]
        have ap := app_int1 (L := f) (i := p[k]) (by omega)
        refine wp_set' (d := intD (f ++ [p[k]])) (by simp [lρ, f1, ap]) ?_
        rw [sqK_nx, wp_skip, mtK_nx]
        exact ⟨(F.set (by decide)).set (by decide), by simp [lρ, intD]⟩
    · rw [sqK_nx, wp_skip, loK_nx]
      exact z
  · rintro ρ ⟨F, f1⟩
    rw [List.take_length] at f1
    rw [sqK_nx]
    simp [f1]
end K75

/-! k75: folded, own, reach, longer. -/
namespace K75
open PySem L2 Sm Tr
theorem S_fpt_len {T : PI} (v : VT T) : (S (fpt T)).length ≤ T.length := by
  have := S_pre (P := fpt T) (K := T.map fun x => Tr.fold x.1) (by
    obtain ⟨x, hx, e⟩ := List.mem_map.mp v.root
    exact List.mem_map.mpr ⟨x, hx, by rw [e]; rfl⟩) fun x hx q hq => by
    obtain ⟨y, hy, rfl⟩ := List.mem_map.mp hx
    obtain ⟨r, a, b⟩ := fold_pre hq
    obtain ⟨z, hz, e⟩ := List.mem_map.mp (vt_pre v (List.mem_map.mpr ⟨y, hy, rfl⟩) a)
    exact List.mem_map.mpr ⟨z, hz, by rw [e]; exact b⟩
  rwa [List.length_map] at this
theorem fpt_ok {T : PI} (v : VT T) : ∀ x ∈ fpt T, x.1.length ≤ 8 ∧ (∀ n ∈ x.1, 0 ≤ n ∧ n ≤ 9) ∧ 0 ≤ x.2 := fun x hx => by
  obtain ⟨y, hy, rfl⟩ := List.mem_map.mp hx
  have o := v.ok y hy
  have f := fold_ok y.1
  exact ⟨by have := f.2.2; have := o.1; show (Tr.fold y.1).length ≤ 8; omega, fun n hn => o.2.1 n (f.2.1 n hn), o.2.2⟩
theorem S_fpt_VT {T : PI} (v : VT T) : VT (S (fpt T)) := S_VT (fpt_ok v) (by have := S_fpt_len v; have := v.len; omega)
theorem fpt_len (T : PI) : (fpt T).length = T.length := by simp [fpt]
theorem comp_fold {T : PI} (v : VT T) {it : Its} {i j : Nat} {own : List Nat} {ρ : Rho} {f : FnI} (hf : ∀ p : List Int, p.length ≤ 100 → f.sem [intD p] = .ok (intD (Tr.fold p))) (hit : it ρ = .ok (T.map prT)) (hi : i < (wipeR ρ own).length) (hj : j < (wipeR ρ own).length) (ne : i ≠ j) : mComp it (tTp [tNm i, tNm j]) (fun _ => .ok true) (mTup [mCall f.sem [mVar true i], mVar true j]) own ρ = .ok (trD (fpt T)) := by
  rw [comp_PT T hit (fun _ => true) (fun x => prT (Tr.fold x.1, x.2)) (by
    intro x hx
    have fs := hf x.1 (by have := (v.ok x hx).1; omega)
    refine ⟨rfl, fun _ => ?_⟩
    simp [hi, hj, ne, Ne.symm ne, fs]
    rfl)]
  rw [List.filter_eq_self.mpr fun _ _ => rfl]
  unfold trD fpt
  rw [List.map_map]
  rfl
theorem folded_sem {T : PI} (v : VT T) : i_folded.sem [trD T] = .ok (trD (S (fpt T))) := by
  have ck := check_sem T
  rw [chk_ok v] at ck
  have tl := v.len
  have sm := summed_sem (P := fpt T) (by rw [fpt_len]; omega) fun x hx => by have := (fpt_ok v x hx).1; omega
  refine sem_wp ?_
  simp only [s_folded, wp_seq]
  rw [wp_expr, show mCall i_check_tree.sem [mVar true 0] (rho0 3 ([trD T].map .sh)) = .ok .none by simp [rho0, ck], rsK_ok, sqK_nx, wp_seq]
  refine wp_ret' (d := trD (S (fpt T))) (by
    rw [mCall_ap, mAll_cons, comp_fold v (f := i_fold) (fun p hp => fold_sem hp) (iter_seq (by simp [rho0, trD])) (by simp [rho0, wipeR]) (by simp [rho0, wipeR]) (by decide)]
    simp [sm]) ?_
  rw [sqK_rt, outR_rt]
theorem fpath_ok {p : List Int} (h : isP p = true) (hp : p.length ≤ 100) : i_folded_path.sem [intD p] = .ok (intD (Tr.fold p)) := by
  have ip := is_path_sem p
  rw [h] at ip
  have fs := fold_sem hp
  refine sem_wp ?_
  simp [s_folded_path, rho0, ip, fs]
theorem fpath_bad {p : List Int} (h : isP p = false) : i_folded_path.sem [intD p] = .exc "BadPath" (.int 0) := by
  have ip := is_path_sem p
  rw [h] at ip
  refine sem_wp ?_
  simp [s_folded_path, rho0, ip]
theorem word_bad {p : List Int} (h : isP p = false) : i_l_word.sem [intD p] = .ok (.int 0) := by
  have f := fpath_bad h
  refine sem_wp ?_
  simp [s_l_word, rho0, f]
  rw [tyK_xc (z := .int 0) (by decide) rfl (by rfl)]
  simp
/-! names -/
def names (T : PI) : List Int := ascI (T.map (·.1)).flatten
theorem flat_len {T : PI} (v : VT T) : (T.map (·.1)).flatten.length ≤ 480 := by
  have key : ∀ L : PI, (∀ x ∈ L, x.1.length ≤ 8) → (L.map (·.1)).flatten.length ≤ 8 * L.length := by
    intro L
    induction L with
    | nil => intro _; exact Nat.le_refl _
    | cons x L ih =>
      intro h
      have a := ih fun y m => h y (List.mem_cons_of_mem _ m)
      have b := h x List.mem_cons_self
      rw [List.map_cons, List.flatten_cons, List.length_append, List.length_cons]
      omega
  have := key T fun x hx => (v.ok x hx).1
  have := v.len
  omega
theorem flat_met {T : PI} (v : VT T) : (metI (T.map (·.1)).flatten).length < 64 := by
  have := nd_leL (metI_nd (T.map (·.1)).flatten) (b := [0, 1, 2, 3, 4, 5, 6, 7, 8, 9]) fun x hx => by
    rw [metI_has] at hx
    obtain ⟨p, hp, m⟩ := List.mem_flatten.mp hx
    obtain ⟨y, hy, rfl⟩ := List.mem_map.mp hp
    have := (v.ok y hy).2.1 x m
    simp only [List.mem_cons, List.not_mem_nil, or_false]
    omega
  have e : ([0, 1, 2, 3, 4, 5, 6, 7, 8, 9] : List Int).length = 10 := rfl
  omega
theorem sum_len8 {T : PI} (v : VT T) : (T.map fun a => a.1.length).sum ≤ 16777216 := by
  have a := flat_len v
  rw [List.length_flatten, List.map_map] at a
  have e : (List.map ((fun x => List.length x) ∘ fun x : List Int × Int => x.1) T) = T.map fun a => a.1.length := rfl
  have e2 : (List.map (List.length ∘ fun x : List Int × Int => x.1) T) = T.map fun a => a.1.length := rfl
  rw [e2] at a
  omega
theorem names_sem {T : PI} (v : VT T) : i_names_of.sem [trD T] = .ok (intD (names T)) := by
  refine sem_wp ?_
  simp only [s_names_of, wp_seq]
  refine wp_ret' (d := intD (names T)) (sortset (L := (T.map (·.1)).flatten) (by
    rw [comp2_all T prT (fun x => x.1) .int (fun _ n => .int n) (iter_seq (by simp [rho0, trD])) (sum_len8 v) (by
      intro x hx
      refine ⟨_, rfl, iter_seq (by simp [rho0, wipeR, intD]), fun b hb => ⟨_, rfl, by simp [rho0, wipeR]⟩⟩)]
    unfold intD
    rw [List.map_flatten, List.map_map, List.flatMap_def]
    rfl) (by have := flat_len v; omega) (flat_met v)) ?_
  rw [sqK_rt, outR_rt]
def lastS (T : PI) (n : Int) : Int := ((T.filter fun x => decide (x.1.drop (x.1.length - 1) = [n])).map (·.2)).sum
def hasS (T : PI) (n : Int) : Int := ((T.filter fun x => decide (n ∈ x.1)).map (·.2)).sum
theorem sum_PT {T : PI} {t : Ts} {own : List Nat} {i j : Nat} {ρ : Rho} (p : List Int × Int → Bool) {it : Its} (hit : it ρ = .ok (T.map prT)) (hj : j < (wipeR ρ own).length) (h : ∀ x ∈ T, t (((wipeR ρ own).set i (.sh (intD x.1))).set j (.sh (.int x.2))) = .ok (p x)) :
    mCall dSum [mComp it (tTp [tNm i, tNm j]) t (mVar true j) own] ρ = .ok (.int ((T.filter p).map (·.2)).sum) := by
  rw [mCall_ap, mAll_cons, comp_PT T hit p (fun x => .int x.2) (fun x hx => ⟨h x hx, fun _ => by simp [hj]⟩)]
  have e : PyData.list ((T.filter p).map fun x => PyData.int x.2) = intD ((T.filter p).map (·.2)) := by simp [intD]
  have q : dSum [intD ((T.filter p).map (·.2))] = .ok (.int ((T.filter p).map (·.2)).sum) := sum_ints _
  rw [e, Rs.bind_ok, mAll_nil, Rs.bind_ok, Rs.bind_ok, q]
theorem own_sem {T : PI} (v : VT T) : i_own.sem [trD T] = .ok (prsD ((names T).map fun n => (n, lastS T n))) := by
  have ck := check_sem T
  rw [chk_ok v] at ck
  have nm := names_sem v
  refine sem_wp ?_
  simp only [s_own, wp_seq]
  rw [wp_expr, show mCall i_check_tree.sem [mVar true 0] (rho0 4 ([trD T].map .sh)) = .ok .none by simp [rho0, ck], rsK_ok, sqK_nx, wp_seq]
  refine wp_ret' (d := prsD ((names T).map fun n => (n, lastS T n))) (by
    rw [comp_enc (names T) .int (iter_seq (by simp [rho0, nm, intD])) (fun _ => true) (fun n => prD (n, lastS T n)) (by
      intro n hn
      refine ⟨_, rfl, rfl, fun _ => ?_⟩
      have e : PyData.list [.int n] = intD [n] := rfl
      rw [mTup_ap, mAll_cons, mAll_cons, sum_PT (T := T) (fun x => decide (x.1.drop (x.1.length - 1) = [n])) (iter_seq (by simp [rho0, wipeR, trD])) (by simp [rho0, wipeR]) (by
        intro x hx
        have sl := sl_lastI (L := x.1)
        simp [rho0, wipeR, sl, e, -List.map_drop])]
      simp [rho0, wipeR]
      rfl)]
    rw [List.filter_eq_self.mpr fun _ _ => rfl]
    unfold prsD
    rw [List.map_map]
    rfl) ?_
  rw [sqK_rt, outR_rt]
theorem reach_sem {T : PI} (v : VT T) : i_reach.sem [trD T] = .ok (prsD ((names T).map fun n => (n, hasS T n))) := by
  have ck := check_sem T
  rw [chk_ok v] at ck
  have nm := names_sem v
  refine sem_wp ?_
  simp only [s_reach, wp_seq]
  rw [wp_expr, show mCall i_check_tree.sem [mVar true 0] (rho0 4 ([trD T].map .sh)) = .ok .none by simp [rho0, ck], rsK_ok, sqK_nx, wp_seq]
  refine wp_ret' (d := prsD ((names T).map fun n => (n, hasS T n))) (by
    rw [comp_enc (names T) .int (iter_seq (by simp [rho0, nm, intD])) (fun _ => true) (fun n => prD (n, hasS T n)) (by
      intro n hn
      refine ⟨_, rfl, rfl, fun _ => ?_⟩
      rw [mTup_ap, mAll_cons, mAll_cons, sum_PT (T := T) (fun x => decide (n ∈ x.1)) (iter_seq (by simp [rho0, wipeR, trD])) (by simp [rho0, wipeR]) (by
        intro x hx
        simp [rho0, wipeR])]
      simp [rho0, wipeR]
      rfl)]
    rw [List.filter_eq_self.mpr fun _ _ => rfl]
    unfold prsD
    rw [List.map_map]
    rfl) ?_
  rw [sqK_rt, outR_rt]
theorem kid_test {T : PI} {h : List Int} : ((T.filter fun x => kid h x.1).map fun x => intD x.1) = (kids T h).map intD := by
  unfold kids
  rw [List.filter_map, List.map_map]
  rfl
theorem longer_sem (T : PI) (h : List Int) : i_longer.sem [trD T, intD h] = .ok (.list ((kids T h).map intD)) := by
  refine sem_wp ?_
  simp only [s_longer, wp_seq]
  refine wp_ret' (d := .list ((kids T h).map intD)) (by
    rw [comp_PT T (iter_seq (by simp [rho0, trD])) (fun x => kid h x.1) (fun x => intD x.1) (by
      intro x hx
      have sl : dSl (intD x.1) none (some (-1)) = .ok (intD x.1.dropLast) := by
        have := sl_butlast (ds := x.1.map .int)
        rw [← List.map_dropLast] at this
        exact this
      refine ⟨?_, fun _ => by simp [rho0, wipeR]⟩
      have e : decide ((x.1.length : Int) = (h.length : Int) + 1) = decide (x.1.length = h.length + 1) := decide_eq_decide.mpr (by omega)
      unfold kid
      by_cases c : x.1.length = h.length + 1
      · simp [rho0, wipeR, e, c, sl, -List.map_dropLast]
      · simp [rho0, wipeR, e, c, sl, -List.map_dropLast]), kid_test]) ?_
  rw [sqK_rt, outR_rt]
theorem lwhole_sem (T : PI) (p : List Int) : i_l_whole.sem [trD T, intD p] = .ok (.int (wh T p)) := whole_of_sem T p
end K75

/-! k75: the hot way. -/
namespace K75
open PySem L2 Sm Tr
def encC (x : Int × List Int) : PyData := .tuple [.int x.1, intD x.2]
theorem alike_encC (x y : Int × List Int) : PySem.W.alike (encC x) (encC y) = true := by
  show (PySem.W.alike (.int x.1) (.int y.1) && (PySem.W.alike (intD x.2) (intD y.2) && true)) = true
  have : PySem.W.alike (intD x.2) (intD y.2) = true := alike_ints _ _
  rw [this]
  rfl
theorem dict_encC (x : Int × List Int) : (encC x).hasDict = false := by
  show (false || ((intD x.2).hasDict || false)) = false
  rw [show (intD x.2).hasDict = false from dict_ints _]
  rfl
theorem depth_encC (x : Int × List Int) : (encC x).depth ≤ 3 := by
  have h : (intD x.2).depth ≤ 2 := by
    have := depth_ints x.2
    show PyData.depthAll (x.2.map .int) + 1 ≤ 2
    omega
  show max (PyData.int _).depth (max (intD x.2).depth 0) + 1 ≤ 3
  have h0 : (PyData.int x.1).depth = 0 := rfl
  omega
theorem lt_encC (x y : Int × List Int) : PySem.W.dataLt (encC x) (encC y) = decide (ltC x y) := by
  obtain ⟨c, o⟩ := x
  obtain ⟨d, p⟩ := y
  unfold encC ltC
  rw [PySem.W.dataLt_tuple, PySem.W.dataLt_cons (x := .int c) (y := .int d) rfl, PySem.W.dataLt_int]
  have al : PySem.W.alike (intD o) (intD p) = true := alike_ints o p
  have e : PySem.W.rowLt [intD o] [intD p] = decide (o < p) := by
    unfold PySem.W.rowLt
    rw [PySem.W.dataLt_cons al]
    by_cases q : o = p
    · subst q
      rw [if_pos (by rw [eqv_ints]; simp)]
      have z : ¬ o < o := List.lt_irrefl _
      simp only [z, decide_false]
      exact (PySem.W.dataLt_ints [] []).trans (by simp)
    · have nq : ¬ PyData.eqv (intD o) (intD p) = true := by
        rw [eqv_ints]
        simpa using q
      rw [if_neg nq, lt_ints]
  unfold PySem.W.rowLt at e
  rw [e]
  by_cases q : c = d
  · subst q
    have ev : PyData.eqv (.int c) (.int c) = true := by simp [PyData.eqv]
    rw [if_pos ev]
    simp
  · have ev : ¬ PyData.eqv (.int c) (.int d) = true := by simpa [PyData.eqv] using q
    rw [if_neg ev]
    simp [q]
theorem mnC_enc : ∀ (l : List (Int × List Int)) (p : Int × List Int), PySem.W.minD (encC p) (l.map encC) = encC (mnC p l)
  | [], p => rfl
  | q :: l, p => by
    have e : PySem.W.minD (encC p) ((q :: l).map encC) = PySem.W.minD (if PySem.W.dataLt (encC q) (encC p) then encC q else encC p) (l.map encC) := rfl
    have e2 : mnC p (q :: l) = mnC (if ltC q p then q else p) l := rfl
    rw [e, e2, lt_encC, ← mnC_enc l]
    by_cases c : ltC q p <;> simp [c]
theorem dMin_C {p : Int × List Int} {l : List (Int × List Int)} : dMin [.list ((p :: l).map encC)] = .ok (encC (mnC p l)) := by
  have e : dMin [.list ((p :: l).map encC)] = minT ((p :: l).map encC) := rfl
  have ok : minOk ((p :: l).map encC) := by
    refine ⟨⟨fun x hx y hy => ?_, fun x hx => ?_⟩, ?_, ?_, fun x hx => ?_⟩
    · obtain ⟨a, _, rfl⟩ := List.mem_map.mp hx
      obtain ⟨b, _, rfl⟩ := List.mem_map.mp hy
      exact alike_encC a b
    · obtain ⟨a, _, rfl⟩ := List.mem_map.mp hx
      intro z; cases z
    · generalize p :: l = L
      induction L with
      | nil => rfl
      | cons a L ih =>
        show ((encC a).hasDict || PyData.hasDictAll (L.map encC)) = false
        rw [dict_encC, ih]
        rfl
    · have := depthAll_le (ds := (p :: l).map encC) (m := 3) fun x hx => by
        obtain ⟨a, _, rfl⟩ := List.mem_map.mp hx
        exact depth_encC a
      omega
    · obtain ⟨a, _, rfl⟩ := List.mem_map.mp hx
      exact ⟨_, rfl⟩
  rw [e, ← mnC_enc]
  exact if_pos ok
theorem kids_asc {T : PI} (v : VT T) (h : List Int) : (kids T h).Pairwise (· < ·) := by
  have a := v.asc
  unfold Asc at a
  unfold kids
  exact (List.pairwise_map.mpr a).sublist List.filter_sublist
/-- the least told pair -/
theorem min_kids {T : PI} (v : VT T) (h : List Int) : (kids T h = [] ∧ best (wh T) T h = none) ∨ ∃ b, best (wh T) T h = some b ∧ kids T h ≠ [] ∧ dMin [.list ((kids T h).map fun p => encC (-wh T p, p))] = .ok (encC (-wh T b, b)) := by
  have asc := kids_asc v h
  unfold best
  cases hk : kids T h with
  | nil => exact .inl ⟨rfl, rfl⟩
  | cons a l =>
    rw [hk] at asc
    refine .inr ⟨l.foldl (better (wh T)) a, ob_some _ l a, by simp, ?_⟩
    have e : ((a :: l).map fun p => encC (-wh T p, p)) = ((-wh T a, a) :: l.map fun p => (-wh T p, p)).map encC := by
      rw [List.map_cons, List.map_cons, List.map_map]
      rfl
    rw [e, dMin_C, mn_best _ l a asc]
def hotR (T : PI) : List Int := hotN (wh T) T 9 []
theorem hot_sem {T : PI} (v : VT T) : i_hot.sem [trD T] = .ok (intD (hotR T)) := by
  have ck := check_sem T
  rw [chk_ok v] at ck
  refine sem_wp ?_
  simp only [s_hot, wp_seq]
  rw [wp_expr, show mCall i_check_tree.sem [mVar true 0] (rho0 5 ([trD T].map .sh)) = .ok .none by simp [rho0, ck], rsK_ok, sqK_nx, wp_seq]
  refine wp_set' (d := intD []) (by simp [intD]) ?_
  rw [sqK_nx, wp_seq]
  refine wp_set' (d := .bool true) (by simp) ?_
  rw [sqK_nx, wp_seq]
  generalize hr : List.set _ 2 _ = r0
  have l0 : r0.length = 5 := by rw [← hr]; simp [rho0]
  have g0 : gt r0 0 = some (.sh (trD T)) := by rw [← hr]; simp [rho0]
  have g1 : gt r0 1 = some (.sh (intD [])) := by rw [← hr]; simp [rho0]
  have g2 : gt r0 2 = some (.sh (.bool true)) := by rw [← hr]; simp [rho0]
  clear hr
  refine wp_while (fun n ρ => Fr [1, 2, 3, 4] r0 ρ ∧ ∃ (h : List Int) (g : Bool), gt ρ 1 = some (.sh (intD h)) ∧ gt ρ 2 = some (.sh (.bool g)) ∧ (g = true → h.length ≤ 8 ∧ n + h.length = 9 ∧ hotN (wh T) T n h = hotR T) ∧ (g = false → h = hotR T)) ?_ 9 r0 ⟨.refl, [], true, g1, g2, fun _ => ⟨by simp, by simp, rfl⟩, fun z => by cases z⟩
  rintro n ρ ⟨F, h, g, f1, f2, hg, hn⟩
  have lρ := F.len
  have f0 := F.get 0 (by decide)
  rw [l0] at lρ
  rw [g0] at f0
  cases g with
  | false =>
    refine ⟨false, by simp [t_hot_1, f2], ?_⟩
    rw [if_neg (by decide), sqK_nx]
    simp [f1, hn rfl]
  | true =>
    refine ⟨true, by simp [t_hot_1, f2], ?_⟩
    rw [if_pos rfl]
    obtain ⟨hl, en, eR⟩ := hg rfl
    simp only [b_hot_2, wp_seq]
    have lg := longer_sem T h
    refine wp_set' (d := .list ((kids T h).map fun p => encC (-wh T p, p))) (by
      rw [comp_enc (kids T h) intD (iter_seq (by simp [f0, f1, lg])) (fun _ => true) (fun p => encC (-wh T p, p)) (by
        intro p hp
        have w := whole_of_sem T p
        exact ⟨_, rfl, rfl, fun _ => by simp [wipeR, lρ, f0, w]; rfl⟩)]
      rw [List.filter_eq_self.mpr fun _ _ => rfl]) ?_
    rw [sqK_nx, wp_seq]
    obtain ⟨m, rfl⟩ : ∃ m, n = m + 1 := ⟨n - 1, by omega⟩
    have t0 : ∀ x, dIx (encC x) (.int 0) = .ok (.int x.1) := fun x => dIx_t0
    have t1 : ∀ x, dIx (encC x) (.int 1) = .ok (intD x.2) := fun x => dIx_t1
    have F2 := F.set (i := 3) (x := .sh (.list ((kids T h).map fun p => encC (-wh T p, p)))) (by decide)
    rcases min_kids v h with ⟨kn, bn⟩ | ⟨b, bs, kn, mn⟩
    · have nx : nxt (wh T) T h = none := by unfold nxt; rw [bn]
      have eh : hotN (wh T) T (m + 1) h = h := by
        show (match nxt (wh T) T h with
          | some b => hotN (wh T) T m b
          | none => h) = h
        rw [nx]
      refine wp_set' (d := .bool false) (by simp [lρ, kn]) ?_
      rw [sqK_nx, wp_seq]
      refine wp_ff (by simp [lρ]) ?_
      rw [wp_skip, sqK_nx, wp_skip, loK_nx]
      exact ⟨0, by omega, F2.set (by decide), h, false, by simp [f1], by simp [lρ], (fun z => by cases z), fun _ => by rw [← eR, eh]⟩
    · have kl : 0 < (kids T h).length := List.length_pos_iff.mpr kn
      have kl' : (0 : Int) < (kids T h).length := by omega
      by_cases c : 0 < wh T b
      · have nx : nxt (wh T) T h = some b := by unfold nxt; rw [bs]; exact if_pos c
        have eh : hotN (wh T) T (m + 1) h = hotN (wh T) T m b := by
          show (match nxt (wh T) T h with
            | some b => hotN (wh T) T m b
            | none => h) = _
          rw [nx]
        have c' : -wh T b < 0 := by omega
        refine wp_set' (d := .bool true) (by simp [lρ, kl', kn, mn, t0, c', c]) ?_
        rw [sqK_nx, wp_seq]
        obtain ⟨bm, bl⟩ := nxt_kid nx
        obtain ⟨x, hx, ex⟩ := List.mem_map.mp bm
        have b8 := (v.ok x hx).1
        rw [ex] at b8
        refine wp_mt (fun ρ' => Fr [1, 2, 3, 4] r0 ρ' ∧ gt ρ' 1 = some (.sh (intD b)) ∧ gt ρ' 2 = some (.sh (.bool true))) ?_ (fun ρ' z => ?_)
        · refine wp_tt (by simp [lρ]) ?_
          rw [wp_seq]
          refine wp_set' (d := intD b) (by simp [lρ, mn, t1]) ?_
          rw [sqK_nx, wp_skip, mtK_nx]
          exact ⟨(F2.set (by decide)).set (by decide), by simp [lρ], by simp [lρ]⟩
        · rw [sqK_nx, wp_skip, loK_nx]
          exact ⟨m, by omega, z.1, b, true, z.2.1, z.2.2, fun _ => ⟨b8, by omega, by rw [← eR, eh]⟩, fun z => by cases z⟩
      · have nx : nxt (wh T) T h = none := by unfold nxt; rw [bs]; exact if_neg c
        have eh : hotN (wh T) T (m + 1) h = h := by
          show (match nxt (wh T) T h with
            | some b => hotN (wh T) T m b
            | none => h) = h
          rw [nx]
        have c' : ¬ -wh T b < 0 := by omega
        refine wp_set' (d := .bool false) (by simp [lρ, kl', kn, mn, t0, c', c]) ?_
        rw [sqK_nx, wp_seq]
        refine wp_ff (by simp [lρ]) ?_
        rw [wp_skip, sqK_nx, wp_skip, loK_nx]
        exact ⟨0, by omega, F2.set (by decide), h, false, by simp [f1], by simp [lρ], (fun z => by cases z), fun _ => by rw [← eR, eh]⟩
/-! the law's own -/
def optD : Option (List Int) → PyData
  | none => .none
  | some p => intD p
theorem is_none (b : Option (List Int)) : dIs false (optD b) .none = .ok (.bool b.isNone) := by cases b <;> rfl
theorem isn_none (b : Option (List Int)) : dIs true (optD b) .none = .ok (.bool b.isSome) := by cases b <;> rfl
theorem best_loop {T : PI} {h : List Int} {r0 : Rho} {Q : Out → Prop} (l0 : r0.length = 6) (g0 : gt r0 0 = some (.sh (trD T))) (g1 : gt r0 1 = some (.sh (intD h))) (g3 : gt r0 3 = some (.sh .none))
    (he : ∀ ρ, Fr [3, 4, 5] r0 ρ → gt ρ 3 = some (.sh (optD (best (wh T) T h))) → Q (.nx ρ)) : Wp (sFor (iSeq (mVar true 0)) (tTp [tNm 4, tNm 5]) b_l_hot_2) r0 Q := by
  have eB : ∀ k, k < T.length → (((T.take (k + 1)).map (·.1)).filter (kid h)).foldl (obest (wh T)) none = if kid h (T[k]?.getD ([], 0)).1 = true then obest (wh T) ((((T.take k).map (·.1)).filter (kid h)).foldl (obest (wh T)) none) (T[k]?.getD ([], 0)).1 else (((T.take k).map (·.1)).filter (kid h)).foldl (obest (wh T)) none := fun k hk => by
    rw [List.take_succ, List.getElem?_eq_getElem hk, List.map_append, List.filter_append]
    show List.foldl (obest (wh T)) none (_ ++ List.filter (kid h) [T[k].1]) = if kid h T[k].1 = true then _ else _
    by_cases c : kid h T[k].1 = true
    · rw [if_pos c, List.filter_cons, if_pos c, List.filter_nil, List.foldl_append]
      rfl
    · rw [if_neg c, List.filter_cons, if_neg c, List.filter_nil, List.append_nil]
  refine wp_forPT (T := T) (fun k ρ => Fr [3, 4, 5] r0 ρ ∧ gt ρ 3 = some (.sh (optD ((((T.take k).map (·.1)).filter (kid h)).foldl (obest (wh T)) none)))) (iter_seq (by simp [g0, trD])) ⟨.refl, g3⟩ ?_ (fun ρ ⟨F, a⟩ => he ρ F (by rwa [List.take_length] at a))
  rintro k hk ρ ⟨F, f3⟩
  have lρ := F.len
  have f0 := F.get 0 (by decide)
  have f1 := F.get 1 (by decide)
  rw [l0] at lρ
  rw [g0] at f0
  rw [g1] at f1
  rw [eB k hk, List.getElem?_eq_getElem hk]
  have eT : ((some T[k]).getD (([], 0) : List Int × Int)).1 = T[k].1 := rfl
  rw [eT]
  generalize (((T.take k).map (·.1)).filter (kid h)).foldl (obest (wh T)) none = B at f3
  generalize T[k].2 = x2
  generalize T[k].1 = p
  have F1 := (F.set (i := 4) (x := .sh (intD p)) (by decide)).set (i := 5) (x := .sh (.int x2)) (by decide)
  simp only [b_l_hot_2, wp_seq]
  have sl : dSl (intD p) none (some (-1)) = .ok (intD p.dropLast) := by
    have := sl_butlast (ds := p.map .int)
    rw [← List.map_dropLast] at this
    exact this
  have e : decide ((p.length : Int) = (h.length : Int) + 1) = decide (p.length = h.length + 1) := decide_eq_decide.mpr (by omega)
  have tst : tAnd (tBl (mBin dEq (mCall dLen [mVar false 4]) (mBin dAdd (mCall dLen [mVar false 1]) (mC (.int 1))))) (tBl (mBin dEq (mSl (mVar false 4) none (some (mUn dNeg (mC (.int 1))))) (mVar false 1))) ((ρ.set 4 (.sh (intD p))).set 5 (.sh (.int x2))) = .ok (kid h p) := by
    unfold kid
    by_cases c : p.length = h.length + 1
    · simp [lρ, f1, e, c, sl, -List.map_dropLast]
    · simp [lρ, f1, e, c, sl, -List.map_dropLast]
  by_cases c : kid h p = true
  · rw [if_pos c]
    rw [c] at tst
    refine wp_mt (fun ρ' => Fr [3, 4, 5] r0 ρ' ∧ gt ρ' 3 = some (.sh (optD (obest (wh T) B p)))) ?_ (fun ρ' z => ?_)
    · refine wp_tt tst ?_
      rw [wp_seq]
      have w1 := lwhole_sem T p
      refine wp_mt (fun ρ' => Fr [3, 4, 5] r0 ρ' ∧ gt ρ' 3 = some (.sh (optD (obest (wh T) B p)))) ?_ (fun ρ' z => ?_)
      · cases B with
        | none =>
          refine wp_tt (by simp [f3, optD]) ?_
          rw [wp_seq]
          refine wp_set' (d := intD p) (by simp [lρ]) ?_
          rw [sqK_nx, wp_skip, mtK_nx]
          exact ⟨F1.set (by decide), by simp [lρ]; rfl⟩
        | some a =>
          have w2 := lwhole_sem T a
          have ni : dIs false (intD a) .none = .ok (.bool false) := is_none (some a)
          by_cases d : wh T a < wh T p
          · refine wp_tt (by simp [lρ, f0, f3, optD, ni, w1, w2, d]) ?_
            rw [wp_seq]
            refine wp_set' (d := intD p) (by simp [lρ]) ?_
            rw [sqK_nx, wp_skip, mtK_nx]
            refine ⟨F1.set (by decide), ?_⟩
            have : obest (wh T) (some a) p = some p := by
              show some (better (wh T) a p) = _
              unfold better
              rw [if_pos d]
            rw [this]
            simp [lρ]
            rfl
          · refine wp_ff (by simp [lρ, f0, f3, optD, ni, w1, w2, d]) ?_
            rw [wp_skip, mtK_nx]
            refine ⟨F1, ?_⟩
            have : obest (wh T) (some a) p = some a := by
              show some (better (wh T) a p) = _
              unfold better
              rw [if_neg d]
            rw [this]
            simp [f3]
      · rw [sqK_nx, wp_skip, mtK_nx]
        exact z
    · rw [sqK_nx, wp_skip, loK_nx]
      exact z
  · rw [if_neg c]
    rw [Bool.not_eq_true] at c
    rw [c] at tst
    refine wp_ff tst ?_
    rw [wp_skip, sqK_nx, wp_skip, loK_nx]
    exact ⟨F1, by simp [f3]⟩
theorem lhot_sem {T : PI} (v : VT T) : i_l_hot.sem [trD T] = .ok (intD (hotR T)) := by
  refine sem_wp ?_
  simp only [s_l_hot, wp_seq]
  refine wp_set' (d := intD []) (by simp [intD]) ?_
  rw [sqK_nx, wp_seq]
  refine wp_set' (d := .bool true) (by simp) ?_
  rw [sqK_nx, wp_seq]
  generalize hr : List.set _ 2 _ = r0
  have l0 : r0.length = 6 := by rw [← hr]; simp [rho0]
  have g0 : gt r0 0 = some (.sh (trD T)) := by rw [← hr]; simp [rho0]
  have g1 : gt r0 1 = some (.sh (intD [])) := by rw [← hr]; simp [rho0]
  have g2 : gt r0 2 = some (.sh (.bool true)) := by rw [← hr]; simp [rho0]
  clear hr
  refine wp_while (fun n ρ => Fr [1, 2, 3, 4, 5] r0 ρ ∧ ∃ (h : List Int) (g : Bool), gt ρ 1 = some (.sh (intD h)) ∧ gt ρ 2 = some (.sh (.bool g)) ∧ (g = true → h.length ≤ 8 ∧ n + h.length = 9 ∧ hotN (wh T) T n h = hotR T) ∧ (g = false → h = hotR T)) ?_ 9 r0 ⟨.refl, [], true, g1, g2, fun _ => ⟨by simp, by simp, rfl⟩, fun z => by cases z⟩
  rintro n ρ ⟨F, h, g, f1, f2, hg, hn⟩
  have lρ := F.len
  have f0 := F.get 0 (by decide)
  rw [l0] at lρ
  rw [g0] at f0
  cases g with
  | false =>
    refine ⟨false, by simp [t_l_hot_1, f2], ?_⟩
    rw [if_neg (by decide), sqK_nx]
    simp [f1, hn rfl]
  | true =>
    refine ⟨true, by simp [t_l_hot_1, f2], ?_⟩
    rw [if_pos rfl]
    obtain ⟨hl, en, eR⟩ := hg rfl
    simp only [b_l_hot_3, wp_seq]
    refine wp_set' (d := .none) (by simp) ?_
    rw [sqK_nx, wp_seq]
    have F1 := F.set (i := 3) (x := .sh .none) (by decide)
    refine best_loop (T := T) (h := h) (by simp [lρ]) (by simp [f0]) (by simp [f1]) (by simp [lρ]) fun ρ2 G a3 => ?_
    have F2 := F1.trans (G.sub (by decide))
    have l2 := F2.len
    have q0 := F2.get 0 (by decide)
    have q1 := G.get 1 (by decide)
    rw [l0] at l2
    rw [g0] at q0
    simp [f1] at q1
    rw [sqK_nx, wp_seq]
    obtain ⟨m, rfl⟩ : ∃ m, n = m + 1 := ⟨n - 1, by omega⟩
    cases bs : best (wh T) T h with
    | none =>
      rw [bs] at a3
      have nx : nxt (wh T) T h = none := by unfold nxt; rw [bs]
      have eh : hotN (wh T) T (m + 1) h = h := by
        show (match nxt (wh T) T h with
          | some b => hotN (wh T) T m b
          | none => h) = h
        rw [nx]
      refine wp_set' (d := .bool false) (by simp [a3, optD]) ?_
      rw [sqK_nx, wp_seq]
      refine wp_ff (by simp [l2]) ?_
      rw [wp_skip, sqK_nx, wp_skip, loK_nx]
      exact ⟨0, by omega, F2.set (by decide), h, false, by simp [q1], by simp [l2], (fun z => by cases z), fun _ => by rw [← eR, eh]⟩
    | some b =>
      rw [bs] at a3
      have w := lwhole_sem T b
      have ni : dIs true (intD b) .none = .ok (.bool true) := isn_none (some b)
      by_cases c : 0 < wh T b
      · have nx : nxt (wh T) T h = some b := by unfold nxt; rw [bs]; exact if_pos c
        have eh : hotN (wh T) T (m + 1) h = hotN (wh T) T m b := by
          show (match nxt (wh T) T h with
            | some b => hotN (wh T) T m b
            | none => h) = _
          rw [nx]
        refine wp_set' (d := .bool true) (by simp [a3, optD, ni, q0, w, c]) ?_
        rw [sqK_nx, wp_seq]
        obtain ⟨bm, bl⟩ := nxt_kid nx
        obtain ⟨x, hx, ex⟩ := List.mem_map.mp bm
        have b8 := (v.ok x hx).1
        rw [ex] at b8
        refine wp_mt (fun ρ' => Fr [1, 2, 3, 4, 5] r0 ρ' ∧ gt ρ' 1 = some (.sh (intD b)) ∧ gt ρ' 2 = some (.sh (.bool true))) ?_ (fun ρ' z => ?_)
        · refine wp_tt (by simp [l2]) ?_
          rw [wp_seq]
          refine wp_set' (d := intD b) (by simp [a3, optD]) ?_
          rw [sqK_nx, wp_skip, mtK_nx]
          exact ⟨(F2.set (by decide)).set (by decide), by simp [l2], by simp [l2]⟩
        · rw [sqK_nx, wp_skip, loK_nx]
          exact ⟨m, by omega, z.1, b, true, z.2.1, z.2.2, fun _ => ⟨b8, by omega, by rw [← eR, eh]⟩, fun z => by cases z⟩
      · have nx : nxt (wh T) T h = none := by unfold nxt; rw [bs]; exact if_neg c
        have eh : hotN (wh T) T (m + 1) h = h := by
          show (match nxt (wh T) T h with
            | some b => hotN (wh T) T m b
            | none => h) = h
          rw [nx]
        refine wp_set' (d := .bool false) (by simp [a3, optD, ni, q0, w, c]) ?_
        rw [sqK_nx, wp_seq]
        refine wp_ff (by simp [l2]) ?_
        rw [wp_skip, sqK_nx, wp_skip, loK_nx]
        exact ⟨0, by omega, F2.set (by decide), h, false, by simp [q1], by simp [l2], (fun z => by cases z), fun _ => by rw [← eR, eh]⟩
end K75

/-! k75: what the law looks at. -/
namespace K75
open PySem L2 Sm Tr
theorem isP_ok {p : List Int} (h1 : p.length ≤ 8) (h2 : ∀ n ∈ p, 0 ≤ n ∧ n ≤ 9) : isP p = true := by
  unfold isP
  rw [Bool.and_eq_true, decide_eq_true_eq, List.all_eq_true]
  refine ⟨h1, fun n hn => ?_⟩
  rw [Bool.and_eq_true, decide_eq_true_eq, decide_eq_true_eq]
  exact h2 n hn
theorem show_path {p : List Int} (h1 : p.length ≤ 8) (h2 : ∀ n ∈ p, 0 ≤ n ∧ n ≤ 9) : dRepr [intD p] = .ok (.str (intD p).shown) := show_ints (fun i hi => by
  have := h2 i hi
  have : (9 : Nat) < 10 ^ 12 := by decide
  omega) (by omega)
theorem okD_pr {p : Int × Int} (h : p.1.natAbs < 10 ^ 12 ∧ p.2.natAbs < 10 ^ 12) : okD (Sm.prD p) = true := okDs_all (ds := [.int p.1, .int p.2]) fun d hd => by
  simp at hd
  rcases hd with rfl | rfl
  · exact okD_int h.1
  · exact okD_int h.2
theorem show_P {L : List (Int × Int)} (h : ∀ x ∈ L, x.1.natAbs < 10 ^ 12 ∧ x.2.natAbs < 10 ^ 12) (hl : L.length ≤ 1000) : dRepr [prsD L] = .ok (.str (prsD L).shown) := by
  have e : (3000 : Nat) ≤ 2 ^ 20 := by decide
  have dp : (prsD L).depth ≤ 2 := by
    have q : PyData.depthAll (L.map Sm.prD) ≤ 1 := depthAll_le fun d hd => by
      obtain ⟨x, _, rfl⟩ := List.mem_map.mp hd
      exact Nat.le_refl _
    show PyData.depthAll (L.map Sm.prD) + 1 ≤ 2
    omega
  have bk : (prsD L).bulk ≤ 3 * L.length := by
    have q2 : PyData.bulkAll (L.map Sm.prD) ≤ (2 + 1) * (L.map Sm.prD).length := bulkAll_le fun d hd => by
      obtain ⟨p, _, rfl⟩ := List.mem_map.mp hd
      exact Nat.le_refl _
    rw [List.length_map] at q2
    exact q2
  exact repr_of (shows_of (okDs_all fun d hd => by
    obtain ⟨x, hx, rfl⟩ := List.mem_map.mp hd
    exact okD_pr (h x hx)) (Nat.le_trans dp (by decide)) (Nat.le_trans bk (by omega)))
theorem filt_abs {T : PI} {M : Nat} (h : ∀ x ∈ T, x.2.natAbs ≤ M) (p : List Int × Int → Bool) : (((T.filter p).map fun x : List Int × Int => x.2).sum).natAbs ≤ M * T.length := by
  induction T with
  | nil => exact Nat.zero_le _
  | cons x T ih =>
    have a := ih fun y m => h y (List.mem_cons_of_mem _ m)
    have b := h x List.mem_cons_self
    rw [List.length_cons, Nat.mul_succ, List.filter_cons]
    split
    · rw [List.map_cons, List.sum_cons]
      omega
    · omega
theorem names_ok {T : PI} (v : VT T) : (∀ n ∈ names T, 0 ≤ n ∧ n ≤ 9) ∧ (names T).length ≤ 64 := by
  have pm : (names T).Perm (metI (T.map (·.1)).flatten) := List.mergeSort_perm _ _
  refine ⟨fun n hn => ?_, by have := pm.length_eq; have := flat_met v; omega⟩
  have := pm.mem_iff.mp hn
  rw [metI_has] at this
  obtain ⟨p, hp, m⟩ := List.mem_flatten.mp this
  obtain ⟨y, hy, rfl⟩ := List.mem_map.mp hp
  exact (v.ok y hy).2.1 n m
theorem show_names {T : PI} {n : Nat} (d : Dr T n) (p : Int → List Int × Int → Bool) : dRepr [prsD ((names T).map fun n => (n, ((T.filter (p n)).map fun x : List Int × Int => x.2).sum))] = .ok (.str (prsD ((names T).map fun n => (n, ((T.filter (p n)).map fun x : List Int × Int => x.2).sum))).shown) := by
  obtain ⟨a, b⟩ := names_ok d.toVT
  have e : (100000000 * 60 : Nat) < 10 ^ 12 := by decide
  have e9 : (9 : Nat) < 10 ^ 12 := by decide
  refine show_P (fun x hx => ?_) (by rw [List.length_map]; omega)
  obtain ⟨m, hm, rfl⟩ := List.mem_map.mp hx
  have q := a m hm
  have f := filt_abs (T := T) (M := 100000000) (fun x hx => (d.absb x hx).2.2) (p m)
  have g := Nat.mul_le_mul_left 100000000 d.len
  refine ⟨by show m.natAbs < _; omega, ?_⟩
  show (((T.filter (p m)).map fun x : List Int × Int => x.2).sum).natAbs < _
  omega
theorem hotN_ok {T : PI} {w : List Int → Int} {P : List Int → Prop} (hT : ∀ q ∈ T.map (·.1), P q) : ∀ (n : Nat) (h : List Int), P h → P (hotN w T n h)
  | 0, h, k => k
  | n + 1, h, k => by
    show P (match nxt w T h with
      | some b => hotN w T n b
      | none => h)
    cases e : nxt w T h with
    | none => exact k
    | some b => exact hotN_ok hT n b (hT b (nxt_kid e).1)
theorem show_hot {T : PI} (v : VT T) : dRepr [intD (hotR T)] = .ok (.str (intD (hotR T)).shown) := by
  have := hotN_ok (T := T) (w := wh T) (P := fun q => q.length ≤ 8 ∧ ∀ n ∈ q, 0 ≤ n ∧ n ≤ 9) (fun q hq => by
    obtain ⟨x, hx, rfl⟩ := List.mem_map.mp hq
    exact ⟨(v.ok x hx).1, (v.ok x hx).2.1⟩) 9 [] ⟨by simp, by simp⟩
  exact show_path this.1 this.2
theorem last_eq (p : List Int) (n : Int) : decide (p.drop (p.length - 1) = [n]) = decide (p.getLast? = some n) := by
  rcases List.eq_nil_or_concat p with e | ⟨r, x, e⟩
  · subst e
    simp
  · rw [e, List.concat_eq_append]
    have h : (r ++ [x]).drop ((r ++ [x]).length - 1) = [x] := by simp
    rw [h]
    simp
theorem path_loop {T : PI} {L : PI} (v : VT T) (sub : ∀ x ∈ L, x ∈ T) {r0 : Rho} {Q : Out → Prop} {it : Its} (hit : it r0 = .ok (L.map prT)) (l0 : r0.length = 13)
    (he : ∀ ρ, Fr [6, 7, 8] r0 ρ → Q (.nx ρ)) : Wp (sFor it (tTp [tNm 6, tNm 7]) b_law_1) r0 Q := by
  refine wp_forPT (T := L) (fun k ρ => Fr [6, 7, 8] r0 ρ) hit .refl ?_ (fun ρ F => he ρ F)
  rintro k hk ρ F
  have lρ := F.len
  rw [l0] at lρ
  have o := v.ok _ (sub _ (List.getElem_mem hk))
  generalize L[k].2 = x2
  generalize L[k].1 = p at o
  simp only [b_law_1, wp_seq]
  have fo := fold_ok p
  have fl : (Tr.fold p).length ≤ 8 := by have := fo.2.2; have := o.1; omega
  have fm : ∀ n ∈ Tr.fold p, 0 ≤ n ∧ n ≤ 9 := fun n hn => o.2.1 n (fo.2.1 n hn)
  have ls : dList [intD p] = .ok (intD p) := rfl
  have f1 := fpath_ok (isP_ok o.1 o.2.1) (by omega)
  have f2 := fpath_ok (isP_ok fl fm) (by omega)
  rw [fold_id fo.1] at f2
  have f3 := lfold_sem (p := p) (by omega)
  have sh := show_path fl fm
  refine wp_set' (d := intD (Tr.fold p)) (by simp [lρ, ls, f1]) ?_
  rw [sqK_nx, wp_seq]
  refine wp_ff (by simp [lρ, f2, f3, sh]) ?_
  rw [wp_skip, sqK_nx, wp_skip, loK_nx]
  exact ((F.set (by decide)).set (by decide)).set (by decide)
theorem rows_sum {R : List (List Int)} (h : R ≠ []) (hl : R.flatten.length ≤ 1000) : dSum2 [.list (R.map intD), .list []] = .ok (intD R.flatten) := by
  have e : ∀ L : List (List Int), listsOf (L.map intD) = some (L.map fun T => T.map PyData.int) := by
    intro L
    induction L with
    | nil => rfl
    | cons T L ih =>
      show (match listsOf (L.map intD) with
        | some r => some ((T.map PyData.int) :: r)
        | none => none) = _
      rw [ih]
      rfl
  cases R with
  | nil => exact absurd rfl h
  | cons T Ts =>
    show (match listsOf ((T :: Ts).map intD) with
      | some (l :: ls) => if ([] : List PyData).length + (l :: ls).flatten.length ≤ sizeLine then Rs.ok (PyData.list ([] ++ (l :: ls).flatten)) else .no
      | _ => .no) = _
    rw [e]
    show (if ([] : List PyData).length + ((T :: Ts).map fun T => T.map PyData.int).flatten.length ≤ sizeLine then Rs.ok (PyData.list ([] ++ ((T :: Ts).map fun T => T.map PyData.int).flatten)) else Rs.no) = _
    have f : ((T :: Ts).map fun T => T.map PyData.int).flatten = (T :: Ts).flatten.map .int := by rw [List.map_flatten]
    rw [f, if_pos (by rw [sizeLine_eq, List.length_map]; simp only [List.length_nil]; omega)]
    rfl
end K75

/-! k75: the law. -/
namespace K75
open PySem L2 Sm Tr
theorem sum_all (T : PI) : ((T.filter fun _ => true).map fun x : List Int × Int => x.2).sum = (T.map (·.2)).sum := by
  rw [List.filter_eq_self.mpr fun _ _ => rfl]
set_option maxHeartbeats 0 in
theorem law_run (a : Addr) (ns : List Int) (hns : ns.length ≤ 63) : s_law (rho0 13 [.fz a ns]) = .rt (.bool true) := by
  apply wp_eq
  obtain ⟨D, hD⟩ : ∃ D, drawsI ns = D := ⟨_, rfl⟩
  have f0 := draws_ok hns
  rw [hD] at f0
  simp only [s_law]
  rw [wp_seq]
  refine wp_set' (d := intD D) (by
    rw [fz_call (a := a) (ns := ns) rfl]
    exact f0) ?_
  rw [sqK_nx, wp_seq]
  have q0 := mx' D 0 (many := 60) (by decide)
  have q0l := mixN_lt D 0 (many := 60) (by decide)
  generalize mixN D 0 60 = c at q0 q0l
  have q1 := mx' D 1 (many := 3) (by decide)
  have q1l := mixN_lt D 1 (many := 3) (by decide)
  generalize mixN D 1 3 = i at q1 q1l
  have q2 := mx' D 2 (many := 3) (by decide)
  have q2l := mixN_lt D 2 (many := 3) (by decide)
  generalize mixN D 2 3 = j at q2 q2l
  obtain ⟨nm, n1, n2, en⟩ : ∃ nm : Int, 1 ≤ nm ∧ nm ≤ 10 ∧ dIx (.list [.int 2, .int 4, .int 10]) (.int (i : Nat)) = .ok (.int nm) := by
    rcases (by omega : i = 0 ∨ i = 1 ∨ i = 2) with rfl | rfl | rfl
    · exact ⟨2, by decide, by decide, rfl⟩
    · exact ⟨4, by decide, by decide, rfl⟩
    · exact ⟨10, by decide, by decide, rfl⟩
  obtain ⟨ms, m1, m2, em⟩ : ∃ ms : Int, 1 ≤ ms ∧ ms ≤ 1000001 ∧ dIx (.list [.int 2, .int 9, .int 1000001]) (.int (j : Nat)) = .ok (.int ms) := by
    rcases (by omega : j = 0 ∨ j = 1 ∨ j = 2) with rfl | rfl | rfl
    · exact ⟨2, by decide, by decide, rfl⟩
    · exact ⟨9, by decide, by decide, rfl⟩
    · exact ⟨1000001, by decide, by decide, rfl⟩
  obtain ⟨T, dT, eT⟩ := ltree_sem (D := D) (first := 10) (count := c) (by omega) n1 n2 m1 m2
  have v := dT.toVT
  have tl := v.len
  have tp : 0 < T.length := by
    obtain ⟨x, hx, _⟩ := List.mem_map.mp v.root
    exact List.length_pos_of_mem hx
  refine wp_set' (d := trD T) (by simp [rho0, q0, q1, q2, en, em, eT]) ?_
  rw [sqK_nx, wp_seq]
  have shT := dT.sml.show
  refine wp_set' (d := .str (trD T).shown) (by simp [rho0, shT]) ?_
  rw [sqK_nx, wp_seq]
  have lsm := lsummed_sem (P := fpt T) (by rw [fpt_len]; omega) fun x hx => by have := (fpt_ok v x hx).1; omega
  refine wp_set' (d := trD (S (fpt T))) (by
    rw [mCall_ap, mAll_cons, comp_fold v (f := i_l_fold) (fun p hp => lfold_sem hp) (iter_seq (by simp [rho0, trD])) (by simp [rho0, wipeR]) (by simp [rho0, wipeR]) (by decide)]
    simp [lsm]) ?_
  rw [sqK_nx, wp_seq]
  have fd := folded_sem v
  have fd2 := folded_sem (S_fpt_VT v)
  rw [fpt_S, S_S] at fd2
  have sl := S_fpt_len v
  have ow : ∀ M : PI, ownC (trD M) = .ow (trD M) := fun M => ownC_list
  refine wp_own' (d := trD (S (fpt T))) (by simp [rho0, fd]) ?_
  rw [ow, sqK_nx, wp_seq]
  have shS := (S_sml (P := fpt T) (fun x hx => by
    obtain ⟨y, hy, rfl⟩ := List.mem_map.mp hx
    have o := fpt_ok v _ hx
    exact ⟨o.1, o.2.1, (dT.absb y hy).2.2⟩) (by rw [fpt_len]; omega) (by omega)).show
  have sums : ((S (fpt T)).map (·.2)).sum = (T.map (·.2)).sum := by rw [sum_S, sum_fpt]
  generalize hr : List.set _ 5 _ = r0
  have l0 : r0.length = 13 := by rw [← hr]; simp [rho0]
  have g2 : gt r0 2 = some (.sh (trD T)) := by rw [← hr]; simp [rho0]
  have g3 : gt r0 3 = some (.sh (.str (trD T).shown)) := by rw [← hr]; simp [rho0]
  have g4 : gt r0 4 = some (.sh (trD (S (fpt T)))) := by rw [← hr]; simp [rho0]
  have g5 : gt r0 5 = some (.ow (trD (S (fpt T)))) := by rw [← hr]; simp [rho0]
  clear hr
  generalize hU : S (fpt T) = U at *
  have s1 := sum_PT (T := U) (t := fun _ => .ok true) (own := [6, 7]) (i := 6) (j := 7) (ρ := r0) (it := iSeq (mVar false 5)) (fun _ => true) (iter_seq (by simp [g5, trD])) (by simp [wipeR, l0]) (fun x hx => rfl)
  have s2 := sum_PT (T := T) (t := fun _ => .ok true) (own := [6, 7]) (i := 6) (j := 7) (ρ := r0) (it := iSeq (mVar false 2)) (fun _ => true) (iter_seq (by simp [g2, trD])) (by simp [wipeR, l0]) (fun x hx => rfl)
  rw [sum_all, sums] at s1
  rw [sum_all] at s2
  refine wp_ff (by
    rw [tOr_ap, tBl_ap (m := mBin dNe (mCall dSum _) _), mBin_ap (m := mCall dSum _), s1, s2]
    simp [g4, g5, shS]) ?_
  rw [wp_skip, sqK_nx, wp_seq]
  refine wp_ff (lend1 g5 (by simp [l0, g4, shS, fd2])) ?_
  rw [wp_skip, sqK_nx, wp_seq]
  have s20 : dSl (trD T) none (some 20) = .ok (trD (T.take 20)) := sl_to (l := T) (enc := prT) (i := 20) (by decide)
  refine path_loop v (L := T.take 20) (fun x hx => List.mem_of_mem_take hx) (iter_seq (by
    have e : mSl (mVar false 2) none (some (mC (.int 20))) r0 = .ok (trD (T.take 20)) := by simp [g2, s20]
    rw [e]
    rfl)) l0 fun r1 F1 => ?_
  have l1 := F1.len
  have k2 := F1.get 2 (by decide)
  have k3 := F1.get 3 (by decide)
  have k4 := F1.get 4 (by decide)
  have k5 := F1.get 5 (by decide)
  rw [l0] at l1
  rw [g2] at k2
  rw [g3] at k3
  rw [g4] at k4
  rw [g5] at k5
  clear F1
  rw [sqK_nx, wp_seq]
  have rs := rows_sum (R := T.map (·.1)) (by
    intro e
    have := congrArg List.length e
    rw [List.length_map] at this
    have : T.length = 0 := this
    omega) (by have := flat_len v; omega)
  rw [List.map_map] at rs
  refine wp_set' (d := intD (names T)) (sortset (L := (T.map (·.1)).flatten) (by
    rw [mCall_ap, mAll_cons, comp_PT T (iter_seq (by simp [k2, trD])) (fun _ => true) (fun x => intD x.1) (fun x hx => ⟨rfl, fun _ => by simp [wipeR, l1]⟩)]
    rw [List.filter_eq_self.mpr fun _ _ => rfl]
    have rs' : dSum2 [.list (T.map fun x => intD x.1), .list []] = .ok (intD (T.map (·.1)).flatten) := rs
    simp [rs']) (by have := flat_len v; omega) (flat_met v)) ?_
  rw [sqK_nx, wp_seq]
  refine wp_set' (d := prsD ((names T).map fun n => (n, lastS T n))) (by
    rw [comp_enc (names T) .int (iter_seq (by simp [l1, intD])) (fun _ => true) (fun n => Sm.prD (n, lastS T n)) (by
      intro n hn
      refine ⟨_, rfl, rfl, fun _ => ?_⟩
      rw [mTup_ap, mAll_cons, mAll_cons, sum_PT (T := T) (fun x => decide (x.1.drop (x.1.length - 1) = [n])) (iter_seq (by simp [wipeR, k2, trD])) (by simp [wipeR, l1]) (by
        intro x hx
        rw [last_eq]
        cases e : x.1.getLast? with
        | none =>
          have e' : x.1 = [] := List.getLast?_eq_none_iff.mp e
          simp [wipeR, l1, e']
        | some y =>
          have ne : x.1 ≠ [] := fun z => by rw [z] at e; cases e
          have ix := ix_last1 e
          simp [wipeR, l1, ne, ix])]
      simp [wipeR, l1]
      rfl)]
    rw [List.filter_eq_self.mpr fun _ _ => rfl]
    unfold prsD
    rw [List.map_map]
    rfl) ?_
  rw [sqK_nx, wp_seq]
  refine wp_set' (d := prsD ((names T).map fun n => (n, hasS T n))) (by
    rw [comp_enc (names T) .int (iter_seq (by simp [l1, intD])) (fun _ => true) (fun n => Sm.prD (n, hasS T n)) (by
      intro n hn
      refine ⟨_, rfl, rfl, fun _ => ?_⟩
      rw [mTup_ap, mAll_cons, mAll_cons, sum_PT (T := T) (fun x => decide (n ∈ x.1)) (iter_seq (by simp [wipeR, k2, trD])) (by simp [wipeR, l1]) (by
        intro x hx
        simp [wipeR, l1])]
      simp [wipeR, l1]
      rfl)]
    rw [List.filter_eq_self.mpr fun _ _ => rfl]
    unfold prsD
    rw [List.map_map]
    rfl) ?_
  rw [sqK_nx, wp_seq]
  have o1 := own_sem v
  have o2 := reach_sem v
  have o3 := hot_sem v
  have o4 := lhot_sem v
  have w1 : dRepr [prsD ((names T).map fun n => (n, lastS T n))] = .ok (.str (prsD ((names T).map fun n => (n, lastS T n))).shown) := show_names dT fun n x => decide (x.1.drop (x.1.length - 1) = [n])
  have w2 : dRepr [prsD ((names T).map fun n => (n, hasS T n))] = .ok (.str (prsD ((names T).map fun n => (n, hasS T n))).shown) := show_names dT fun n x => decide (n ∈ x.1)
  have w3 := show_hot v
  generalize prsD ((names T).map fun n => (n, lastS T n)) = A1 at *
  generalize prsD ((names T).map fun n => (n, hasS T n)) = A2 at *
  refine wp_ff (by simp [l1, k2, o1, o2, o3, o4, w1, w2, w3]) ?_
  rw [wp_skip, sqK_nx, wp_seq]
  refine wp_app' (ds := U.map prT) (d := .int 0) (by simp [k5, trD]) (by simp) (by simp; omega) ?_
  rw [sqK_nx, wp_seq]
  refine wp_ff (by simp [l1, k2, k3, k4, fd, shS, shT]) ?_
  rw [wp_skip, sqK_nx, wp_seq]
  have b1 := word_bad (p := [10]) (by decide)
  have b2 := word_bad (p := [0, -1]) (by decide)
  obtain ⟨Z, hZ⟩ : ∃ Z, Z = List.replicate 9 (1 : Int) := ⟨_, rfl⟩
  have b3 := word_bad (p := Z) (by rw [hZ]; decide)
  have z9 : dMul (.list [.int 1]) (.int 9) = .ok (intD Z) := by
    rw [hZ]
    have := dMul_list (a := [PyData.int 1]) (k := 9) (by simp) (by decide)
    have e : ((9 : Nat) : Int) = 9 := rfl
    rw [e] at this
    rw [this]
    rfl
  have e1 : PyData.list [.int 10] = intD [10] := rfl
  have e2 : PyData.list [.int 0, .int (-1)] = intD [0, -1] := rfl
  simp [e1, e2, z9, b1, b2, b3]
end K75

namespace K75
open PySem PySem.Spec PyProof.Rows L2 Sm
def clsBody : Stmt → List Stmt
  | .ClassDef _ _ _ b .. => b
  | _ => []
def sInit : Stmt := (clsBody (topS 1)).getD 0 (.Pass ⟨0, 0, 0, 0⟩)
def pI : Nat → Pos := fun i => ([⟨5, 8, 5, 13⟩, ⟨5, 8, 5, 15⟩, ⟨5, 8, 5, 24⟩, ⟨5, 25, 5, 27⟩, ⟨5, 8, 5, 28⟩, ⟨5, 8, 5, 28⟩, ⟨6, 8, 6, 12⟩, ⟨6, 8, 6, 15⟩, ⟨6, 18, 6, 20⟩, ⟨6, 8, 6, 20⟩] : List Pos).getD i ⟨0, 0, 0, 0⟩
theorem hBI : defBody sInit = initBody pI := by kernel_rfl
theorem scI : InitScope (defScope sInit) := ⟨rfl, rfl, rfl, by decide +kernel, by decide +kernel, by decide +kernel, by decide +kernel, by decide +kernel, by decide +kernel⟩
set_option maxHeartbeats 0 in
theorem all_mk {l : PySem.W.OpenLaw} {w : World} {K : PySem.W.Frag} {h : Heap} {mg : Str → Option Value} (X : K.In h) (G : h.Ns mainGlobals mg)
    {fa : Addr}
    {f0 : Addr} {od0 an0 : Option Addr} {sl0 : Array (Option Value)} {oc0 kV0 dc0 pm0 cd0 ct0 : Value}
    {f1 : Addr} {od1 an1 : Option Addr} {sl1 : Array (Option Value)} {oc1 kV1 dc1 pm1 cd1 ct1 : Value}
    {f2 : Addr} {od2 an2 : Option Addr} {sl2 : Array (Option Value)} {oc2 kV2 dc2 pm2 cd2 ct2 : Value}
    {f3 : Addr} {od3 an3 : Option Addr} {sl3 : Array (Option Value)} {oc3 kV3 dc3 pm3 cd3 ct3 : Value}
    {f4 : Addr} {od4 an4 : Option Addr} {sl4 : Array (Option Value)} {oc4 kV4 dc4 pm4 cd4 ct4 : Value}
    {f5 : Addr} {od5 an5 : Option Addr} {sl5 : Array (Option Value)} {oc5 kV5 dc5 pm5 cd5 ct5 : Value}
    {f6 : Addr} {od6 an6 : Option Addr} {sl6 : Array (Option Value)} {oc6 kV6 dc6 pm6 cd6 ct6 : Value}
    {f7 : Addr} {od7 an7 : Option Addr} {sl7 : Array (Option Value)} {oc7 kV7 dc7 pm7 cd7 ct7 : Value}
    {f8 : Addr} {od8 an8 : Option Addr} {sl8 : Array (Option Value)} {oc8 kV8 dc8 pm8 cd8 ct8 : Value}
    {f9 : Addr} {od9 an9 : Option Addr} {sl9 : Array (Option Value)} {oc9 kV9 dc9 pm9 cd9 ct9 : Value}
    {f10 : Addr} {od10 an10 : Option Addr} {sl10 : Array (Option Value)} {oc10 kV10 dc10 pm10 cd10 ct10 : Value}
    {f11 : Addr} {od11 an11 : Option Addr} {sl11 : Array (Option Value)} {oc11 kV11 dc11 pm11 cd11 ct11 : Value}
    {f12 : Addr} {od12 an12 : Option Addr} {sl12 : Array (Option Value)} {oc12 kV12 dc12 pm12 cd12 ct12 : Value}
    {f13 : Addr} {od13 an13 : Option Addr} {sl13 : Array (Option Value)} {oc13 kV13 dc13 pm13 cd13 ct13 : Value}
    {f14 : Addr} {od14 an14 : Option Addr} {sl14 : Array (Option Value)} {oc14 kV14 dc14 pm14 cd14 ct14 : Value}
    {f15 : Addr} {od15 an15 : Option Addr} {sl15 : Array (Option Value)} {oc15 kV15 dc15 pm15 cd15 ct15 : Value}
    {f16 : Addr} {od16 an16 : Option Addr} {sl16 : Array (Option Value)} {oc16 kV16 dc16 pm16 cd16 ct16 : Value}
    {f17 : Addr} {od17 an17 : Option Addr} {sl17 : Array (Option Value)} {oc17 kV17 dc17 pm17 cd17 ct17 : Value}
    {f18 : Addr} {od18 an18 : Option Addr} {sl18 : Array (Option Value)} {oc18 kV18 dc18 pm18 cd18 ct18 : Value}
    {f19 : Addr} {od19 an19 : Option Addr} {sl19 : Array (Option Value)} {oc19 kV19 dc19 pm19 cd19 ct19 : Value}
    {f20 : Addr} {od20 an20 : Option Addr} {sl20 : Array (Option Value)} {oc20 kV20 dc20 pm20 cd20 ct20 : Value}
    {t_MOST_NAME : Tok}
    {t_MOST_NAMES : Tok}
    {t_MOST_PATHS : Tok}
    {D N_D : Addr} {q_D : Str} {bs_D sub_D : List Value} {sn_D : List Str} {ab_D : Bool} {col_D : Option Bool} {dd_D : Option Addr} {k0_D k1_D k2_D k3_D k5_D : Option Value}
    {C_TooMany_ N_TooMany : Addr} {q_TooMany : Str} {bs_TooMany sub_TooMany : List Value} {sn_TooMany : List Str} {ab_TooMany : Bool} {col_TooMany : Option Bool} {dd_TooMany : Option Addr} {k0_TooMany k1_TooMany k2_TooMany k3_TooMany k5_TooMany : Option Value}
    {fI : Addr}
    {C_BadPath_ N_BadPath : Addr} {q_BadPath : Str} {bs_BadPath sub_BadPath : List Value} {sn_BadPath : List Str} {ab_BadPath : Bool} {col_BadPath : Option Bool} {dd_BadPath : Option Addr} {k0_BadPath k1_BadPath k2_BadPath k3_BadPath k5_BadPath : Option Value}
    {cda cc : Addr} {odI anI cddI kdI : Option Addr} {slI ccsI kslI : Array (Option Value)} {ocI kVI dcI pmI ctI cclI kclI : Value} {fileI : Str} {tfI : Tok}
    {vsI : Array Value}
    (hfa : mg "law" = some (.ref fa))
    (a0 : PySem.W.nsIn K mainGlobals "_law_draws" = some (some (.ref f0)))
    (l0 : K.lookup f0 = some ⟨oc0, od0, .func (PySem.W.fnOf "_law_draws" "_law_draws" (defArgs (topS 22)) (defBody (topS 22)) (defScope (topS 22)) .none kV0 dc0 pm0 an0 cd0 ct0), sl0⟩)
    (c0 : PySem.W.codeIn K cd0 "_law_draws" = true)
    (k0 : PySem.W.keepIn K (.ref f0) = true)
    (a1 : PySem.W.nsIn K mainGlobals "_law_mix" = some (some (.ref f1)))
    (l1 : K.lookup f1 = some ⟨oc1, od1, .func (PySem.W.fnOf "_law_mix" "_law_mix" (defArgs (topS 23)) (defBody (topS 23)) (defScope (topS 23)) .none kV1 dc1 pm1 an1 cd1 ct1), sl1⟩)
    (c1 : PySem.W.codeIn K cd1 "_law_mix" = true)
    (k1 : PySem.W.keepIn K (.ref f1) = true)
    (a2 : PySem.W.nsIn K mainGlobals "_law_tree" = some (some (.ref f2)))
    (l2 : K.lookup f2 = some ⟨oc2, od2, .func (PySem.W.fnOf "_law_tree" "_law_tree" (defArgs (topS 24)) (defBody (topS 24)) (defScope (topS 24)) .none kV2 dc2 pm2 an2 cd2 ct2), sl2⟩)
    (c2 : PySem.W.codeIn K cd2 "_law_tree" = true)
    (k2 : PySem.W.keepIn K (.ref f2) = true)
    (a3 : PySem.W.nsIn K mainGlobals "_law_summed" = some (some (.ref f3)))
    (l3 : K.lookup f3 = some ⟨oc3, od3, .func (PySem.W.fnOf "_law_summed" "_law_summed" (defArgs (topS 25)) (defBody (topS 25)) (defScope (topS 25)) .none kV3 dc3 pm3 an3 cd3 ct3), sl3⟩)
    (c3 : PySem.W.codeIn K cd3 "_law_summed" = true)
    (k3 : PySem.W.keepIn K (.ref f3) = true)
    (a4 : PySem.W.nsIn K mainGlobals "is_path" = some (some (.ref f4)))
    (l4 : K.lookup f4 = some ⟨oc4, od4, .func (PySem.W.fnOf "is_path" "is_path" (defArgs (topS 8)) (defBody (topS 8)) (defScope (topS 8)) .none kV4 dc4 pm4 an4 cd4 ct4), sl4⟩)
    (c4 : PySem.W.codeIn K cd4 "is_path" = true)
    (k4 : PySem.W.keepIn K (.ref f4) = true)
    (a5 : PySem.W.nsIn K mainGlobals "check_tree" = some (some (.ref f5)))
    (l5 : K.lookup f5 = some ⟨oc5, od5, .func (PySem.W.fnOf "check_tree" "check_tree" (defArgs (topS 9)) (defBody (topS 9)) (defScope (topS 9)) .none kV5 dc5 pm5 an5 cd5 ct5), sl5⟩)
    (c5 : PySem.W.codeIn K cd5 "check_tree" = true)
    (k5 : PySem.W.keepIn K (.ref f5) = true)
    (a6 : PySem.W.nsIn K mainGlobals "summed" = some (some (.ref f6)))
    (l6 : K.lookup f6 = some ⟨oc6, od6, .func (PySem.W.fnOf "summed" "summed" (defArgs (topS 11)) (defBody (topS 11)) (defScope (topS 11)) .none kV6 dc6 pm6 an6 cd6 ct6), sl6⟩)
    (c6 : PySem.W.codeIn K cd6 "summed" = true)
    (k6 : PySem.W.keepIn K (.ref f6) = true)
    (a7 : PySem.W.nsIn K mainGlobals "fold" = some (some (.ref f7)))
    (l7 : K.lookup f7 = some ⟨oc7, od7, .func (PySem.W.fnOf "fold" "fold" (defArgs (topS 12)) (defBody (topS 12)) (defScope (topS 12)) .none kV7 dc7 pm7 an7 cd7 ct7), sl7⟩)
    (c7 : PySem.W.codeIn K cd7 "fold" = true)
    (k7 : PySem.W.keepIn K (.ref f7) = true)
    (a8 : PySem.W.nsIn K mainGlobals "folded" = some (some (.ref f8)))
    (l8 : K.lookup f8 = some ⟨oc8, od8, .func (PySem.W.fnOf "folded" "folded" (defArgs (topS 14)) (defBody (topS 14)) (defScope (topS 14)) .none kV8 dc8 pm8 an8 cd8 ct8), sl8⟩)
    (c8 : PySem.W.codeIn K cd8 "folded" = true)
    (k8 : PySem.W.keepIn K (.ref f8) = true)
    (a9 : PySem.W.nsIn K mainGlobals "folded_path" = some (some (.ref f9)))
    (l9 : K.lookup f9 = some ⟨oc9, od9, .func (PySem.W.fnOf "folded_path" "folded_path" (defArgs (topS 13)) (defBody (topS 13)) (defScope (topS 13)) .none kV9 dc9 pm9 an9 cd9 ct9), sl9⟩)
    (c9 : PySem.W.codeIn K cd9 "folded_path" = true)
    (k9 : PySem.W.keepIn K (.ref f9) = true)
    (a10 : PySem.W.nsIn K mainGlobals "_law_word" = some (some (.ref f10)))
    (l10 : K.lookup f10 = some ⟨oc10, od10, .func (PySem.W.fnOf "_law_word" "_law_word" (defArgs (topS 29)) (defBody (topS 29)) (defScope (topS 29)) .none kV10 dc10 pm10 an10 cd10 ct10), sl10⟩)
    (c10 : PySem.W.codeIn K cd10 "_law_word" = true)
    (k10 : PySem.W.keepIn K (.ref f10) = true)
    (a11 : PySem.W.nsIn K mainGlobals "_law_fold" = some (some (.ref f11)))
    (l11 : K.lookup f11 = some ⟨oc11, od11, .func (PySem.W.fnOf "_law_fold" "_law_fold" (defArgs (topS 26)) (defBody (topS 26)) (defScope (topS 26)) .none kV11 dc11 pm11 an11 cd11 ct11), sl11⟩)
    (c11 : PySem.W.codeIn K cd11 "_law_fold" = true)
    (k11 : PySem.W.keepIn K (.ref f11) = true)
    (a12 : PySem.W.nsIn K mainGlobals "names_of" = some (some (.ref f12)))
    (l12 : K.lookup f12 = some ⟨oc12, od12, .func (PySem.W.fnOf "names_of" "names_of" (defArgs (topS 16)) (defBody (topS 16)) (defScope (topS 16)) .none kV12 dc12 pm12 an12 cd12 ct12), sl12⟩)
    (c12 : PySem.W.codeIn K cd12 "names_of" = true)
    (k12 : PySem.W.keepIn K (.ref f12) = true)
    (a13 : PySem.W.nsIn K mainGlobals "own" = some (some (.ref f13)))
    (l13 : K.lookup f13 = some ⟨oc13, od13, .func (PySem.W.fnOf "own" "own" (defArgs (topS 17)) (defBody (topS 17)) (defScope (topS 17)) .none kV13 dc13 pm13 an13 cd13 ct13), sl13⟩)
    (c13 : PySem.W.codeIn K cd13 "own" = true)
    (k13 : PySem.W.keepIn K (.ref f13) = true)
    (a14 : PySem.W.nsIn K mainGlobals "reach" = some (some (.ref f14)))
    (l14 : K.lookup f14 = some ⟨oc14, od14, .func (PySem.W.fnOf "reach" "reach" (defArgs (topS 18)) (defBody (topS 18)) (defScope (topS 18)) .none kV14 dc14 pm14 an14 cd14 ct14), sl14⟩)
    (c14 : PySem.W.codeIn K cd14 "reach" = true)
    (k14 : PySem.W.keepIn K (.ref f14) = true)
    (a15 : PySem.W.nsIn K mainGlobals "longer" = some (some (.ref f15)))
    (l15 : K.lookup f15 = some ⟨oc15, od15, .func (PySem.W.fnOf "longer" "longer" (defArgs (topS 19)) (defBody (topS 19)) (defScope (topS 19)) .none kV15 dc15 pm15 an15 cd15 ct15), sl15⟩)
    (c15 : PySem.W.codeIn K cd15 "longer" = true)
    (k15 : PySem.W.keepIn K (.ref f15) = true)
    (a16 : PySem.W.nsIn K mainGlobals "whole_of" = some (some (.ref f16)))
    (l16 : K.lookup f16 = some ⟨oc16, od16, .func (PySem.W.fnOf "whole_of" "whole_of" (defArgs (topS 10)) (defBody (topS 10)) (defScope (topS 10)) .none kV16 dc16 pm16 an16 cd16 ct16), sl16⟩)
    (c16 : PySem.W.codeIn K cd16 "whole_of" = true)
    (k16 : PySem.W.keepIn K (.ref f16) = true)
    (a17 : PySem.W.nsIn K mainGlobals "hot" = some (some (.ref f17)))
    (l17 : K.lookup f17 = some ⟨oc17, od17, .func (PySem.W.fnOf "hot" "hot" (defArgs (topS 20)) (defBody (topS 20)) (defScope (topS 20)) .none kV17 dc17 pm17 an17 cd17 ct17), sl17⟩)
    (c17 : PySem.W.codeIn K cd17 "hot" = true)
    (k17 : PySem.W.keepIn K (.ref f17) = true)
    (a18 : PySem.W.nsIn K mainGlobals "_law_whole" = some (some (.ref f18)))
    (l18 : K.lookup f18 = some ⟨oc18, od18, .func (PySem.W.fnOf "_law_whole" "_law_whole" (defArgs (topS 27)) (defBody (topS 27)) (defScope (topS 27)) .none kV18 dc18 pm18 an18 cd18 ct18), sl18⟩)
    (c18 : PySem.W.codeIn K cd18 "_law_whole" = true)
    (k18 : PySem.W.keepIn K (.ref f18) = true)
    (a19 : PySem.W.nsIn K mainGlobals "_law_hot" = some (some (.ref f19)))
    (l19 : K.lookup f19 = some ⟨oc19, od19, .func (PySem.W.fnOf "_law_hot" "_law_hot" (defArgs (topS 28)) (defBody (topS 28)) (defScope (topS 28)) .none kV19 dc19 pm19 an19 cd19 ct19), sl19⟩)
    (c19 : PySem.W.codeIn K cd19 "_law_hot" = true)
    (k19 : PySem.W.keepIn K (.ref f19) = true)
    (a20 : PySem.W.nsIn K mainGlobals "law" = some (some (.ref f20)))
    (l20 : K.lookup f20 = some ⟨oc20, od20, .func (PySem.W.fnOf "law" "law" (defArgs (topS 30)) (defBody (topS 30)) (defScope (topS 30)) .none kV20 dc20 pm20 an20 cd20 ct20), sl20⟩)
    (c20 : PySem.W.codeIn K cd20 "law" = true)
    (k20 : PySem.W.keepIn K (.ref f20) = true)
    (z_abs : PySem.W.nsIn K mainGlobals "abs" = some none)
    (z_all : PySem.W.nsIn K mainGlobals "all" = some none)
    (z_enumerate : PySem.W.nsIn K mainGlobals "enumerate" = some none)
    (z_int : PySem.W.nsIn K mainGlobals "int" = some none)
    (z_len : PySem.W.nsIn K mainGlobals "len" = some none)
    (z_list : PySem.W.nsIn K mainGlobals "list" = some none)
    (z_min : PySem.W.nsIn K mainGlobals "min" = some none)
    (z_range : PySem.W.nsIn K mainGlobals "range" = some none)
    (z_repr : PySem.W.nsIn K mainGlobals "repr" = some none)
    (z_set : PySem.W.nsIn K mainGlobals "set" = some none)
    (z_sorted : PySem.W.nsIn K mainGlobals "sorted" = some none)
    (z_sum : PySem.W.nsIn K mainGlobals "sum" = some none)
    (z_tuple : PySem.W.nsIn K mainGlobals "tuple" = some none)
    (g_MOST_NAME : PySem.W.nsIn K mainGlobals "MOST_NAME" = some (some (.int 9 t_MOST_NAME)))
    (g_MOST_NAMES : PySem.W.nsIn K mainGlobals "MOST_NAMES" = some (some (.int 8 t_MOST_NAMES)))
    (g_MOST_PATHS : PySem.W.nsIn K mainGlobals "MOST_PATHS" = some (some (.int 60 t_MOST_PATHS)))
    (aD : PySem.W.nsIn K mainGlobals "CountError" = some (some (.ref D)))
    (lD : K.lookup D = some ⟨.type "type", dd_D, .cls { name := "CountError", bases := bs_D, mro := .ref D :: vels, ns := N_D, qualname := q_D, hasDict := true, slotNames := sn_D, subclasses := sub_D, abstract := ab_D, collection := col_D, hasDel := false }, #[k0_D, k1_D, k2_D, k3_D, some (.builtin "ValueError.__new__"), k5_D]⟩)
    (aX_TooMany : PySem.W.nsIn K mainGlobals "TooMany" = some (some (.ref C_TooMany_)))
    (lX_TooMany : K.lookup C_TooMany_ = some ⟨.type "type", dd_TooMany, .cls { name := "TooMany", bases := bs_TooMany, mro := .ref C_TooMany_ :: .ref D :: vels, ns := N_TooMany, qualname := q_TooMany, hasDict := true, slotNames := sn_TooMany, subclasses := sub_TooMany, abstract := ab_TooMany, collection := col_TooMany, hasDel := false }, #[k0_TooMany, k1_TooMany, k2_TooMany, k3_TooMany, some (.builtin "ValueError.__new__"), k5_TooMany]⟩)
    (sX_TooMany : PySem.W.findIn K (.ref C_TooMany_) "__setattr__" = some (some (.builtin "object.__setattr__")))
    (nX_TooMany : PySem.W.findIn K (.ref C_TooMany_) "at" = some none)
    (iX_TooMany : PySem.W.findIn K (.ref C_TooMany_) "__init__" = some (some (.ref fI)))
    (gX_TooMany : PySem.W.findIn K (.ref C_TooMany_) "__getattribute__" = some (some (.builtin "BaseException.__getattribute__")))
    (hX_TooMany : PySem.W.findIn K (.ref C_TooMany_) "__getattr__" = some none)
    (kX_TooMany : PySem.W.keepIn K (.ref C_TooMany_) = true)
    (jX_TooMany : PySem.W.findIn K (.ref C_TooMany_) "__class__" = some (some (.builtin "object.__class__")))
    (aX_BadPath : PySem.W.nsIn K mainGlobals "BadPath" = some (some (.ref C_BadPath_)))
    (lX_BadPath : K.lookup C_BadPath_ = some ⟨.type "type", dd_BadPath, .cls { name := "BadPath", bases := bs_BadPath, mro := .ref C_BadPath_ :: .ref D :: vels, ns := N_BadPath, qualname := q_BadPath, hasDict := true, slotNames := sn_BadPath, subclasses := sub_BadPath, abstract := ab_BadPath, collection := col_BadPath, hasDel := false }, #[k0_BadPath, k1_BadPath, k2_BadPath, k3_BadPath, some (.builtin "ValueError.__new__"), k5_BadPath]⟩)
    (sX_BadPath : PySem.W.findIn K (.ref C_BadPath_) "__setattr__" = some (some (.builtin "object.__setattr__")))
    (nX_BadPath : PySem.W.findIn K (.ref C_BadPath_) "at" = some none)
    (iX_BadPath : PySem.W.findIn K (.ref C_BadPath_) "__init__" = some (some (.ref fI)))
    (gX_BadPath : PySem.W.findIn K (.ref C_BadPath_) "__getattribute__" = some (some (.builtin "BaseException.__getattribute__")))
    (hX_BadPath : PySem.W.findIn K (.ref C_BadPath_) "__getattr__" = some none)
    (kX_BadPath : PySem.W.keepIn K (.ref C_BadPath_) = true)
    (jX_BadPath : PySem.W.findIn K (.ref C_BadPath_) "__class__" = some (some (.builtin "object.__class__")))
    (lI : K.lookup fI = some ⟨ocI, odI, .func (PySem.W.ksFn "__init__" "CountError.__init__" (defArgs sInit) (defBody sInit) (defScope sInit) .none kVI dcI pmI anI (.ref cda) ctI cc), slI⟩)
    (cI : PySem.W.codeIn K (.ref cda) "CountError.__init__" = true)
    (mI : K.lookup cda = some ⟨cclI, cddI, .fields vsI, ccsI⟩)
    (eI : K.lookup cc = some ⟨kclI, kdI, .cell (some (.ref D)), kslI⟩)
    (tI : PySem.W.typeIn K (.ref fI) = some (.type "function"))
    (z_super : PySem.W.nsIn K mainGlobals "super" = some none)
    (z_tpany : PySem.W.nsIn K cStatics "thirdparty.any" = some none)
    (vI : vsI[2]? = some (.str fileI tfI))
    (wI : ((l.prog.main.file : Str) == fileI) = true)
    (uI : (l.prog.main.scope.names.lookup ("super" : Str)).isSome = false) :
    ∃ fd : FuncData, (∀ (s : Shared) (v : Value), BindsTo s fd ⟨[v], []⟩ [("script", v)]) ∧ ∀ base : Heap, K.In base → base.Ns mainGlobals mg → FnG l.prog w K mg base 4 fa fd ["script"] (lawSp K 63) := by
  have e := hfa.symm.trans (PySem.W.mg_of X G a20)
  cases e
  refine ⟨PySem.W.fnOf "law" "law" (defArgs (topS 30)) (defBody (topS 30)) (defScope (topS 30)) .none kV20 dc20 pm20 an20 cd20 ct20, fun s v => .of_eq rfl, fun base _ _ => ?_⟩
  have n_abs := PySem.W.mg_none_of X G z_abs
  have n_all := PySem.W.mg_none_of X G z_all
  have n_enumerate := PySem.W.mg_none_of X G z_enumerate
  have n_int := PySem.W.mg_none_of X G z_int
  have n_len := PySem.W.mg_none_of X G z_len
  have n_list := PySem.W.mg_none_of X G z_list
  have n_min := PySem.W.mg_none_of X G z_min
  have n_range := PySem.W.mg_none_of X G z_range
  have n_repr := PySem.W.mg_none_of X G z_repr
  have n_set := PySem.W.mg_none_of X G z_set
  have n_sorted := PySem.W.mg_none_of X G z_sorted
  have n_sum := PySem.W.mg_none_of X G z_sum
  have n_tuple := PySem.W.mg_none_of X G z_tuple
  have RD : RootF K D := ⟨⟨_, _, _, _, _, _, _, _, _, _, _, _, _, lD⟩⟩
  have XF_TooMany : ClsF K D fI "TooMany" C_TooMany_ := ⟨⟨_, _, _, _, _, _, _, _, _, _, _, _, _, lX_TooMany⟩, sX_TooMany, nX_TooMany, iX_TooMany, gX_TooMany, hX_TooMany, kX_TooMany, jX_TooMany⟩
  have XF_BadPath : ClsF K D fI "BadPath" C_BadPath_ := ⟨⟨_, _, _, _, _, _, _, _, _, _, _, _, _, lX_BadPath⟩, sX_BadPath, nX_BadPath, iX_BadPath, gX_BadPath, hX_BadPath, kX_BadPath, jX_BadPath⟩
  rw [hBI] at lI
  obtain ⟨cdD, hcD, _⟩ := RD.cls
  have EX : ExG l.prog w K mg base xcs := ⟨D, fI, _, PySem.W.mg_of X G aD, RD, fun CX => init_ok (P := l.prog) (w := w) (mg := mg) (base := base) (CX := CX) (k := 0) lI scI cI mI vI wI uI eI hcD (PySem.W.mg_none_of X G z_super) z_tpany rfl rfl (fun _ => rfl),
    .all fun us hl => match us, hl with | [_, _], _ => rfl, tI, (List.forall_mem_cons.2 ⟨⟨by decide, C_TooMany_, PySem.W.mg_of X G aX_TooMany, XF_TooMany⟩, (List.forall_mem_cons.2 ⟨⟨by decide, C_BadPath_, PySem.W.mg_of X G aX_BadPath, XF_BadPath⟩, (fun _ h => nomatch h)⟩)⟩)⟩
  have T_l_draws : Tab l.prog w K mg base C_l_draws := ⟨tab_fns (fun _ h => nomatch h), (List.forall_mem_cons.2 ⟨n_range, (List.forall_mem_cons.2 ⟨n_min, (List.forall_mem_cons.2 ⟨n_len, (List.forall_mem_cons.2 ⟨n_abs, (List.forall_mem_cons.2 ⟨n_int, (fun _ h => nomatch h)⟩)⟩)⟩)⟩)⟩), tab_fzf (fun _ h => nomatch h), tab_gls (fun _ h => nomatch h), .inl rfl, fun z => (nomatch z)⟩
  have E_l_draws : FnE l.prog w K mg base 1 "_law_draws" (spFz ⟨K, mg⟩ F_l_draws false) := ⟨f0, _, _, defF (C := C_l_draws) l0 c0 h_l_draws c_l_draws rfl T_l_draws hF_draws, PySem.W.mg_of X G a0, k0, (fun_mk l0 c0 k0).binds (ps := ["script"]) fun _ _ _ _ _ _ us hl => match us, hl with | [_], _ => rfl⟩
  have T_l_mix : Tab l.prog w K mg base C_l_mix := ⟨tab_fns (fun _ h => nomatch h), (List.forall_mem_cons.2 ⟨n_len, (List.forall_mem_cons.2 ⟨n_int, (fun _ h => nomatch h)⟩)⟩), tab_fzf (fun _ h => nomatch h), tab_gls (fun _ h => nomatch h), .inl rfl, fun z => (nomatch z)⟩
  have E_l_mix : FnE l.prog w K mg base 1 "_law_mix" (spOf ⟨K, mg⟩ i_l_mix) := ⟨f1, _, _, defG (C := C_l_mix) l1 c1 h_l_mix c_l_mix rfl T_l_mix, PySem.W.mg_of X G a1, k1, (fun_mk l1 c1 k1).binds (ps := ["draws", "k", "many"]) fun _ _ _ _ _ _ us hl => match us, hl with | [_, _, _], _ => rfl⟩
  have T_l_tree : Tab l.prog w K mg base C_l_tree := ⟨tab_fns (List.forall_mem_cons.2 ⟨⟨1, by decide, E_l_mix⟩, (fun _ h => nomatch h)⟩), (List.forall_mem_cons.2 ⟨n_range, (List.forall_mem_cons.2 ⟨n_len, (List.forall_mem_cons.2 ⟨n_sorted, (fun _ h => nomatch h)⟩)⟩)⟩), tab_fzf (fun _ h => nomatch h), tab_gls (fun _ h => nomatch h), .inl rfl, fun z => (nomatch z)⟩
  have E_l_tree : FnE l.prog w K mg base 2 "_law_tree" (spOf ⟨K, mg⟩ i_l_tree) := ⟨f2, _, _, defG (C := C_l_tree) l2 c2 h_l_tree c_l_tree rfl T_l_tree, PySem.W.mg_of X G a2, k2, (fun_mk l2 c2 k2).binds (ps := ["draws", "first", "count", "names", "most"]) fun _ _ _ _ _ _ us hl => match us, hl with | [_, _, _, _, _], _ => rfl⟩
  have T_l_summed : Tab l.prog w K mg base C_l_summed := ⟨tab_fns (fun _ h => nomatch h), (List.forall_mem_cons.2 ⟨n_range, (List.forall_mem_cons.2 ⟨n_len, (List.forall_mem_cons.2 ⟨n_tuple, (List.forall_mem_cons.2 ⟨n_int, (List.forall_mem_cons.2 ⟨n_sorted, (List.forall_mem_cons.2 ⟨n_list, (fun _ h => nomatch h)⟩)⟩)⟩)⟩)⟩)⟩), tab_fzf (fun _ h => nomatch h), tab_gls (fun _ h => nomatch h), .inl rfl, fun z => (nomatch z)⟩
  have E_l_summed : FnE l.prog w K mg base 1 "_law_summed" (spOf ⟨K, mg⟩ i_l_summed) := ⟨f3, _, _, defG (C := C_l_summed) l3 c3 h_l_summed c_l_summed rfl T_l_summed, PySem.W.mg_of X G a3, k3, (fun_mk l3 c3 k3).binds (ps := ["pairs"]) fun _ _ _ _ _ _ us hl => match us, hl with | [_], _ => rfl⟩
  have T_is_path : Tab l.prog w K mg base C_is_path := ⟨tab_fns (fun _ h => nomatch h), (List.forall_mem_cons.2 ⟨n_len, (List.forall_mem_cons.2 ⟨n_all, (fun _ h => nomatch h)⟩)⟩), tab_fzf (fun _ h => nomatch h), tab_gls (List.forall_mem_cons.2 ⟨⟨8, t_MOST_NAMES, rfl, PySem.W.mg_of X G g_MOST_NAMES⟩, (List.forall_mem_cons.2 ⟨⟨9, t_MOST_NAME, rfl, PySem.W.mg_of X G g_MOST_NAME⟩, (fun _ h => nomatch h)⟩)⟩), .inl rfl, fun z => (nomatch z)⟩
  have E_is_path : FnE l.prog w K mg base 1 "is_path" (spOf ⟨K, mg⟩ i_is_path) := ⟨f4, _, _, defG (C := C_is_path) l4 c4 h_is_path c_is_path rfl T_is_path, PySem.W.mg_of X G a4, k4, (fun_mk l4 c4 k4).binds (ps := ["path"]) fun _ _ _ _ _ _ us hl => match us, hl with | [_], _ => rfl⟩
  have T_check_tree : Tab l.prog w K mg base C_check_tree := ⟨tab_fns (List.forall_mem_cons.2 ⟨⟨1, by decide, E_is_path⟩, (fun _ h => nomatch h)⟩), (List.forall_mem_cons.2 ⟨n_len, (List.forall_mem_cons.2 ⟨n_enumerate, (fun _ h => nomatch h)⟩)⟩), tab_fzf (fun _ h => nomatch h), tab_gls (List.forall_mem_cons.2 ⟨⟨60, t_MOST_PATHS, rfl, PySem.W.mg_of X G g_MOST_PATHS⟩, (fun _ h => nomatch h)⟩), .inr ⟨by decide, EX⟩, fun z => (nomatch z)⟩
  have E_check_tree : FnE l.prog w K mg base 2 "check_tree" (spOf ⟨K, mg⟩ i_check_tree) := ⟨f5, _, _, defG (C := C_check_tree) l5 c5 h_check_tree c_check_tree rfl T_check_tree, PySem.W.mg_of X G a5, k5, (fun_mk l5 c5 k5).binds (ps := ["tree"]) fun _ _ _ _ _ _ us hl => match us, hl with | [_], _ => rfl⟩
  have T_summed : Tab l.prog w K mg base C_summed := ⟨tab_fns (fun _ h => nomatch h), (List.forall_mem_cons.2 ⟨n_range, (List.forall_mem_cons.2 ⟨n_len, (List.forall_mem_cons.2 ⟨n_tuple, (List.forall_mem_cons.2 ⟨n_int, (List.forall_mem_cons.2 ⟨n_sorted, (List.forall_mem_cons.2 ⟨n_list, (fun _ h => nomatch h)⟩)⟩)⟩)⟩)⟩)⟩), tab_fzf (fun _ h => nomatch h), tab_gls (fun _ h => nomatch h), .inl rfl, fun z => (nomatch z)⟩
  have E_summed : FnE l.prog w K mg base 1 "summed" (spOf ⟨K, mg⟩ i_summed) := ⟨f6, _, _, defG (C := C_summed) l6 c6 h_summed c_summed rfl T_summed, PySem.W.mg_of X G a6, k6, (fun_mk l6 c6 k6).binds (ps := ["pairs"]) fun _ _ _ _ _ _ us hl => match us, hl with | [_], _ => rfl⟩
  have T_fold : Tab l.prog w K mg base C_fold := ⟨tab_fns (fun _ h => nomatch h), (fun _ h => nomatch h), tab_fzf (fun _ h => nomatch h), tab_gls (fun _ h => nomatch h), .inl rfl, fun z => (nomatch z)⟩
  have E_fold : FnE l.prog w K mg base 1 "fold" (spOf ⟨K, mg⟩ i_fold) := ⟨f7, _, _, defG (C := C_fold) l7 c7 h_fold c_fold rfl T_fold, PySem.W.mg_of X G a7, k7, (fun_mk l7 c7 k7).binds (ps := ["path"]) fun _ _ _ _ _ _ us hl => match us, hl with | [_], _ => rfl⟩
  have T_folded : Tab l.prog w K mg base C_folded := ⟨tab_fns (List.forall_mem_cons.2 ⟨⟨2, by decide, E_check_tree⟩, (List.forall_mem_cons.2 ⟨⟨1, by decide, E_summed⟩, (List.forall_mem_cons.2 ⟨⟨1, by decide, E_fold⟩, (fun _ h => nomatch h)⟩)⟩)⟩), (fun _ h => nomatch h), tab_fzf (fun _ h => nomatch h), tab_gls (fun _ h => nomatch h), .inl rfl, fun z => (nomatch z)⟩
  have E_folded : FnE l.prog w K mg base 3 "folded" (spOf ⟨K, mg⟩ i_folded) := ⟨f8, _, _, defG (C := C_folded) l8 c8 h_folded c_folded rfl T_folded, PySem.W.mg_of X G a8, k8, (fun_mk l8 c8 k8).binds (ps := ["tree"]) fun _ _ _ _ _ _ us hl => match us, hl with | [_], _ => rfl⟩
  have T_folded_path : Tab l.prog w K mg base C_folded_path := ⟨tab_fns (List.forall_mem_cons.2 ⟨⟨1, by decide, E_is_path⟩, (List.forall_mem_cons.2 ⟨⟨1, by decide, E_fold⟩, (fun _ h => nomatch h)⟩)⟩), (fun _ h => nomatch h), tab_fzf (fun _ h => nomatch h), tab_gls (fun _ h => nomatch h), .inr ⟨by decide, EX⟩, fun z => (nomatch z)⟩
  have E_folded_path : FnE l.prog w K mg base 2 "folded_path" (spOf ⟨K, mg⟩ i_folded_path) := ⟨f9, _, _, defG (C := C_folded_path) l9 c9 h_folded_path c_folded_path rfl T_folded_path, PySem.W.mg_of X G a9, k9, (fun_mk l9 c9 k9).binds (ps := ["path"]) fun _ _ _ _ _ _ us hl => match us, hl with | [_], _ => rfl⟩
  have T_l_word : Tab l.prog w K mg base C_l_word := ⟨tab_fns (List.forall_mem_cons.2 ⟨⟨2, by decide, E_folded_path⟩, (fun _ h => nomatch h)⟩), (fun _ h => nomatch h), tab_fzf (fun _ h => nomatch h), tab_gls (fun _ h => nomatch h), .inr ⟨by decide, EX⟩, fun z => (nomatch z)⟩
  have E_l_word : FnE l.prog w K mg base 3 "_law_word" (spOf ⟨K, mg⟩ i_l_word) := ⟨f10, _, _, defG (C := C_l_word) l10 c10 h_l_word c_l_word rfl T_l_word, PySem.W.mg_of X G a10, k10, (fun_mk l10 c10 k10).binds (ps := ["path"]) fun _ _ _ _ _ _ us hl => match us, hl with | [_], _ => rfl⟩
  have T_l_fold : Tab l.prog w K mg base C_l_fold := ⟨tab_fns (fun _ h => nomatch h), (fun _ h => nomatch h), tab_fzf (fun _ h => nomatch h), tab_gls (fun _ h => nomatch h), .inl rfl, fun z => (nomatch z)⟩
  have E_l_fold : FnE l.prog w K mg base 1 "_law_fold" (spOf ⟨K, mg⟩ i_l_fold) := ⟨f11, _, _, defG (C := C_l_fold) l11 c11 h_l_fold c_l_fold rfl T_l_fold, PySem.W.mg_of X G a11, k11, (fun_mk l11 c11 k11).binds (ps := ["path"]) fun _ _ _ _ _ _ us hl => match us, hl with | [_], _ => rfl⟩
  have T_names_of : Tab l.prog w K mg base C_names_of := ⟨tab_fns (fun _ h => nomatch h), (List.forall_mem_cons.2 ⟨n_sorted, (fun _ h => nomatch h)⟩), tab_fzf (fun _ h => nomatch h), tab_gls (fun _ h => nomatch h), .inl rfl, fun z => (nomatch z)⟩
  have E_names_of : FnE l.prog w K mg base 1 "names_of" (spOf ⟨K, mg⟩ i_names_of) := ⟨f12, _, _, defG (C := C_names_of) l12 c12 h_names_of c_names_of rfl T_names_of, PySem.W.mg_of X G a12, k12, (fun_mk l12 c12 k12).binds (ps := ["tree"]) fun _ _ _ _ _ _ us hl => match us, hl with | [_], _ => rfl⟩
  have T_own : Tab l.prog w K mg base C_own := ⟨tab_fns (List.forall_mem_cons.2 ⟨⟨2, by decide, E_check_tree⟩, (List.forall_mem_cons.2 ⟨⟨1, by decide, E_names_of⟩, (fun _ h => nomatch h)⟩)⟩), (List.forall_mem_cons.2 ⟨n_sum, (fun _ h => nomatch h)⟩), tab_fzf (fun _ h => nomatch h), tab_gls (fun _ h => nomatch h), .inl rfl, fun z => (nomatch z)⟩
  have E_own : FnE l.prog w K mg base 3 "own" (spOf ⟨K, mg⟩ i_own) := ⟨f13, _, _, defG (C := C_own) l13 c13 h_own c_own rfl T_own, PySem.W.mg_of X G a13, k13, (fun_mk l13 c13 k13).binds (ps := ["tree"]) fun _ _ _ _ _ _ us hl => match us, hl with | [_], _ => rfl⟩
  have T_reach : Tab l.prog w K mg base C_reach := ⟨tab_fns (List.forall_mem_cons.2 ⟨⟨2, by decide, E_check_tree⟩, (List.forall_mem_cons.2 ⟨⟨1, by decide, E_names_of⟩, (fun _ h => nomatch h)⟩)⟩), (List.forall_mem_cons.2 ⟨n_sum, (fun _ h => nomatch h)⟩), tab_fzf (fun _ h => nomatch h), tab_gls (fun _ h => nomatch h), .inl rfl, fun z => (nomatch z)⟩
  have E_reach : FnE l.prog w K mg base 3 "reach" (spOf ⟨K, mg⟩ i_reach) := ⟨f14, _, _, defG (C := C_reach) l14 c14 h_reach c_reach rfl T_reach, PySem.W.mg_of X G a14, k14, (fun_mk l14 c14 k14).binds (ps := ["tree"]) fun _ _ _ _ _ _ us hl => match us, hl with | [_], _ => rfl⟩
  have T_longer : Tab l.prog w K mg base C_longer := ⟨tab_fns (fun _ h => nomatch h), (List.forall_mem_cons.2 ⟨n_len, (fun _ h => nomatch h)⟩), tab_fzf (fun _ h => nomatch h), tab_gls (fun _ h => nomatch h), .inl rfl, fun z => (nomatch z)⟩
  have E_longer : FnE l.prog w K mg base 1 "longer" (spOf ⟨K, mg⟩ i_longer) := ⟨f15, _, _, defG (C := C_longer) l15 c15 h_longer c_longer rfl T_longer, PySem.W.mg_of X G a15, k15, (fun_mk l15 c15 k15).binds (ps := ["tree", "path"]) fun _ _ _ _ _ _ us hl => match us, hl with | [_, _], _ => rfl⟩
  have T_whole_of : Tab l.prog w K mg base C_whole_of := ⟨tab_fns (fun _ h => nomatch h), (List.forall_mem_cons.2 ⟨n_sum, (List.forall_mem_cons.2 ⟨n_len, (fun _ h => nomatch h)⟩)⟩), tab_fzf (fun _ h => nomatch h), tab_gls (fun _ h => nomatch h), .inl rfl, fun z => (nomatch z)⟩
  have E_whole_of : FnE l.prog w K mg base 1 "whole_of" (spOf ⟨K, mg⟩ i_whole_of) := ⟨f16, _, _, defG (C := C_whole_of) l16 c16 h_whole_of c_whole_of rfl T_whole_of, PySem.W.mg_of X G a16, k16, (fun_mk l16 c16 k16).binds (ps := ["tree", "path"]) fun _ _ _ _ _ _ us hl => match us, hl with | [_, _], _ => rfl⟩
  have T_hot : Tab l.prog w K mg base C_hot := ⟨tab_fns (List.forall_mem_cons.2 ⟨⟨2, by decide, E_check_tree⟩, (List.forall_mem_cons.2 ⟨⟨1, by decide, E_longer⟩, (List.forall_mem_cons.2 ⟨⟨1, by decide, E_whole_of⟩, (fun _ h => nomatch h)⟩)⟩)⟩), (List.forall_mem_cons.2 ⟨n_len, (List.forall_mem_cons.2 ⟨n_min, (fun _ h => nomatch h)⟩)⟩), tab_fzf (fun _ h => nomatch h), tab_gls (fun _ h => nomatch h), .inl rfl, fun z => (nomatch z)⟩
  have E_hot : FnE l.prog w K mg base 3 "hot" (spOf ⟨K, mg⟩ i_hot) := ⟨f17, _, _, defG (C := C_hot) l17 c17 h_hot c_hot rfl T_hot, PySem.W.mg_of X G a17, k17, (fun_mk l17 c17 k17).binds (ps := ["tree"]) fun _ _ _ _ _ _ us hl => match us, hl with | [_], _ => rfl⟩
  have T_l_whole : Tab l.prog w K mg base C_l_whole := ⟨tab_fns (fun _ h => nomatch h), (List.forall_mem_cons.2 ⟨n_sum, (List.forall_mem_cons.2 ⟨n_len, (fun _ h => nomatch h)⟩)⟩), tab_fzf (fun _ h => nomatch h), tab_gls (fun _ h => nomatch h), .inl rfl, fun z => (nomatch z)⟩
  have E_l_whole : FnE l.prog w K mg base 1 "_law_whole" (spOf ⟨K, mg⟩ i_l_whole) := ⟨f18, _, _, defG (C := C_l_whole) l18 c18 h_l_whole c_l_whole rfl T_l_whole, PySem.W.mg_of X G a18, k18, (fun_mk l18 c18 k18).binds (ps := ["tree", "path"]) fun _ _ _ _ _ _ us hl => match us, hl with | [_, _], _ => rfl⟩
  have T_l_hot : Tab l.prog w K mg base C_l_hot := ⟨tab_fns (List.forall_mem_cons.2 ⟨⟨1, by decide, E_l_whole⟩, (fun _ h => nomatch h)⟩), (List.forall_mem_cons.2 ⟨n_len, (fun _ h => nomatch h)⟩), tab_fzf (fun _ h => nomatch h), tab_gls (fun _ h => nomatch h), .inl rfl, fun z => (nomatch z)⟩
  have E_l_hot : FnE l.prog w K mg base 2 "_law_hot" (spOf ⟨K, mg⟩ i_l_hot) := ⟨f19, _, _, defG (C := C_l_hot) l19 c19 h_l_hot c_l_hot rfl T_l_hot, PySem.W.mg_of X G a19, k19, (fun_mk l19 c19 k19).binds (ps := ["tree"]) fun _ _ _ _ _ _ us hl => match us, hl with | [_], _ => rfl⟩
  have T_law : Tab l.prog w K mg base C_law := ⟨tab_fns (List.forall_mem_cons.2 ⟨⟨2, by decide, E_l_tree⟩, (List.forall_mem_cons.2 ⟨⟨1, by decide, E_l_mix⟩, (List.forall_mem_cons.2 ⟨⟨1, by decide, E_l_summed⟩, (List.forall_mem_cons.2 ⟨⟨1, by decide, E_l_fold⟩, (List.forall_mem_cons.2 ⟨⟨3, by decide, E_folded⟩, (List.forall_mem_cons.2 ⟨⟨2, by decide, E_folded_path⟩, (List.forall_mem_cons.2 ⟨⟨3, by decide, E_own⟩, (List.forall_mem_cons.2 ⟨⟨3, by decide, E_reach⟩, (List.forall_mem_cons.2 ⟨⟨3, by decide, E_hot⟩, (List.forall_mem_cons.2 ⟨⟨2, by decide, E_l_hot⟩, (List.forall_mem_cons.2 ⟨⟨3, by decide, E_l_word⟩, (fun _ h => nomatch h)⟩)⟩)⟩)⟩)⟩)⟩)⟩)⟩)⟩)⟩)⟩), (List.forall_mem_cons.2 ⟨n_repr, (List.forall_mem_cons.2 ⟨n_sum, (List.forall_mem_cons.2 ⟨n_list, (List.forall_mem_cons.2 ⟨n_sorted, (List.forall_mem_cons.2 ⟨n_set, (fun _ h => nomatch h)⟩)⟩)⟩)⟩)⟩), tab_fzf (List.forall_mem_cons.2 ⟨⟨1, by decide, E_l_draws⟩, (fun _ h => nomatch h)⟩), tab_gls (fun _ h => nomatch h), .inl rfl, fun z => (nomatch z)⟩
  exact (defF (C := C_law) l20 c20 h_law c_law rfl T_law (F := F_law) (hF_law law_run)).imp fun vs H Z E q => lawSp_of q
end K75
open PySem PySem.W PyProof.Rows
set_option maxHeartbeats 0 in
theorem PySem.Challenge.cw_howoften_k75_folded_trees_and_names_holds : PySem.Challenge.rw_howoften_k75_folded_trees_and_names.Holds := by
  w_on; o_law; k_head; (case hw => w_witness2)
  k_fill
  refine Sm.walkG (l := PySem.Challenge.rw_howoften_k75_folded_trees_and_names) (n := 63) (k := 4) (x := "script") (sp := fun w => Sm.lawSp _ 63) rfl (by decide) rfl ⟨rfl, by decide, by decide⟩ (fun w h Y => PySem.W.kIn_of Y) ?F (fun _ _ _ _ hl hS => Sm.lawSp_ask hl hS)
  case F =>
    intro w mg fa h KX G hmg
    refine' K75.all_mk KX G hmg ?a0 ?l0 ?c0 ?k0 ?a1 ?l1 ?c1 ?k1 ?a2 ?l2 ?c2 ?k2 ?a3 ?l3 ?c3 ?k3 ?a4 ?l4 ?c4 ?k4 ?a5 ?l5 ?c5 ?k5 ?a6 ?l6 ?c6 ?k6 ?a7 ?l7 ?c7 ?k7 ?a8 ?l8 ?c8 ?k8 ?a9 ?l9 ?c9 ?k9 ?a10 ?l10 ?c10 ?k10 ?a11 ?l11 ?c11 ?k11 ?a12 ?l12 ?c12 ?k12 ?a13 ?l13 ?c13 ?k13 ?a14 ?l14 ?c14 ?k14 ?a15 ?l15 ?c15 ?k15 ?a16 ?l16 ?c16 ?k16 ?a17 ?l17 ?c17 ?k17 ?a18 ?l18 ?c18 ?k18 ?a19 ?l19 ?c19 ?k19 ?a20 ?l20 ?c20 ?k20 ?z_abs ?z_all ?z_enumerate ?z_int ?z_len ?z_list ?z_min ?z_range ?z_repr ?z_set ?z_sorted ?z_sum ?z_tuple ?g_MOST_NAME ?g_MOST_NAMES ?g_MOST_PATHS ?aD ?lD ?aX_TooMany ?lX_TooMany ?sX_TooMany ?nX_TooMany ?iX_TooMany ?gX_TooMany ?hX_TooMany ?kX_TooMany ?jX_TooMany ?aX_BadPath ?lX_BadPath ?sX_BadPath ?nX_BadPath ?iX_BadPath ?gX_BadPath ?hX_BadPath ?kX_BadPath ?jX_BadPath ?lI ?cI ?mI ?eI ?tI ?z_super ?z_tpany ?vI ?wI ?uI
    case a0 => k_is
    case l0 => k_is
    case c0 => k_is
    case k0 => k_is
    case a1 => k_is
    case l1 => k_is
    case c1 => k_is
    case k1 => k_is
    case a2 => k_is
    case l2 => k_is
    case c2 => k_is
    case k2 => k_is
    case a3 => k_is
    case l3 => k_is
    case c3 => k_is
    case k3 => k_is
    case a4 => k_is
    case l4 => k_is
    case c4 => k_is
    case k4 => k_is
    case a5 => k_is
    case l5 => k_is
    case c5 => k_is
    case k5 => k_is
    case a6 => k_is
    case l6 => k_is
    case c6 => k_is
    case k6 => k_is
    case a7 => k_is
    case l7 => k_is
    case c7 => k_is
    case k7 => k_is
    case a8 => k_is
    case l8 => k_is
    case c8 => k_is
    case k8 => k_is
    case a9 => k_is
    case l9 => k_is
    case c9 => k_is
    case k9 => k_is
    case a10 => k_is
    case l10 => k_is
    case c10 => k_is
    case k10 => k_is
    case a11 => k_is
    case l11 => k_is
    case c11 => k_is
    case k11 => k_is
    case a12 => k_is
    case l12 => k_is
    case c12 => k_is
    case k12 => k_is
    case a13 => k_is
    case l13 => k_is
    case c13 => k_is
    case k13 => k_is
    case a14 => k_is
    case l14 => k_is
    case c14 => k_is
    case k14 => k_is
    case a15 => k_is
    case l15 => k_is
    case c15 => k_is
    case k15 => k_is
    case a16 => k_is
    case l16 => k_is
    case c16 => k_is
    case k16 => k_is
    case a17 => k_is
    case l17 => k_is
    case c17 => k_is
    case k17 => k_is
    case a18 => k_is
    case l18 => k_is
    case c18 => k_is
    case k18 => k_is
    case a19 => k_is
    case l19 => k_is
    case c19 => k_is
    case k19 => k_is
    case a20 => k_is
    case l20 => k_is
    case c20 => k_is
    case k20 => k_is
    case z_abs => k_is
    case z_all => k_is
    case z_enumerate => k_is
    case z_int => k_is
    case z_len => k_is
    case z_list => k_is
    case z_min => k_is
    case z_range => k_is
    case z_repr => k_is
    case z_set => k_is
    case z_sorted => k_is
    case z_sum => k_is
    case z_tuple => k_is
    case g_MOST_NAME => k_is
    case g_MOST_NAMES => k_is
    case g_MOST_PATHS => k_is
    case aD => k_is
    case lD => k_is
    case aX_TooMany => k_is
    case lX_TooMany => k_is
    case sX_TooMany => k_is
    case nX_TooMany => k_is
    case iX_TooMany => k_is
    case gX_TooMany => k_is
    case hX_TooMany => k_is
    case kX_TooMany => k_is
    case jX_TooMany => k_is
    case aX_BadPath => k_is
    case lX_BadPath => k_is
    case sX_BadPath => k_is
    case nX_BadPath => k_is
    case iX_BadPath => k_is
    case gX_BadPath => k_is
    case hX_BadPath => k_is
    case kX_BadPath => k_is
    case jX_BadPath => k_is
    case lI => k_is
    case cI => k_is
    case mI => k_is
    case eI => k_is
    case tI => k_is
    case z_super => k_is
    case z_tpany => k_is
    case vI => rfl
    case wI => rfl
    case uI => rfl

