import PyProof.Rows.All
import HandS.ForMost
import HandS.ForExc
import HandS.Walk
import HandS.Deep
import HandS.Wide
import HandS.IsInst
import HandS.More
import KE.GoesMore
import HandS.Rev
import HandS.Conv
import HandS.SetKeys
import HandS.DictTup
import PyProof.DictMoreH
import HandS.SortInts
import HandS.Style
import Wide.All
import OpenK.AllK
import Wide.FinOn
import PySem.Challenge.RW_unsewn_k02_whole_gates_and_pieces
set_option Elab.async false
set_option linter.all false
set_option maxRecDepth 100000
/-! Pv1: data by value over the abstract heap: what is shared (frozen for good), what a slot owns alone. -/
namespace Pv
open PySem PySem.Spec PyProof.Rows L2

abbrev D := PyData
/-- how a slot holds its value: not at all; shared data; a list of its own; a pair of its own; a dict of its own (keys ints and texts; tuples of them) -/
inductive T where
  | no | sh | ol (t : T) | pr (s t : T) | dk (t : T) | dt (t : T)
  deriving DecidableEq
abbrev FzT := Addr → Prop
/-- a key's data -/
def kD : Key → D
  | .inl i => .int i
  | .inr x => .str x
def kTD (ks : List Key) : D := .tuple (ks.map kD)
/-- a dict's data, keys tuples: told apart by a first pair -/
abbrev tagT : D × D := (.bool true, .none)
abbrev dtD (kvd : List (D × D)) : D := .dict (tagT :: kvd)
/-- what may change -/
def mutO : HO → Bool
  | .lst _ => true
  | .dK _ => true
  | .dT _ => true
  | _ => false

/-- a list of the written part -/
def KL (K : PySem.W.Frag) (a : Addr) (xs : List V) : Prop := ∃ (o : Obj) (its : Array Value) (n : Nat), K.lookup a = some o ∧ o.cls = .type "list" ∧ o.dict = none ∧ o.data = .seq its n ∧ its.size ≤ sizeLine ∧ Vals xs its.toList
/-- a list that stays -/
def FzL (K : PySem.W.Frag) (H : Hp) (Z : FzT) (a : Addr) (xs : List V) : Prop := (Z a ∧ Rd H a (.lst xs)) ∨ KL K a xs
theorem FzL.sql {K : PySem.W.Frag} {H : Hp} {Z : FzT} {a : Addr} {xs : List V} (h : FzL K H Z a xs) : SqL K H a xs := h.elim (fun h => .inl h.2) .inr
theorem FzL.mono {K : PySem.W.Frag} {H : Hp} {Z Z' : FzT} {a : Addr} {xs : List V} (m : ∀ a, Z a → Z' a) (h : FzL K H Z a xs) : FzL K H Z' a xs := h.imp (fun h => ⟨m _ h.1, h.2⟩) id
mutual
inductive Sh (K : PySem.W.Frag) (H : Hp) (Z : FzT) : V → D → Prop
  | non : Sh K H Z .non .none
  | bl (b : Bool) : Sh K H Z (.bl b) (.bool b)
  | int (i : Int) : Sh K H Z (.int i) (.int i)
  | str (x : Str) : Sh K H Z (.str x) (.str x)
  | lst {a : Addr} {xs : List V} {ds : List D} : FzL K H Z a xs → ShA K H Z xs ds → Sh K H Z (.ref a) (.list ds)
  | tup {a : Addr} {xs : List V} {ds : List D} : H a = some (.tup xs) → ShA K H Z xs ds → Sh K H Z (.ref a) (.tuple ds)
  | dk {a : Addr} {o : Obj} {kvs : List (Key × V)} {kvd : List (D × D)} : Z a → H a = some (.frz o (.dK kvs)) → kvd.map Prod.fst = kvs.map (fun p => kD p.1) → ShA K H Z (kvs.map Prod.snd) (kvd.map Prod.snd) → Sh K H Z (.ref a) (.dict kvd)
  | dt {a : Addr} {o : Obj} {kvs : List (List Key × V)} {kvd : List (D × D)} : Z a → H a = some (.frz o (.dT kvs)) → kvd.map Prod.fst = kvs.map (fun p => kTD p.1) → ShA K H Z (kvs.map Prod.snd) (kvd.map Prod.snd) → Sh K H Z (.ref a) (dtD kvd)
inductive ShA (K : PySem.W.Frag) (H : Hp) (Z : FzT) : List V → List D → Prop
  | nil : ShA K H Z [] []
  | cons {v : V} {vs : List V} {d : D} {ds : List D} : Sh K H Z v d → ShA K H Z vs ds → ShA K H Z (v :: vs) (d :: ds)
end
mutual
inductive Rep (K : PySem.W.Frag) (H : Hp) (Z : FzT) : T → V → D → List Addr → Prop
  | no {v : V} {d : D} : Rep K H Z .no v d []
  | sh {v : V} {d : D} : Sh K H Z v d → Rep K H Z .sh v d []
  | ol {t : T} {a : Addr} {xs : List V} {ds : List D} {f : List Addr} : H a = some (.lst xs) → RepA K H Z t xs ds f → Rep K H Z (.ol t) (.ref a) (.list ds) (a :: f)
  | pr {s t : T} {a : Addr} {x y : V} {dx dy : D} {f g : List Addr} : H a = some (.tup [x, y]) → Rep K H Z s x dx f → Rep K H Z t y dy g → Rep K H Z (.pr s t) (.ref a) (.tuple [dx, dy]) (f ++ g)
  | dk {t : T} {a : Addr} {kvs : List (Key × V)} {kvd : List (D × D)} {f : List Addr} : H a = some (.dK kvs) → kvd.map Prod.fst = kvs.map (fun p => kD p.1) → RepA K H Z t (kvs.map Prod.snd) (kvd.map Prod.snd) f → Rep K H Z (.dk t) (.ref a) (.dict kvd) (a :: f)
  | dt {t : T} {a : Addr} {kvs : List (List Key × V)} {kvd : List (D × D)} {f : List Addr} : H a = some (.dT kvs) → kvd.map Prod.fst = kvs.map (fun p => kTD p.1) → RepA K H Z t (kvs.map Prod.snd) (kvd.map Prod.snd) f → Rep K H Z (.dt t) (.ref a) (dtD kvd) (a :: f)
inductive RepA (K : PySem.W.Frag) (H : Hp) (Z : FzT) : T → List V → List D → List Addr → Prop
  | nil {t : T} : RepA K H Z t [] [] []
  | cons {t : T} {v : V} {vs : List V} {d : D} {ds : List D} {f g : List Addr} : Rep K H Z t v d f → RepA K H Z t vs ds g → RepA K H Z t (v :: vs) (d :: ds) (f ++ g)
end
/-- the slots -/
inductive Env (K : PySem.W.Frag) (H : Hp) (Z : FzT) : List T → L2.St → List D → List Addr → Prop
  | nil : Env K H Z [] [] [] []
  | no {ts : List T} {ov : Option V} {σ : L2.St} {d : D} {δ : List D} {g : List Addr} : Env K H Z ts σ δ g → Env K H Z (.no :: ts) (ov :: σ) (d :: δ) g
  | cons {t : T} {ts : List T} {v : V} {σ : L2.St} {d : D} {δ : List D} {f g : List Addr} : Rep K H Z t v d f → Env K H Z ts σ δ g → Env K H Z (t :: ts) (some v :: σ) (d :: δ) (f ++ g)

structure Ok (K : PySem.W.Frag) (Γ : List T) (σ : L2.St) (δ : List D) (H : Hp) (Z : FzT) (F : List Addr) : Prop where
  env : Env K H Z Γ σ δ F
  nd : F.Nodup
  dz : ∀ a ∈ F, ¬ Z a
  zs : ∀ a, Z a → H a ≠ none
/-- from a heap to a later one: what is not in F stays -/
structure Stp (H : Hp) (Z : FzT) (F : List Addr) (H' : Hp) (Z' : FzT) (F' : List Addr) : Prop where
  keep : ∀ a o, H a = some o → a ∉ F → H' a = some o
  mono : ∀ a, Z a → Z' a
  own : ∀ a ∈ F', a ∈ F ∨ H a = none
  frz : ∀ a, Z' a → Z a ∨ a ∈ F ∨ H a = none
  live : ∀ a, H a ≠ none → H' a ≠ none
  zs : ∀ a, Z' a → Z a ∨ H' a ≠ none
abbrev Ext (H : Hp) (Z : FzT) (H' : Hp) (Z' : FzT) : Prop := Stp H Z [] H' Z' []
/-- the owned addresses hold what may change -/
def Mu (H : Hp) (F : List Addr) : Prop := ∀ a ∈ F, ∃ o, H a = some o ∧ mutO o = true

section
variable {K : PySem.W.Frag} {H H' H1 H2 : Hp} {Z Z' Z1 Z2 : FzT} {F F' F1 F2 : List Addr}
theorem Ext.refl : Ext H Z H Z := ⟨fun _ _ h _ => h, fun _ h => h, fun _ h => (nomatch h), fun _ h => .inl h, fun _ h => h, fun _ h => .inl h⟩
theorem Stp.refl : Stp H Z F H Z F := ⟨fun _ _ h _ => h, fun _ h => h, fun _ h => .inl h, fun _ h => .inl h, fun _ h => h, fun _ h => .inl h⟩
theorem Stp.trans (a : Stp H Z F H1 Z1 F1) (b : Stp H1 Z1 F1 H2 Z2 F2) : Stp H Z F H2 Z2 F2 := by
  have back : ∀ x, H1 x = none → x ∈ F ∨ H x = none := fun x h => by
    by_cases hx : x ∈ F
    · exact .inl hx
    · cases q : H x with
      | none => exact .inr rfl
      | some o => rw [a.keep x o q hx] at h; cases h
  refine ⟨fun x o h hx => ?_, fun x h => b.mono x (a.mono x h), fun x h => ?_, fun x h => ?_, fun x h => b.live x (a.live x h), fun x h => ?_⟩
  · have h1 := a.keep x o h hx
    refine b.keep x o h1 fun hf => ?_
    rcases a.own x hf with z | z
    · exact hx z
    · rw [h] at z; cases z
  · rcases b.own x h with z | z
    · exact a.own x z
    · exact back x z
  · rcases b.frz x h with z | z | z
    · exact a.frz x z
    · exact .inr (a.own x z)
    · exact .inr (back x z)
  · rcases b.zs x h with z | z
    · exact (a.zs x z).imp id (b.live x)
    · exact .inr z
theorem Ext.trans (a : Ext H Z H1 Z1) (b : Ext H1 Z1 H2 Z2) : Ext H Z H2 Z2 := Stp.trans a b
theorem Ext.same (a : Ext H Z H' Z') : Same H H' := fun b o h => a.keep b o h (by simp)
theorem Ext.stp (a : Ext H Z H' Z') : Stp H Z F H' Z' F :=
  ⟨fun x o h _ => a.keep x o h (by simp), a.mono, fun _ h => .inl h, fun x h => (a.frz x h).elim .inl fun z => .inr (z.elim (fun q => nomatch q) .inr), a.live, a.zs⟩
theorem Stp.sub (a : Stp H Z F H' Z' F') (h : ∀ x ∈ F2, x ∈ F') : Stp H Z F H' Z' F2 := ⟨a.keep, a.mono, fun x q => a.own x (h x q), a.frz, a.live, a.zs⟩
theorem Stp.wide (a : Stp H Z F H' Z' F') (h : ∀ x ∈ F, x ∈ F1) : Stp H Z F1 H' Z' F' :=
  ⟨fun x o q hx => a.keep x o q fun z => hx (h x z), a.mono, fun x q => (a.own x q).imp (h x) id, fun x q => (a.frz x q).imp id fun z => z.imp (h x) id, a.live, a.zs⟩
/-- a new object -/
theorem upd_live {a b : Addr} {o : HO} (h : H b ≠ none) : upd H a o b ≠ none := by
  unfold upd
  split
  · intro z; cases z
  · exact h
theorem Ext.new {a : Addr} {o : HO} (h : H a = none) : Ext H Z (upd H a o) Z :=
  ⟨fun x u q _ => by rw [upd_ne (ne_of_none q h)]; exact q, fun _ q => q, fun _ q => (nomatch q), fun _ q => .inl q, fun _ q => upd_live q, fun _ q => .inl q⟩
theorem Ext.newZ {a : Addr} {o : HO} (h : H a = none) : Ext H Z (upd H a o) (fun x => Z x ∨ x = a) :=
  ⟨fun x u q _ => by rw [upd_ne (ne_of_none q h)]; exact q, fun _ q => .inl q, fun _ q => (nomatch q), fun x q => q.elim .inl fun e => .inr (.inr (by rw [e]; exact h)), fun _ q => upd_live q,
    fun x q => q.elim .inl fun e => .inr (by subst e; rw [upd_same]; intro z; cases z)⟩

theorem SqL.keep {a : Addr} {xs : List V} (k : ∀ o, H a = some o → H' a = some o) (h : SqL K H a xs) : SqL K H' a xs := by
  rcases h with (h | ⟨o, h⟩) | h
  · exact .inl (.inl (k _ h))
  · exact .inl (.inr ⟨o, k _ h⟩)
  · exact .inr h
theorem SqT.keep {a : Addr} {xs : List V} (k : ∀ o, H a = some o → mutO o = false → H' a = some o) (h : SqT K H a xs) : SqT K H' a xs := by
  rcases h with (h | ⟨o, h⟩) | h
  · exact .inl (.inl (k _ h rfl))
  · exact .inl (.inr ⟨o, k _ h rfl⟩)
  · exact .inr h
theorem Rd.keep {a : Addr} {u : HO} (k : ∀ o, H a = some o → H' a = some o) (h : Rd H a u) : Rd H' a u := by
  rcases h with h | ⟨o, h⟩
  · exact .inl (k _ h)
  · exact .inr ⟨o, k _ h⟩
theorem Mu.not {F : List Addr} (m : ∀ a ∈ F, ∃ o, H a = some o ∧ mutO o = true) {a : Addr} {o : HO} (q : H a = some o) (n : mutO o = false) : a ∉ F := fun hf => by
  obtain ⟨u, e, z⟩ := m a hf
  rw [q] at e
  cases e
  rw [n] at z
  cases z

theorem FzL.step {a : Addr} {xs : List V} (s : Stp H Z F H' Z' F') (dz : ∀ a ∈ F, ¬ Z a) (h : FzL K H Z a xs) : FzL K H' Z' a xs :=
  h.imp (fun h => ⟨s.mono _ h.1, Rd.keep (fun o q => s.keep _ o q fun hf => dz _ hf h.1) h.2⟩) id

mutual
theorem Sh.step (s : Stp H Z F H' Z' F') (m : Mu H F) (dz : ∀ a ∈ F, ¬ Z a) : ∀ {v : V} {d : D}, Sh K H Z v d → Sh K H' Z' v d
  | _, _, .non => .non
  | _, _, .bl b => .bl b
  | _, _, .int i => .int i
  | _, _, .str x => .str x
  | _, _, .lst z r => .lst (z.step s dz) (ShA.step s m dz r)
  | _, _, .tup h r => .tup (s.keep _ _ h (Mu.not m h rfl)) (ShA.step s m dz r)
  | _, _, .dk z h e r => .dk (s.mono _ z) (s.keep _ _ h fun hf => dz _ hf z) e (ShA.step s m dz r)
  | _, _, .dt z h e r => .dt (s.mono _ z) (s.keep _ _ h fun hf => dz _ hf z) e (ShA.step s m dz r)
theorem ShA.step (s : Stp H Z F H' Z' F') (m : Mu H F) (dz : ∀ a ∈ F, ¬ Z a) : ∀ {vs : List V} {ds : List D}, ShA K H Z vs ds → ShA K H' Z' vs ds
  | _, _, .nil => .nil
  | _, _, .cons h r => .cons (Sh.step s m dz h) (ShA.step s m dz r)
end
mutual
theorem Rep.step (s : Stp H Z F H' Z' F') (m : Mu H F) (dz : ∀ a ∈ F, ¬ Z a) : ∀ {t : T} {v : V} {d : D} {f : List Addr}, Rep K H Z t v d f → (∀ a ∈ f, a ∉ F) → Rep K H' Z' t v d f
  | _, _, _, _, .no, _ => .no
  | _, _, _, _, .sh h, _ => .sh (h.step s m dz)
  | _, _, _, _, .ol h r, q => .ol (s.keep _ _ h (q _ List.mem_cons_self)) (RepA.step s m dz r fun a ha => q a (List.mem_cons_of_mem _ ha))
  | _, _, _, _, .pr h r1 r2, q => .pr (s.keep _ _ h (Mu.not m h rfl))
      (Rep.step s m dz r1 fun a ha => q a (List.mem_append_left _ ha)) (Rep.step s m dz r2 fun a ha => q a (List.mem_append_right _ ha))
  | _, _, _, _, .dk h e r, q => .dk (s.keep _ _ h (q _ List.mem_cons_self)) e (RepA.step s m dz r fun a ha => q a (List.mem_cons_of_mem _ ha))
  | _, _, _, _, .dt h e r, q => .dt (s.keep _ _ h (q _ List.mem_cons_self)) e (RepA.step s m dz r fun a ha => q a (List.mem_cons_of_mem _ ha))
theorem RepA.step (s : Stp H Z F H' Z' F') (m : Mu H F) (dz : ∀ a ∈ F, ¬ Z a) : ∀ {t : T} {vs : List V} {ds : List D} {f : List Addr}, RepA K H Z t vs ds f → (∀ a ∈ f, a ∉ F) → RepA K H' Z' t vs ds f
  | _, _, _, _, .nil, _ => .nil
  | _, _, _, _, .cons h r, q => .cons (Rep.step s m dz h fun a ha => q a (List.mem_append_left _ ha)) (RepA.step s m dz r fun a ha => q a (List.mem_append_right _ ha))
end
theorem Env.step (s : Stp H Z F H' Z' F') (m : Mu H F) (dz : ∀ a ∈ F, ¬ Z a) : ∀ {Γ : List T} {σ : L2.St} {δ : List D} {f : List Addr}, Env K H Z Γ σ δ f → (∀ a ∈ f, a ∉ F) → Env K H' Z' Γ σ δ f
  | _, _, _, _, .nil, _ => .nil
  | _, _, _, _, .no r, q => .no (r.step s m dz q)
  | _, _, _, _, .cons h r, q => .cons (h.step s m dz fun a ha => q a (List.mem_append_left _ ha)) (r.step s m dz fun a ha => q a (List.mem_append_right _ ha))
mutual
theorem Rep.mu : ∀ {t : T} {v : V} {d : D} {f : List Addr}, Rep K H Z t v d f → Mu H f
  | _, _, _, _, .no, _, q => nomatch q
  | _, _, _, _, .sh _, _, q => nomatch q
  | _, _, _, _, .ol h r, a, q => (List.mem_cons.mp q).elim (fun e => by subst e; exact ⟨_, h, rfl⟩) fun q => RepA.mu r a q
  | _, _, _, _, .dk h _ r, a, q => (List.mem_cons.mp q).elim (fun e => by subst e; exact ⟨_, h, rfl⟩) fun q => RepA.mu r a q
  | _, _, _, _, .dt h _ r, a, q => (List.mem_cons.mp q).elim (fun e => by subst e; exact ⟨_, h, rfl⟩) fun q => RepA.mu r a q
  | _, _, _, _, .pr _ r1 r2, a, q => (List.mem_append.mp q).elim (fun z => Rep.mu r1 a z) fun z => Rep.mu r2 a z
theorem RepA.mu : ∀ {t : T} {vs : List V} {ds : List D} {f : List Addr}, RepA K H Z t vs ds f → Mu H f
  | _, _, _, _, .nil, _, q => nomatch q
  | _, _, _, _, .cons h r, a, q => (List.mem_append.mp q).elim (fun z => Rep.mu h a z) fun z => RepA.mu r a z
end
theorem Env.mu : ∀ {Γ : List T} {σ : L2.St} {δ : List D} {f : List Addr}, Env K H Z Γ σ δ f → Mu H f
  | _, _, _, _, .nil, _, q => nomatch q
  | _, _, _, _, .no r, a, q => Env.mu r a q
  | _, _, _, _, .cons h r, a, q => (List.mem_append.mp q).elim (fun z => h.mu a z) fun z => Env.mu r a z
theorem Mu.some {f : List Addr} (m : Mu H f) {a : Addr} (h : a ∈ f) : H a ≠ none := fun z => by obtain ⟨xs, e, _⟩ := m a h; rw [z] at e; cases e
theorem Mu.one {a : Addr} {o : HO} (h : H a = Option.some o) (q : mutO o = true := by rfl) : Mu H [a] := fun x hx => by
  have e : x = a := by simpa using hx
  rw [e]
  exact ⟨o, h, q⟩
theorem Mu.nil : Mu H [] := fun _ h => nomatch h
theorem Sh.ext {v : V} {d : D} (s : Ext H Z H' Z') (h : Sh K H Z v d) : Sh K H' Z' v d := h.step s Mu.nil (fun _ q => nomatch q)
theorem ShA.ext {v : List V} {d : List D} (s : Ext H Z H' Z') (h : ShA K H Z v d) : ShA K H' Z' v d := h.step s Mu.nil (fun _ q => nomatch q)
theorem Rep.ext {t : T} {v : V} {d : D} {f : List Addr} (s : Ext H Z H' Z') (h : Rep K H Z t v d f) : Rep K H' Z' t v d f := h.step s Mu.nil (fun _ q => nomatch q) fun _ _ q => nomatch q
theorem RepA.ext {t : T} {v : List V} {d : List D} {f : List Addr} (s : Ext H Z H' Z') (h : RepA K H Z t v d f) : RepA K H' Z' t v d f := h.step s Mu.nil (fun _ q => nomatch q) fun _ _ q => nomatch q
variable {Γ : List T} {σ : L2.St} {δ : List D}
theorem Ok.mu (o : Ok K Γ σ δ H Z F) : Mu H F := o.env.mu
theorem Ok.ext (s : Ext H Z H' Z') (o : Ok K Γ σ δ H Z F) : Ok K Γ σ δ H' Z' F :=
  ⟨o.env.step s Mu.nil (fun _ q => nomatch q) (fun _ _ q => nomatch q), o.nd, fun a ha hz => (s.frz a hz).elim (o.dz a ha) (fun z => z.elim (fun q => nomatch q) fun q => o.mu.some ha q), fun a hz => (s.zs a hz).elim (fun z => s.live a (o.zs a z)) id⟩
/-- a slot's value -/
theorem Env.get : ∀ {Γ : List T} {σ : L2.St} {δ : List D} {f : List Addr} {i : Nat} {t : T} {d : D}, Env K H Z Γ σ δ f → Γ[i]? = some t → t ≠ .no → δ[i]? = some d → ∃ v g, σ[i]? = some (some v) ∧ Rep K H Z t v d g ∧ ∀ a ∈ g, a ∈ f
  | _, _, _, _, i, _, _, .nil, h, _, _ => by simp at h
  | _, _, _, _, 0, t, _, .no r, h, n, _ => by simp at h; exact absurd h.symm n
  | _, _, _, _, i + 1, t, d, .no r, h, n, e => by
    obtain ⟨v, g, h1, h2, h3⟩ := Env.get (i := i) r (by simpa using h) n (by simpa using e)
    exact ⟨v, g, by simpa using h1, h2, h3⟩
  | _, _, _, _, 0, t, d, .cons q r, h, n, e => by
    simp at h e; subst h; subst e
    exact ⟨_, _, rfl, q, fun a ha => List.mem_append_left _ ha⟩
  | _, _, _, _, i + 1, t, d, .cons q r, h, n, e => by
    obtain ⟨v, g, h1, h2, h3⟩ := Env.get (i := i) r (by simpa using h) n (by simpa using e)
    exact ⟨v, g, by simpa using h1, h2, fun a ha => List.mem_append_right _ (h3 a ha)⟩
theorem Rep.len : ∀ {vs : List V} {ds : List D} {t : T} {f : List Addr}, RepA K H Z t vs ds f → vs.length = ds.length
  | _, _, _, _, .nil => rfl
  | _, _, _, _, .cons _ r => by simp [Rep.len r]
theorem ShA.len : ∀ {vs : List V} {ds : List D}, ShA K H Z vs ds → vs.length = ds.length
  | _, _, .nil => rfl
  | _, _, .cons _ r => by simp [ShA.len r]
theorem Env.len : ∀ {Γ : List T} {σ : L2.St} {δ : List D} {f : List Addr}, Env K H Z Γ σ δ f → σ.length = Γ.length ∧ δ.length = Γ.length
  | _, _, _, _, .nil => ⟨rfl, rfl⟩
  | _, _, _, _, .no r => by simp [Env.len r]
  | _, _, _, _, .cons _ r => by simp [Env.len r]
end
end Pv

set_option Elab.async false
set_option linter.all false
set_option maxRecDepth 100000
/-! Pv2: expressions that change nothing: their values as functions of the slots' data. -/
namespace Pv
open PySem PySem.Spec PyProof.Rows L2
abbrev EF := List D → Option D
abbrev EM := List D → Option (D × List D)
abbrev BF := List D → Option Bool
abbrev BM := List D → Option (Bool × List D)
abbrev LF := List D → Option (List D)
abbrev LM := List D → Option (List D × List D)

/-- what is read, the slots as they were -/
def tP (K : PySem.W.Frag) (Γ : List T) (t : T) (f : EF) : TE := fun σ H Q => ∃ δ Z F d, Ok K Γ σ δ H Z F ∧ f δ = some d ∧
  ∀ v H' Z' g, Ext H Z H' Z' → Rep K H' Z' t v d g → Q v H'
/-- what is made anew -/
def tC (K : PySem.W.Frag) (Γ : List T) (t : T) (f : EF) : TE := fun σ H Q => ∃ δ Z F d, Ok K Γ σ δ H Z F ∧ f δ = some d ∧
  ∀ v H' Z' g, Ext H Z H' Z' → Rep K H' Z' t v d g → g.Nodup → (∀ a ∈ g, H a = none ∧ ¬ Z' a) → Q v H'
/-- what may change the slots -/
def tM (K : PySem.W.Frag) (Γ Γ' : List T) (t : T) (f : EM) : TE := fun σ H Q => ∃ δ Z F d δ', Ok K Γ σ δ H Z F ∧ f δ = some (d, δ') ∧
  ∀ v H' Z' F' g, Stp H Z F H' Z' (F' ++ g) → Ok K Γ' σ δ' H' Z' F' → Rep K H' Z' t v d g → (F' ++ g).Nodup → (∀ a ∈ g, ¬ Z' a) → Q v H'
def bP (K : PySem.W.Frag) (Γ : List T) (f : BF) : TT := fun σ H Q => ∃ δ Z F b, Ok K Γ σ δ H Z F ∧ f δ = some b ∧ ∀ H' Z', Ext H Z H' Z' → Q b H'
def bM (K : PySem.W.Frag) (Γ Γ' : List T) (f : BM) : TT := fun σ H Q => ∃ δ Z F b δ', Ok K Γ σ δ H Z F ∧ f δ = some (b, δ') ∧ ∀ H' Z' F', Stp H Z F H' Z' F' → Ok K Γ' σ δ' H' Z' F' → Q b H'
def aP (K : PySem.W.Frag) (Γ ts : List T) (f : LF) : TA := fun σ H Q => ∃ δ Z F ds, Ok K Γ σ δ H Z F ∧ f δ = some ds ∧
  ∀ vs H' Z' g, Ext H Z H' Z' → Env K H' Z' ts (vs.map some) ds g → Q vs H'

theorem _root_.L2.PE.imp {X : Cx} {e : Expr} {t t' : TE} (h : PE X e t) (i : ∀ σ H Q, t' σ H Q → t σ H Q) : PE X e t' := ⟨fun pins s σ H Q I q => h.run pins s σ H Q I (i _ _ _ q)⟩
theorem _root_.L2.PT.imp {X : Cx} {e : Expr} {t t' : TT} (h : PT X e t) (i : ∀ σ H Q, t' σ H Q → t σ H Q) : PT X e t' := ⟨fun pins s σ H Q I q => h.run pins s σ H Q I (i _ _ _ q)⟩
theorem _root_.L2.PW.imp {X : Cx} {e : Expr} {t t' : TT} (h : PW X e t) (i : ∀ σ H Q, t' σ H Q → t σ H Q) : PW X e t' := ⟨fun w pins s σ H Q I q => h.run w pins s σ H Q I (i _ _ _ q)⟩
theorem _root_.L2.PA.imp {X : Cx} {e : List Expr} {t t' : TA} (h : PA X e t) (i : ∀ σ H Q, t' σ H Q → t σ H Q) : PA X e t' := ⟨fun p pins s σ H Q I q => h.run p pins s σ H Q I (i _ _ _ q)⟩

/-! ### the shapes -/
def xV (i : Nat) : EF := fun δ => δ[i]?
def xK (d : D) : EF := fun _ => some d
def x1 (o : D → Option D) (a : EF) : EF := fun δ => (a δ).bind o
def x2 (o : D → D → Option D) (a b : EF) : EF := fun δ => (a δ).bind fun x => (b δ).bind fun y => o x y
def xNil : LF := fun _ => some []
def xCons (a : EF) (r : LF) : LF := fun δ => (a δ).bind fun x => (r δ).bind fun xs => some (x :: xs)
def xL (o : List D → Option D) (r : LF) : EF := fun δ => (r δ).bind o
def toB : D → Option Bool | .bool b => some b | _ => none
def bE (f : EF) : BF := fun δ => (f δ).bind toB
def bNot (f : BF) : BF := fun δ => (f δ).bind fun b => some (!b)
def bAnd (f g : BF) : BF := fun δ => (f δ).bind fun b => if b then g δ else some false
def bOr (f g : BF) : BF := fun δ => (f δ).bind fun b => if b then some true else g δ
def xB (f : BF) : EF := fun δ => (f δ).bind fun b => some (.bool b)
def xIf (c : BF) (a b : EF) : EF := fun δ => (c δ).bind fun k => if k then a δ else b δ

section
variable {K : PySem.W.Frag} {X : Cx} {Γ : List T} {H H' : Hp} {Z Z' : FzT}
theorem Sh.rep {v : V} {d : D} (h : Sh K H Z v d) : Rep K H Z .sh v d [] := .sh h
theorem Rep.shOf {v : V} {d : D} {g : List Addr} (h : Rep K H Z .sh v d g) : Sh K H Z v d ∧ g = [] := by cases h; exact ⟨‹_›, rfl⟩
theorem cOfP {f : EF} {e : Expr} (h : PE X e (tP X.K Γ .sh f)) : PE X e (tC X.K Γ .sh f) := h.imp fun σ H Q ⟨δ, Z, F, d, o, e, k⟩ => ⟨δ, Z, F, d, o, e, fun v H' Z' g s r => by
  obtain ⟨_, rfl⟩ := r.shOf
  exact k v H' Z' [] s r .nil (fun _ q => nomatch q)⟩
theorem pOfC {t : T} {f : EF} {e : Expr} (h : PE X e (tC X.K Γ t f)) : PE X e (tP X.K Γ t f) := h.imp fun σ H Q ⟨δ, Z, F, d, o, e, k⟩ => ⟨δ, Z, F, d, o, e, fun v H' Z' g s r _ _ => k v H' Z' g s r⟩
def mOf (f : EF) : EM := fun δ => (f δ).map (·, δ)
theorem Ok.live {σ : L2.St} {δ : List D} {F : List Addr} (o : Ok K Γ σ δ H Z F) {a : Addr} (h : a ∈ F) : H a ≠ none := o.mu.some h
theorem nodup_app {F g : List Addr} (h1 : F.Nodup) (h2 : g.Nodup) (h : ∀ a ∈ g, a ∉ F) : (F ++ g).Nodup :=
  List.nodup_append.mpr ⟨h1, h2, fun a ha b hb e => h b hb (e ▸ ha)⟩
theorem mOfC {t : T} {f : EF} {e : Expr} (h : PE X e (tC X.K Γ t f)) : PE X e (tM X.K Γ Γ t (mOf f)) := h.imp fun σ H Q ⟨δ, Z, F, d, δ', o, e, k⟩ => by
  unfold mOf at e
  cases q : f δ with
  | none => rw [q] at e; cases e
  | some d' =>
    rw [q] at e; cases e
    refine ⟨δ, Z, F, d, o, q, fun v H' Z' g s r nd hz => k v H' Z' F g ?_ (o.ext s) r (nodup_app o.nd nd fun a ha hf => o.live hf (hz a ha).1) fun a ha => (hz a ha).2⟩
    exact ⟨s.stp.keep, s.mono, fun a ha => (List.mem_append.mp ha).imp id fun z => (hz a z).1, s.stp.frz, s.live, s.zs⟩
theorem mOfP {f : EF} {e : Expr} (h : PE X e (tP X.K Γ .sh f)) : PE X e (tM X.K Γ Γ .sh (mOf f)) := mOfC (cOfP h)

theorem toB_sh {v : V} {d : D} {b : Bool} (r : Sh K H Z v d) (e : toB d = some b) : v = .bl b ∧ d = .bool b := by
  cases r with
  | bl b' => cases e; exact ⟨rfl, rfl⟩
  | _ => cases e
/-! ### names, constants -/
theorem cV (i : Nat) {x : Str} {pos : Pos} {t : T} (ht : Γ[i]? = some t) (hn : t ≠ .no) (h : PE X (.Name x pos) (tVar i)) : PE X (.Name x pos) (tP X.K Γ t (xV i)) := h.imp fun σ H Q ⟨δ, Z, F, d, o, e, k⟩ => by
  obtain ⟨v, g, h1, h2, _⟩ := o.env.get ht hn e
  exact ⟨v, h1, k v H Z g .refl h2⟩
theorem cInt {i : Int} {j pos} : PE X (.Constant (.int i) j pos) (tP X.K Γ .sh (xK (.int i))) := pe_int.imp fun σ H Q ⟨δ, Z, F, d, o, e, k⟩ => by cases e; exact k _ H Z [] .refl (.sh (.int i))
theorem cBl {b : Bool} {j pos} : PE X (.Constant (.bool b) j pos) (tP X.K Γ .sh (xK (.bool b))) := pe_bl.imp fun σ H Q ⟨δ, Z, F, d, o, e, k⟩ => by cases e; exact k _ H Z [] .refl (.sh (.bl b))
theorem cNon {j pos} : PE X (.Constant .none j pos) (tP X.K Γ .sh (xK .none)) := pe_non.imp fun σ H Q ⟨δ, Z, F, d, o, e, k⟩ => by cases e; exact k _ H Z [] .refl (.sh .non)
theorem cStr {x : Str} {j pos} : PE X (.Constant (.str x) j pos) (tP X.K Γ .sh (xK (.str x))) := pe_str.imp fun σ H Q ⟨δ, Z, F, d, o, e, k⟩ => by cases e; exact k _ H Z [] .refl (.sh (.str x))

/-! ### operators by their data -/
/-- r holds where the data's operation gives something -/
def OpS (K : PySem.W.Frag) (r : R2) (s t u : T) (o : D → D → Option D) : Prop :=
  ∀ (H : Hp) (Z : FzT) (x y : V) (dx dy d : D) (f g : List Addr) (Q : VK), Rep K H Z s x dx f → Rep K H Z t y dy g → o dx dy = some d → (∀ v H' Z' h, Ext H Z H' Z' → Rep K H' Z' u v d h → Q v H') → r x y H Q
theorem p2 {r : R2} {s t u : T} {o : D → D → Option D} {fa fb : EF} (hs : OpS K r s t u o) {σ : L2.St} {Q : VK} (h : tP K Γ u (x2 o fa fb) σ H Q) : tOp r (tP K Γ s fa) (tP K Γ t fb) σ H Q := by
  obtain ⟨δ, Z, F, d, ok, e, k⟩ := h
  unfold x2 at e
  obtain ⟨x, ex, e⟩ := Option.bind_eq_some_iff.mp e
  obtain ⟨y, ey, e⟩ := Option.bind_eq_some_iff.mp e
  exact ⟨δ, Z, F, x, ok, ex, fun v H1 Z1 g s1 r1 => ⟨δ, Z1, F, y, ok.ext s1, ey, fun w H2 Z2 g2 s2 r2 =>
    hs H2 Z2 v w x y d _ _ Q (r1.ext s2) r2 e fun v' H' Z' h s3 r3 => k v' H' Z' h (s1.trans (s2.trans s3)) r3⟩⟩
theorem c2 {op : Operator} {r : R2} {s t u : T} {o : D → D → Option D} {fa fb : EF} {a b : Expr} {pos : Pos} (ho : OpR X (binaryOp op) r) (hs : OpS X.K r s t u o) (ha : PE X a (tP X.K Γ s fa)) (hb : PE X b (tP X.K Γ t fb)) :
    PE X (.BinOp a op b pos) (tP X.K Γ u (x2 o fa fb)) := (pe_op ho ha hb).imp fun _ _ _ => p2 hs
theorem cCmp {op : CmpOp} {r : R2} {s t u : T} {o : D → D → Option D} {fa fb : EF} {a b : Expr} {pos : Pos} (ho : OpR X (compareOp op) r) (hs : OpS X.K r s t u o) (ha : PE X a (tP X.K Γ s fa)) (hb : PE X b (tP X.K Γ t fb)) (hm : behindInMarks op b = false) :
    PE X (.Compare a [op] [b] pos) (tP X.K Γ u (x2 o fa fb)) := (pe_cmpR ho ha hb hm).imp fun _ _ _ => p2 hs
theorem tB_of {te : TE} {f : EF} {σ : L2.St} {Q : Bool → Hp → Prop} (hq : ∀ Q, tP K Γ .sh f σ H Q → te σ H Q) (h : bP K Γ (bE f) σ H Q) : te σ H fun x H' => ∃ k, x = .bl k ∧ Q k H' := by
  obtain ⟨δ, Z, F, b, ok, e, k⟩ := h
  obtain ⟨d, ed, e⟩ := Option.bind_eq_some_iff.mp e
  refine hq _ ⟨δ, Z, F, d, ok, ed, fun v H' Z' g s r => ?_⟩
  obtain ⟨rfl, rfl⟩ := toB_sh r.shOf.1 e
  exact ⟨b, rfl, k H' Z' s⟩
theorem qCmp {op : CmpOp} {r : R2} {s t : T} {o : D → D → Option D} {fa fb : EF} {a b : Expr} {pos : Pos} (ho : OpR X (compareOp op) r) (hs : OpS X.K r s t .sh o) (ha : PE X a (tP X.K Γ s fa)) (hb : PE X b (tP X.K Γ t fb)) (hm : behindInMarks op b = false) :
    PT X (.Compare a [op] [b] pos) (bP X.K Γ (bE (x2 o fa fb))) := (pt_cmpR ho ha hb hm).imp fun _ _ _ h => tB_of (fun Q => p2 hs) h
/-- an expression whose value is a bool -/
theorem qVal {f : EF} {e : Expr} (h : PE X e (tP X.K Γ .sh f)) (he : ∀ whole, isTrue e X.env whole = (do let v ← whole; standAt e.pos; holding [v] (truthy v)) := by intro _; rfl) : PT X e (bP X.K Γ (bE f)) :=
  (pt_val h he).imp fun _ _ _ h => tB_of (fun Q q => q) h
theorem qNot {f : BF} {e : Expr} {pos : Pos} (h : PT X e (bP X.K Γ f)) : PT X (.UnaryOp .Not e pos) (bP X.K Γ (bNot f)) := (pt_not h).imp fun σ H Q ⟨δ, Z, F, b, ok, e, k⟩ => by
  obtain ⟨c, ec, e⟩ := Option.bind_eq_some_iff.mp e
  cases e
  exact ⟨δ, Z, F, c, ok, ec, k⟩
theorem qAnd1 {f : BF} {a : Expr} {pos : Pos} (h : PT X a (bP X.K Γ f)) : PW X (.BoolOp .And [a] pos) (bP X.K Γ f) := pw_and1 h
theorem qOr1 {f : BF} {a : Expr} {pos : Pos} (h : PT X a (bP X.K Γ f)) : PW X (.BoolOp .Or [a] pos) (bP X.K Γ f) := pw_or1 h
theorem qAnd {f g : BF} {a b : Expr} {rest : List Expr} {pos : Pos} (h : PT X a (bP X.K Γ f)) (h2 : PW X (.BoolOp .And (b :: rest) pos) (bP X.K Γ g)) : PW X (.BoolOp .And (a :: b :: rest) pos) (bP X.K Γ (bAnd f g)) :=
  (pw_and h h2).imp fun σ H Q ⟨δ, Z, F, b, ok, e, k⟩ => by
    obtain ⟨c, ec, e⟩ := Option.bind_eq_some_iff.mp e
    refine ⟨δ, Z, F, c, ok, ec, fun H1 Z1 s1 => ?_⟩
    cases c with
    | true => exact ⟨δ, Z1, F, b, ok.ext s1, e, fun H' Z' s => k H' Z' (s1.trans s)⟩
    | false => cases e; exact k H1 Z1 s1
theorem qOr {f g : BF} {a b : Expr} {rest : List Expr} {pos : Pos} (h : PT X a (bP X.K Γ f)) (h2 : PW X (.BoolOp .Or (b :: rest) pos) (bP X.K Γ g)) : PW X (.BoolOp .Or (a :: b :: rest) pos) (bP X.K Γ (bOr f g)) :=
  (pw_or h h2).imp fun σ H Q ⟨δ, Z, F, b, ok, e, k⟩ => by
    obtain ⟨c, ec, e⟩ := Option.bind_eq_some_iff.mp e
    refine ⟨δ, Z, F, c, ok, ec, fun H1 Z1 s1 => ?_⟩
    cases c with
    | true => cases e; exact k H1 Z1 s1
    | false => exact ⟨δ, Z1, F, b, ok.ext s1, e, fun H' Z' s => k H' Z' (s1.trans s)⟩
def xAnd (a b : EF) : EF := fun δ => (a δ).bind fun x => (toB x).bind fun k => if k then b δ else some (.bool false)
def xOr (a b : EF) : EF := fun δ => (a δ).bind fun x => (toB x).bind fun k => if k then some (.bool true) else b δ
def xNot (a : EF) : EF := fun δ => (a δ).bind fun x => (toB x).bind fun k => some (.bool (!k))
theorem vOne {op} {f : EF} {a : Expr} {pos : Pos} (h : PE X a (tP X.K Γ .sh f)) : PE X (.BoolOp op [a] pos) (tP X.K Γ .sh f) := pe_one h
theorem vAnd {f g : EF} {a b : Expr} {rest : List Expr} {pos : Pos} (h : PE X a (tP X.K Γ .sh f)) (h2 : PE X (.BoolOp .And (b :: rest) pos) (tP X.K Γ .sh g)) : PE X (.BoolOp .And (a :: b :: rest) pos) (tP X.K Γ .sh (xAnd f g)) :=
  (pe_and h h2).imp fun σ H Q ⟨δ, Z, F, d, ok, e, k⟩ => by
    obtain ⟨x, ex, e⟩ := Option.bind_eq_some_iff.mp e
    obtain ⟨c, ec, e⟩ := Option.bind_eq_some_iff.mp e
    refine ⟨δ, Z, F, x, ok, ex, fun v H1 Z1 g1 s1 r1 => ?_⟩
    obtain ⟨rfl, rfl⟩ := toB_sh r1.shOf.1 ec
    refine ⟨c, rfl, ?_⟩
    cases c with
    | true => exact ⟨δ, Z1, F, d, ok.ext s1, e, fun v H' Z' g s r => k v H' Z' g (s1.trans s) r⟩
    | false => cases e; exact k _ H1 Z1 [] s1 (.sh (.bl false))
theorem vOr {f g : EF} {a b : Expr} {rest : List Expr} {pos : Pos} (h : PE X a (tP X.K Γ .sh f)) (h2 : PE X (.BoolOp .Or (b :: rest) pos) (tP X.K Γ .sh g)) : PE X (.BoolOp .Or (a :: b :: rest) pos) (tP X.K Γ .sh (xOr f g)) :=
  (pe_or h h2).imp fun σ H Q ⟨δ, Z, F, d, ok, e, k⟩ => by
    obtain ⟨x, ex, e⟩ := Option.bind_eq_some_iff.mp e
    obtain ⟨c, ec, e⟩ := Option.bind_eq_some_iff.mp e
    refine ⟨δ, Z, F, x, ok, ex, fun v H1 Z1 g1 s1 r1 => ?_⟩
    obtain ⟨rfl, rfl⟩ := toB_sh r1.shOf.1 ec
    refine ⟨c, rfl, ?_⟩
    cases c with
    | true => cases e; exact k _ H1 Z1 [] s1 (.sh (.bl true))
    | false => exact ⟨δ, Z1, F, d, ok.ext s1, e, fun v H' Z' g s r => k v H' Z' g (s1.trans s) r⟩
theorem vNot {f : EF} {a : Expr} {pos : Pos} (h : PE X a (tP X.K Γ .sh f)) : PE X (.UnaryOp .Not a pos) (tP X.K Γ .sh (xNot f)) :=
  (pe_not h).imp fun σ H Q ⟨δ, Z, F, d, ok, e, k⟩ => by
    obtain ⟨x, ex, e⟩ := Option.bind_eq_some_iff.mp e
    obtain ⟨c, ec, e⟩ := Option.bind_eq_some_iff.mp e
    cases e
    refine ⟨δ, Z, F, x, ok, ex, fun v H1 Z1 g1 s1 r1 => ?_⟩
    obtain ⟨rfl, rfl⟩ := toB_sh r1.shOf.1 ec
    exact ⟨c, rfl, k _ H1 Z1 [] s1 (.sh (.bl _))⟩
theorem vIf {t : T} {c : BF} {f g : EF} {ec a b : Expr} {pos : Pos} (hc : PT X ec (bP X.K Γ c)) (ha : PE X a (tP X.K Γ t f)) (hb : PE X b (tP X.K Γ t g)) : PE X (.IfExp ec a b pos) (tP X.K Γ t (xIf c f g)) :=
  (pe_ifExp hc ha hb).imp fun σ H Q ⟨δ, Z, F, d, ok, e, k⟩ => by
    obtain ⟨c, ec, e⟩ := Option.bind_eq_some_iff.mp e
    refine ⟨δ, Z, F, c, ok, ec, fun H1 Z1 s1 => ?_⟩
    cases c with
    | true => exact ⟨δ, Z1, F, d, ok.ext s1, e, fun v H' Z' g s r => k v H' Z' g (s1.trans s) r⟩
    | false => exact ⟨δ, Z1, F, d, ok.ext s1, e, fun v H' Z' g s r => k v H' Z' g (s1.trans s) r⟩

/-! ### arguments -/
theorem aNil : PA X [] (aP X.K Γ [] xNil) := pa_nil.imp fun σ H Q ⟨δ, Z, F, d, ok, e, k⟩ => by cases e; exact k [] H Z [] .refl .nil
theorem aCons {t : T} {ts : List T} {f : EF} {r : LF} {e : Expr} {es : List Expr} (ha : PE X e (tP X.K Γ t f)) (hr : PA X es (aP X.K Γ ts r)) (hs : starEach (e :: es) X.env = (false, eval e X.env) :: starEach es X.env := by rfl) :
    PA X (e :: es) (aP X.K Γ (t :: ts) (xCons f r)) := (pa_cons ha hr hs).imp fun σ H Q ⟨δ, Z, F, d, ok, e, k⟩ => by
  obtain ⟨x, ex, e⟩ := Option.bind_eq_some_iff.mp e
  obtain ⟨xs, exs, e⟩ := Option.bind_eq_some_iff.mp e
  cases e
  exact ⟨δ, Z, F, x, ok, ex, fun v H1 Z1 g1 s1 r1 => ⟨δ, Z1, F, xs, ok.ext s1, exs, fun vs H2 Z2 g2 s2 r2 => k (v :: vs) H2 Z2 _ (s1.trans s2) (.cons (r1.ext s2) r2)⟩⟩
/-- a call by values -/
def CalS (K : PySem.W.Frag) (r : List V → Hp → VK → Prop) (ts : List T) (u : T) (o : List D → Option D) : Prop :=
  ∀ (H : Hp) (Z : FzT) (vs : List V) (ds : List D) (d : D) (g : List Addr) (Q : VK), Env K H Z ts (vs.map some) ds g → o ds = some d → (∀ v H' Z' h, Ext H Z H' Z' → Rep K H' Z' u v d h → Q v H') → r vs H Q
/-- .. that makes something new -/
def CalC (K : PySem.W.Frag) (r : List V → Hp → VK → Prop) (ts : List T) (u : T) (o : List D → Option D) : Prop :=
  ∀ (H : Hp) (Z : FzT) (vs : List V) (ds : List D) (d : D) (g : List Addr) (Q : VK), Env K H Z ts (vs.map some) ds g → o ds = some d →
    (∀ v H' Z' h, Ext H Z H' Z' → Rep K H' Z' u v d h → h.Nodup → (∀ a ∈ h, H a = none ∧ ¬ Z' a) → Q v H') → r vs H Q
theorem pL {r : List V → Hp → VK → Prop} {ts : List T} {u : T} {o : List D → Option D} {f : LF} {σ : L2.St} {Q : VK} (hs : CalS K r ts u o) (h : tP K Γ u (xL o f) σ H Q) : tCB r (aP K Γ ts f) σ H Q := by
  obtain ⟨δ, Z, F, d, ok, e, k⟩ := h
  obtain ⟨ds, eds, e⟩ := Option.bind_eq_some_iff.mp e
  exact ⟨δ, Z, F, ds, ok, eds, fun vs H1 Z1 g s1 r1 => hs H1 Z1 vs ds d g Q r1 e fun v H' Z' h s2 r2 => k v H' Z' h (s1.trans s2) r2⟩
theorem pLC {r : List V → Hp → VK → Prop} {ts : List T} {u : T} {o : List D → Option D} {f : LF} {σ : L2.St} {Q : VK} (hs : CalC K r ts u o) (h : tC K Γ u (xL o f) σ H Q) : tCB r (aP K Γ ts f) σ H Q := by
  obtain ⟨δ, Z, F, d, ok, e, k⟩ := h
  obtain ⟨ds, eds, e⟩ := Option.bind_eq_some_iff.mp e
  refine ⟨δ, Z, F, ds, ok, eds, fun vs H1 Z1 g s1 r1 => hs H1 Z1 vs ds d g Q r1 e fun v H' Z' h s2 r2 nd hz => k v H' Z' h (s1.trans s2) r2 nd fun a ha => ⟨?_, (hz a ha).2⟩⟩
  cases q : H a with
  | none => rfl
  | some o => have := s1.keep a o q (by simp); rw [(hz a ha).1] at this; cases this
theorem cCallB {x : Str} {p pos : Pos} {e : Expr} {es : List Expr} {id : String} {r : List V → Hp → VK → Prop} {ts : List T} {u : T} {o : List D → Option D} {f : LF} (hc : CallR X (.builtin id) r) (hs : CalS X.K r ts u o) (hg : Gl X x) (hm : X.mg x = none) (hv : bootBuiltins x = some (.builtin id))
    (ha : PA X (e :: es) (aP X.K Γ ts f)) (hn : x ≠ "__name__" := by decide) (hdb : (x == ("__debug__" : Str)) = false := by decide)
    (he : starEach (e :: es) X.env = (false, eval e X.env) :: starEach es X.env := by rfl) (hpl : (backTo pos (starEach es X.env)).any (·.1) = false := by rfl) : PE X (.Call (.Name x p) (e :: es) [] pos) (tP X.K Γ u (xL o f)) :=
  (pe_callB hc hg hm hv ha hn hdb he hpl).imp fun _ _ _ => pL hs
theorem cCallT {x : Str} {p pos : Pos} {e : Expr} {es : List Expr} {ty : String} {r : List V → Hp → VK → Prop} {ts : List T} {u : T} {o : List D → Option D} {f : LF} (hc : CallR X (.type ty) r) (hs : CalS X.K r ts u o) (hg : Gl X x) (hm : X.mg x = none) (hv : bootBuiltins x = some (.type ty))
    (ha : PA X (e :: es) (aP X.K Γ ts f)) (hn : x ≠ "__name__" := by decide) (hdb : (x == ("__debug__" : Str)) = false := by decide)
    (he : starEach (e :: es) X.env = (false, eval e X.env) :: starEach es X.env := by rfl) (hpl : (backTo pos (starEach es X.env)).any (·.1) = false := by rfl) : PE X (.Call (.Name x p) (e :: es) [] pos) (tP X.K Γ u (xL o f)) :=
  (pe_callTy hc hg hm hv ha hn hdb he hpl).imp fun _ _ _ => pL hs
theorem cCallTC {x : Str} {p pos : Pos} {e : Expr} {es : List Expr} {ty : String} {r : List V → Hp → VK → Prop} {ts : List T} {u : T} {o : List D → Option D} {f : LF} (hc : CallR X (.type ty) r) (hs : CalC X.K r ts u o) (hg : Gl X x) (hm : X.mg x = none) (hv : bootBuiltins x = some (.type ty))
    (ha : PA X (e :: es) (aP X.K Γ ts f)) (hn : x ≠ "__name__" := by decide) (hdb : (x == ("__debug__" : Str)) = false := by decide)
    (he : starEach (e :: es) X.env = (false, eval e X.env) :: starEach es X.env := by rfl) (hpl : (backTo pos (starEach es X.env)).any (·.1) = false := by rfl) : PE X (.Call (.Name x p) (e :: es) [] pos) (tC X.K Γ u (xL o f)) :=
  (pe_callTy hc hg hm hv ha hn hdb he hpl).imp fun _ _ _ => pLC hs
theorem cCallBC {x : Str} {p pos : Pos} {e : Expr} {es : List Expr} {id : String} {r : List V → Hp → VK → Prop} {ts : List T} {u : T} {o : List D → Option D} {f : LF} (hc : CallR X (.builtin id) r) (hs : CalC X.K r ts u o) (hg : Gl X x) (hm : X.mg x = none) (hv : bootBuiltins x = some (.builtin id))
    (ha : PA X (e :: es) (aP X.K Γ ts f)) (hn : x ≠ "__name__" := by decide) (hdb : (x == ("__debug__" : Str)) = false := by decide)
    (he : starEach (e :: es) X.env = (false, eval e X.env) :: starEach es X.env := by rfl) (hpl : (backTo pos (starEach es X.env)).any (·.1) = false := by rfl) : PE X (.Call (.Name x p) (e :: es) [] pos) (tC X.K Γ u (xL o f)) :=
  (pe_callB hc hg hm hv ha hn hdb he hpl).imp fun _ _ _ => pLC hs

/-! ### displays -/
theorem Env.shA : ∀ {ts : List T} {vs : List V} {ds : List D} {g : List Addr}, Env K H Z ts (vs.map some) ds g → ts.all (· == .sh) = true → ShA K H Z vs ds
  | [], [], _, _, h, _ => by cases h; exact .nil
  | [], v :: vs, _, _, h, _ => by cases h
  | t :: ts, [], _, _, h, _ => by cases h
  | t :: ts, v :: vs, _, _, h, q => by
    rw [List.all_cons, Bool.and_eq_true] at q
    have e : t = .sh := by simpa using q.1
    subst e
    cases h with
    | cons r h => exact .cons r.shOf.1 (Env.shA h q.2)
def mkTup (ds : List D) : Option D := if ds.length ≤ sizeLine then some (.tuple ds) else none
def mkLst (ds : List D) : Option D := if ds.length ≤ sizeLine then some (.list ds) else none
theorem cTup {x1} {es : List Expr} {pos : Pos} {ts : List T} {f : LF} (h : PA X es (aP X.K Γ ts f)) (ht : ts.all (· == .sh) = true := by rfl) : PE X (.Tuple es x1 pos) (tP X.K Γ .sh (xL mkTup f)) :=
  (pe_tup h).imp fun σ H Q ⟨δ, Z, F, d, ok, e, k⟩ => by
    obtain ⟨ds, eds, e⟩ := Option.bind_eq_some_iff.mp e
    refine ⟨δ, Z, F, ds, ok, eds, fun vs H1 Z1 g s1 r1 => ?_⟩
    have sa := Env.shA r1 ht
    unfold mkTup at e
    split at e
    · rename_i hl
      cases e
      refine ⟨by rw [sa.len]; exact hl, fun p hp => k _ _ Z1 [] (s1.trans (Ext.new hp)) (.sh (.tup upd_same (sa.ext (Ext.new hp))))⟩
    · cases e
/-- a written list, frozen at once -/
theorem cLstS {es : List Expr} {pos : Pos} {ts : List T} {f : LF} (h : PA X es (aP X.K Γ ts f)) (ht : ts.all (· == .sh) = true := by rfl) : PE X (.List es pos) (tP X.K Γ .sh (xL mkLst f)) :=
  (pe_lst h).imp fun σ H Q ⟨δ, Z, F, d, ok, e, k⟩ => by
    obtain ⟨ds, eds, e⟩ := Option.bind_eq_some_iff.mp e
    refine ⟨δ, Z, F, ds, ok, eds, fun vs H1 Z1 g s1 r1 => ?_⟩
    have sa := Env.shA r1 ht
    unfold mkLst at e
    split at e
    · rename_i hl
      cases e
      refine ⟨by rw [sa.len]; exact hl, fun p hp => k _ _ _ [] (s1.trans (Ext.newZ hp)) (.sh (.lst (.inl ⟨.inr rfl, .inl upd_same⟩) (sa.ext (Ext.newZ hp))))⟩
    · cases e
theorem ShA.repA : ∀ {vs : List V} {ds : List D}, ShA K H Z vs ds → RepA K H Z .sh vs ds []
  | _, _, .nil => .nil
  | _, _, .cons h r => RepA.cons (f := []) (.sh h) (ShA.repA r)
theorem RepA.shA : ∀ {vs : List V} {ds : List D} {g : List Addr}, RepA K H Z .sh vs ds g → ShA K H Z vs ds ∧ g = []
  | _, _, _, .nil => ⟨.nil, rfl⟩
  | _, _, _, .cons h r => by
    obtain ⟨h', e⟩ := h.shOf
    obtain ⟨r', e'⟩ := RepA.shA r
    rw [e, e']
    exact ⟨.cons h' r', rfl⟩
/-- a written list of one's own -/
theorem cLst {es : List Expr} {pos : Pos} {ts : List T} {f : LF} (h : PA X es (aP X.K Γ ts f)) (ht : ts.all (· == .sh) = true := by rfl) : PE X (.List es pos) (tC X.K Γ (.ol .sh) (xL mkLst f)) :=
  (pe_lst h).imp fun σ H Q ⟨δ, Z, F, d, ok, e, k⟩ => by
    obtain ⟨ds, eds, e⟩ := Option.bind_eq_some_iff.mp e
    refine ⟨δ, Z, F, ds, ok, eds, fun vs H1 Z1 g s1 r1 => ?_⟩
    have sa := Env.shA r1 ht
    unfold mkLst at e
    split at e
    · rename_i hl
      cases e
      refine ⟨by rw [sa.len]; exact hl, fun p hp => k _ _ Z1 [p] (s1.trans (Ext.new hp)) (.ol upd_same (sa.ext (Ext.new hp)).repA) (by simp) fun a ha => ?_⟩
      have ea : a = p := by simpa using ha
      subst ea
      exact ⟨Same.free s1.same hp, fun hz => (ok.ext s1).zs a hz hp⟩
    · cases e
/-- [] of any kind -/
theorem cNew {t : T} {pos : Pos} : PE X (.List [] pos) (tC X.K Γ (.ol t) (xK (.list []))) :=
  (pe_lst pa_nil).imp fun σ H Q ⟨δ, Z, F, d, ok, e, k⟩ => by
    cases e
    refine ⟨Nat.zero_le _, fun p hp => k _ _ Z [p] (Ext.new hp) (.ol upd_same .nil) (by simp) fun a ha => ?_⟩
    have ea : a = p := by simpa using ha
    subst ea
    exact ⟨hp, fun hz => ok.zs a hz hp⟩
end
end Pv

set_option Elab.async false
set_option linter.all false
set_option maxRecDepth 100000
/-! Pv3: statements, calls, loops, comprehensions, as functions of the slots' data. -/
namespace Pv
open PySem PySem.Spec PyProof.Rows L2
inductive Out where
  | nx (δ : List D) | bk (δ : List D) | ct (δ : List D) | rt (d : D) (δ : List D)
abbrev SF := List D → Option Out
/-- the slots' types at each end -/
structure TyE where
  n : List T
  b : List T
  c : List T
  r : List T
  t : T
/-- the slots that a return hands back hold the very values they held -/
def Fix (r : List T) (σ σ' : L2.St) : Prop := ∀ (i : Nat) (t : T), r[i]? = some t → t ≠ .no → σ'[i]? = σ[i]?
theorem Fix.refl (r : List T) (σ : L2.St) : Fix r σ σ := fun _ _ _ _ => rfl
theorem Fix.trans {r : List T} {σ σ1 σ2 : L2.St} (a : Fix r σ σ1) (b : Fix r σ1 σ2) : Fix r σ σ2 := fun i t h n => (b i t h n).trans (a i t h n)
def Post (K : PySem.W.Frag) (E : TyE) (W : Ends) (σ : L2.St) (H : Hp) (Z : FzT) (F : List Addr) : Out → Prop
  | .nx δ' => ∀ σ' H' Z' F', Stp H Z F H' Z' F' → Ok K E.n σ' δ' H' Z' F' → Fix E.r σ σ' → W.nx σ' H'
  | .bk δ' => ∀ σ' H' Z' F', Stp H Z F H' Z' F' → Ok K E.b σ' δ' H' Z' F' → Fix E.r σ σ' → W.bk σ' H'
  | .ct δ' => ∀ σ' H' Z' F', Stp H Z F H' Z' F' → Ok K E.c σ' δ' H' Z' F' → Fix E.r σ σ' → W.ct σ' H'
  | .rt d δ' => ∀ v σ' H' Z' F' g, Stp H Z F H' Z' (F' ++ g) → Ok K E.r σ' δ' H' Z' F' → Fix E.r σ σ' → Rep K H' Z' E.t v d g → (F' ++ g).Nodup → (∀ a ∈ g, ¬ Z' a) → W.rt v H'
def tS (K : PySem.W.Frag) (Γ : List T) (E : TyE) (f : SF) : TS := fun W σ H => ∃ δ Z F out, Ok K Γ σ δ H Z F ∧ f δ = some out ∧ Post K E W σ H Z F out
section
variable {K : PySem.W.Frag} {X : Cx} {Γ Γ' Γ1 : List T} {H H' H1 : Hp} {Z Z' Z1 : FzT} {F F' F1 : List Addr} {σ σ' σ1 : L2.St} {δ δ' : List D} {E : TyE} {en eb ec er : List T} {et : T} {W W' : Ends}
theorem Post.later {o : Out} (p : Post K E W σ H Z F o) (s : Stp H Z F H1 Z1 F1) (fx : Fix E.r σ σ1) : Post K E W σ1 H1 Z1 F1 o := by
  cases o with
  | nx δ' => exact fun σ' H' Z' F' s' o' f' => p σ' H' Z' F' (s.trans s') o' (fx.trans f')
  | bk δ' => exact fun σ' H' Z' F' s' o' f' => p σ' H' Z' F' (s.trans s') o' (fx.trans f')
  | ct δ' => exact fun σ' H' Z' F' s' o' f' => p σ' H' Z' F' (s.trans s') o' (fx.trans f')
  | rt d δ' => exact fun v σ' H' Z' F' g s' o' f' => p v σ' H' Z' F' g (s.trans s') o' (fx.trans f')
theorem _root_.L2.PS.imp {st : Stmt} {t t' : TS} (h : PS X st t) (i : ∀ W σ H, t' W σ H → t W σ H) : PS X st t' := ⟨fun pins s σ H W I q => h.run pins s σ H W I (i _ _ _ q)⟩
theorem _root_.L2.PSs.imp {st : List Stmt} {t t' : TS} (h : PSs X st t) (i : ∀ W σ H, t' W σ H → t W σ H) : PSs X st t' := ⟨fun pins s σ H W I q => h.run pins s σ H W I (i _ _ _ q)⟩

/-! ### what may be forgotten -/
def wk : List T → List T → Bool
  | [], [] => true
  | t :: ts, u :: us => (u == .no || u == t) && wk ts us
  | _, _ => false
theorem Env.weak : ∀ {Γ Γ' : List T} {σ : L2.St} {δ : List D} {F : List Addr}, wk Γ Γ' = true → Env K H Z Γ σ δ F → ∃ F', Env K H Z Γ' σ δ F' ∧ F'.Sublist F
  | _, [], _, _, _, h, .nil => ⟨[], .nil, .slnil⟩
  | _, u :: us, _, _, _, h, .no (d := d) r => by
    unfold wk at h
    rw [Bool.and_eq_true] at h
    obtain ⟨F', e, s⟩ := Env.weak h.2 r
    have : u = .no := by simpa using h.1
    subst this
    exact ⟨F', .no e, s⟩
  | t :: _, u :: us, _, _, _, h, .cons q r => by
    unfold wk at h
    rw [Bool.and_eq_true] at h
    obtain ⟨F', e, s⟩ := Env.weak h.2 r
    have hu : u = .no ∨ u = t := by simpa using h.1
    rcases hu with rfl | rfl
    · exact ⟨F', .no e, s.trans (List.sublist_append_right _ _)⟩
    · exact ⟨_, .cons q e, (List.Sublist.refl _).append s⟩
  | _, [], _, _, _, h, .no _ => by simp [wk] at h
  | _, [], _, _, _, h, .cons _ _ => by simp [wk] at h
theorem Ok.weak (h : wk Γ Γ' = true) (o : Ok K Γ σ δ H Z F) : ∃ F', Ok K Γ' σ δ H Z F' ∧ F'.Sublist F := by
  obtain ⟨F', e, s⟩ := o.env.weak h
  exact ⟨F', ⟨e, o.nd.sublist s, fun a ha => o.dz a (s.subset ha), o.zs⟩, s⟩
theorem Post.weak {E' : TyE} {o : Out} (hn : wk E'.n E.n = true) (hb : wk E'.b E.b = true) (hc : wk E'.c E.c = true) (hr : E'.r = E.r) (ht : E'.t = E.t) (p : Post K E W σ H Z F o) : Post K E' W σ H Z F o := by
  cases o with
  | nx δ' =>
    intro σ' H' Z' F' s o fx
    obtain ⟨F2, o2, sb⟩ := o.weak hn
    exact p σ' H' Z' F2 (s.sub fun x hx => sb.subset hx) o2 (hr ▸ fx)
  | bk δ' =>
    intro σ' H' Z' F' s o fx
    obtain ⟨F2, o2, sb⟩ := o.weak hb
    exact p σ' H' Z' F2 (s.sub fun x hx => sb.subset hx) o2 (hr ▸ fx)
  | ct δ' =>
    intro σ' H' Z' F' s o fx
    obtain ⟨F2, o2, sb⟩ := o.weak hc
    exact p σ' H' Z' F2 (s.sub fun x hx => sb.subset hx) o2 (hr ▸ fx)
  | rt d δ' =>
    intro v σ' H' Z' F' g s o fx r nd dz
    exact p v σ' H' Z' F' g s (hr ▸ o) (hr ▸ fx) (ht ▸ r) nd dz
theorem zWk {st : List Stmt} {f : SF} {n' b' c' r' : List T} {t' : T} (h : PSs X st (tS X.K Γ ⟨n', b', c', r', t'⟩ f)) (hn : wk n' en = true) (hb : wk b' eb = true) (hc : wk c' ec = true) (hr : r' = er) (ht : t' = et) : PSs X st (tS X.K Γ ⟨en, eb, ec, er, et⟩ f) :=
  h.imp fun W σ H ⟨δ, Z, F, out, ok, e, p⟩ => ⟨δ, Z, F, out, ok, e, p.weak hn hb hc hr ht⟩
theorem zWk1 {st : Stmt} {f : SF} {n' b' c' r' : List T} {t' : T} (h : PS X st (tS X.K Γ ⟨n', b', c', r', t'⟩ f)) (hn : wk n' en = true) (hb : wk b' eb = true) (hc : wk c' ec = true) (hr : r' = er) (ht : t' = et) : PS X st (tS X.K Γ ⟨en, eb, ec, er, et⟩ f) :=
  h.imp fun W σ H ⟨δ, Z, F, out, ok, e, p⟩ => ⟨δ, Z, F, out, ok, e, p.weak hn hb hc hr ht⟩

/-! ### a slot is set -/
theorem Env.set : ∀ {Γ : List T} {σ : L2.St} {δ : List D} {F : List Addr} {i : Nat} {t : T} {v : V} {d : D} {g : List Addr}, Env K H Z Γ σ δ F → i < Γ.length → Rep K H Z t v d g →
    ∃ F1 o F2, F = F1 ++ o ++ F2 ∧ Env K H Z (Γ.set i t) (σ.set i (some v)) (δ.set i d) (F1 ++ g ++ F2)
  | _, _, _, _, _, _, _, _, _, .nil, h, _ => by simp at h
  | _, _, _, _, 0, _, _, _, g, .no (g := G) r, _, q => ⟨[], [], G, by simp, by simpa using Env.cons q r⟩
  | _, _, _, _, 0, _, _, _, g, .cons (f := f) (g := G) _ r, _, q => ⟨[], f, G, by simp, by simpa using Env.cons q r⟩
  | _, _, _, _, i + 1, _, _, _, g, .no r, h, q => by
    obtain ⟨F1, o, F2, rfl, e⟩ := Env.set (i := i) r (by simpa using h) q
    exact ⟨F1, o, F2, rfl, .no e⟩
  | _, _, _, _, i + 1, _, _, _, g, .cons (f := f) q' r, h, q => by
    obtain ⟨F1, o, F2, rfl, e⟩ := Env.set (i := i) r (by simpa using h) q
    exact ⟨f ++ F1, o, F2, by simp [List.append_assoc], by simpa [List.append_assoc] using Env.cons q' e⟩
theorem Ok.set {i : Nat} {t : T} {v : V} {d : D} {g : List Addr} (o : Ok K Γ σ δ H Z F) (hi : i < Γ.length) (r : Rep K H Z t v d g) (nd : (F ++ g).Nodup) (dz : ∀ a ∈ g, ¬ Z a) :
    ∃ F', Ok K (Γ.set i t) (σ.set i (some v)) (δ.set i d) H Z F' ∧ ∀ a ∈ F', a ∈ F ++ g := by
  obtain ⟨F1, od, F2, rfl, e⟩ := o.env.set hi r
  refine ⟨F1 ++ g ++ F2, ⟨e, ?_, fun a ha => ?_, o.zs⟩, fun a ha => ?_⟩
  · have p : List.Perm ((F1 ++ od ++ F2) ++ g) (od ++ (F1 ++ g ++ F2)) := by
      refine List.Perm.trans ?_ (List.perm_append_comm_assoc F1 od (g ++ F2) |>.trans (by simp [List.append_assoc]))
      simp only [List.append_assoc]
      exact (List.perm_append_comm (l₁ := F2) (l₂ := g)).append_left od |>.append_left F1
    exact (List.nodup_append.mp (p.nodup nd)).2.1
  · rcases List.mem_append.mp ha with h | h
    · rcases List.mem_append.mp h with h | h
      · exact o.dz a (by simp [h])
      · exact dz a h
    · exact o.dz a (by simp [h])
  · simp only [List.mem_append] at ha ⊢
    rcases ha with (h | h) | h
    · exact .inl (.inl (.inl h))
    · exact .inr h
    · exact .inl (.inr h)
/-- forgetting a slot -/
def isNo (r : List T) (i : Nat) : Bool := match r[i]? with | some t => t == .no | none => true
theorem Fix.set {r : List T} {i : Nat} {ov : Option V} (h : isNo r i = true) : Fix r σ (σ.set i ov) := fun j t hj n => by
  by_cases e : i = j
  · subst e
    unfold isNo at h
    rw [hj] at h
    exact absurd (by simpa using h) n
  · rw [List.getElem?_set_ne e]

/-! ### small statements -/
def sNil : SF := fun δ => some (.nx δ)
def sSeq (f g : SF) : SF := fun δ => (f δ).bind fun o => match o with | .nx δ' => g δ' | o => some o
def sSet (i : Nat) (f : EF) : SF := fun δ => (f δ).bind fun d => some (.nx (δ.set i d))
def sSetM (i : Nat) (f : EM) : SF := fun δ => (f δ).bind fun p => some (.nx (p.2.set i p.1))
def sDrop (f : EM) : SF := fun δ => (f δ).bind fun p => some (.nx p.2)
def sRet (f : EF) : SF := fun δ => (f δ).bind fun d => some (.rt d δ)
def sRetM (f : EM) : SF := fun δ => (f δ).bind fun p => some (.rt p.1 p.2)
def sRetN : SF := fun δ => some (.rt .none δ)
def sIf (c : BF) (f g : SF) : SF := fun δ => (c δ).bind fun b => if b then f δ else g δ
def sIfM (c : BM) (f g : SF) : SF := fun δ => (c δ).bind fun p => if p.1 then f p.2 else g p.2
def sBk : SF := fun δ => some (.bk δ)
def sCt : SF := fun δ => some (.ct δ)
def sNo : SF := fun _ => none
theorem zNil : PSs X [] (tS X.K Γ ⟨Γ, eb, ec, er, et⟩ sNil) := pss_nil.imp fun W σ H ⟨δ, Z, F, out, ok, e, p⟩ => by
  cases e
  exact p σ H Z F .refl ok (.refl _ _)
theorem zCons {st : Stmt} {rest : List Stmt} {f g : SF} (h1 : PS X st (tS X.K Γ ⟨Γ1, eb, ec, er, et⟩ f)) (h2 : PSs X rest (tS X.K Γ1 ⟨en, eb, ec, er, et⟩ g)) : PSs X (st :: rest) (tS X.K Γ ⟨en, eb, ec, er, et⟩ (sSeq f g)) := (pss_cons h1 h2).imp fun W σ H ⟨δ, Z, F, out, ok, e, p⟩ => by
  obtain ⟨o1, e1, e2⟩ := Option.bind_eq_some_iff.mp e
  refine ⟨δ, Z, F, o1, ok, e1, ?_⟩
  cases o1 with
  | nx δ1 => exact fun σ' H' Z' F' s o fx => ⟨δ1, Z', F', out, o, e2, p.later s fx⟩
  | bk δ1 => cases e2; exact p
  | ct δ1 => cases e2; exact p
  | rt d δ1 => cases e2; exact p
theorem zOne {st : Stmt} {f : SF} (h1 : PS X st (tS X.K Γ ⟨en, eb, ec, er, et⟩ f)) : PSs X [st] (tS X.K Γ ⟨en, eb, ec, er, et⟩ f) := pss_one h1
theorem zPass {pos : Pos} : PS X (.Pass pos) (tS X.K Γ ⟨Γ, eb, ec, er, et⟩ sNil) := ps_pass.imp fun W σ H ⟨δ, Z, F, out, ok, e, p⟩ => by cases e; exact p σ H Z F .refl ok (.refl _ _)
theorem zNever {st : Stmt} : PS X st (tS X.K Γ ⟨en, eb, ec, er, et⟩ sNo) := ps_never.imp fun W σ H ⟨δ, Z, F, out, ok, e, p⟩ => nomatch e
theorem zBk {pos : Pos} : PS X (.Break pos) (tS X.K Γ ⟨en, Γ, ec, er, et⟩ sBk) := ps_break.imp fun W σ H ⟨δ, Z, F, out, ok, e, p⟩ => by cases e; exact p σ H Z F .refl ok (.refl _ _)
theorem zCt {pos : Pos} : PS X (.Continue pos) (tS X.K Γ ⟨en, eb, Γ, er, et⟩ sCt) := ps_continue.imp fun W σ H ⟨δ, Z, F, out, ok, e, p⟩ => by cases e; exact p σ H Z F .refl ok (.refl _ _)
theorem post_set {i : Nat} {t : T} {te : TE} {f : EM} (hi : i < Γ'.length) (hr : isNo er i = true) (hq : ∀ Q, tM K Γ Γ' t f σ H Q → te σ H Q) (h : tS K Γ ⟨Γ'.set i t, eb, ec, er, et⟩ (sSetM i f) W σ H) : tAsg te (gName i) W σ H := by
  obtain ⟨δ, Z, F, out, ok, e, p⟩ := h
  obtain ⟨⟨d, δ'⟩, e1, e2⟩ := Option.bind_eq_some_iff.mp e
  cases e2
  refine hq _ ⟨δ, Z, F, d, δ', ok, e1, fun v H' Z' F' g s o r nd dz => ?_⟩
  obtain ⟨F2, o2, sb⟩ := o.set hi r nd dz
  exact p _ H' Z' F2 (s.sub sb) o2 (Fix.set hr)
theorem sSet_eq (i : Nat) (f : EF) : sSet i f = sSetM i (mOf f) := by
  funext δ
  unfold sSet sSetM mOf
  cases f δ <;> rfl
theorem sRet_eq (f : EF) : sRet f = sRetM (mOf f) := by
  funext δ
  unfold sRet sRetM mOf
  cases f δ <;> rfl
theorem zSetM {i : Nat} {x : Str} {e : Expr} {t : T} {f : EM} {pos pos' : Pos} (hN : X.N.Nodup) (hi : X.N[i]? = some x) (hx : Loc X.env.scope x) (he : PE X e (tM X.K Γ Γ' t f)) (hl : i < Γ'.length) (hr : isNo er i = true)
    (hs : swapsWith e (some (.Name x pos')) pos.line X.env = pure false := by rfl) (hf : X.fn x = true ∨ X.env.scope.names.lookup x = some .local := by first | exact .inl rfl | exact .inr rfl | assumption) :
    PS X (.Assign [.Name x pos'] e pos) (tS X.K Γ ⟨Γ'.set i t, eb, ec, er, et⟩ (sSetM i f)) := (ps_set hN hi hx he hs hf).imp fun W σ H h => post_set hl hr (fun Q q => q) h
theorem zSet {i : Nat} {x : Str} {e : Expr} {t : T} {f : EF} {pos pos' : Pos} (hN : X.N.Nodup) (hi : X.N[i]? = some x) (hx : Loc X.env.scope x) (he : PE X e (tC X.K Γ t f)) (hl : i < Γ.length) (hr : isNo er i = true)
    (hs : swapsWith e (some (.Name x pos')) pos.line X.env = pure false := by rfl) (hf : X.fn x = true ∨ X.env.scope.names.lookup x = some .local := by first | exact .inl rfl | exact .inr rfl | assumption) :
    PS X (.Assign [.Name x pos'] e pos) (tS X.K Γ ⟨Γ.set i t, eb, ec, er, et⟩ (sSet i f)) := by rw [sSet_eq]; exact zSetM hN hi hx (mOfC he) hl hr hs hf
theorem zDrop {e : Expr} {t : T} {f : EM} {pos : Pos} (he : PE X e (tM X.K Γ Γ' t f)) (hs : swapsWith e none pos.line X.env = pure false := by rfl) : PS X (.Expr e pos) (tS X.K Γ ⟨Γ', eb, ec, er, et⟩ (sDrop f)) := (ps_expr he hs).imp fun W σ H ⟨δ, Z, F, out, ok, e, p⟩ => by
  obtain ⟨⟨d, δ'⟩, e1, e2⟩ := Option.bind_eq_some_iff.mp e
  cases e2
  exact ⟨δ, Z, F, d, δ', ok, e1, fun v H' Z' F' g s o r nd dz => p _ H' Z' F' (s.sub fun a ha => List.mem_append_left _ ha) o (.refl _ _)⟩
theorem zDoc {x : Str} {j pos pos'} : PS X (.Expr (.Constant (.str x) j pos) pos') (tS X.K Γ ⟨Γ, eb, ec, er, et⟩ sNil) := ps_doc.imp fun W σ H ⟨δ, Z, F, out, ok, e, p⟩ => by cases e; exact p σ H Z F .refl ok (.refl _ _)
theorem zRetM {e : Expr} {f : EM} {pos : Pos} (he : PE X e (tM X.K Γ Γ' et f)) (hw : wk Γ' er = true) : PS X (.Return (some e) pos) (tS X.K Γ ⟨en, eb, ec, er, et⟩ (sRetM f)) := (ps_ret he).imp fun W σ H ⟨δ, Z, F, out, ok, e, p⟩ => by
  obtain ⟨⟨d, δ'⟩, e1, e2⟩ := Option.bind_eq_some_iff.mp e
  cases e2
  refine ⟨δ, Z, F, d, δ', ok, e1, fun v H' Z' F' g s o r nd dz => ?_⟩
  obtain ⟨F2, o2, sb⟩ := o.weak hw
  exact p v σ H' Z' F2 g (s.sub fun a ha => by rcases List.mem_append.mp ha with h | h; exact List.mem_append_left _ (sb.subset h); exact List.mem_append_right _ h) o2 (.refl _ _) r (nd.sublist (sb.append (.refl _))) dz
theorem zRet {e : Expr} {f : EF} {pos : Pos} (he : PE X e (tC X.K Γ et f)) (hw : wk Γ er = true) : PS X (.Return (some e) pos) (tS X.K Γ ⟨en, eb, ec, er, et⟩ (sRet f)) := by rw [sRet_eq]; exact zRetM (mOfC he) hw
theorem zIfM {c : Expr} {a b : List Stmt} {pos : Pos} {k : BM} {f g : SF} (hc : PT X c (bM X.K Γ Γ' k)) (ha : PSs X a (tS X.K Γ' ⟨en, eb, ec, er, et⟩ f)) (hb : PSs X b (tS X.K Γ' ⟨en, eb, ec, er, et⟩ g)) : PS X (.If c a b pos) (tS X.K Γ ⟨en, eb, ec, er, et⟩ (sIfM k f g)) := (ps_if hc ha hb).imp fun W σ H ⟨δ, Z, F, out, ok, e, p⟩ => by
  obtain ⟨⟨b, δ'⟩, e1, e2⟩ := Option.bind_eq_some_iff.mp e
  refine ⟨δ, Z, F, b, δ', ok, e1, fun H' Z' F' s o => ?_⟩
  cases b with
  | true => exact ⟨δ', Z', F', out, o, e2, p.later s (.refl _ _)⟩
  | false => exact ⟨δ', Z', F', out, o, e2, p.later s (.refl _ _)⟩
theorem zIf {c : Expr} {a b : List Stmt} {pos : Pos} {k : BF} {f g : SF} (hc : PT X c (bP X.K Γ k)) (ha : PSs X a (tS X.K Γ ⟨en, eb, ec, er, et⟩ f)) (hb : PSs X b (tS X.K Γ ⟨en, eb, ec, er, et⟩ g)) : PS X (.If c a b pos) (tS X.K Γ ⟨en, eb, ec, er, et⟩ (sIf k f g)) := (ps_if hc ha hb).imp fun W σ H ⟨δ, Z, F, out, ok, e, p⟩ => by
  obtain ⟨b, e1, e2⟩ := Option.bind_eq_some_iff.mp e
  refine ⟨δ, Z, F, b, ok, e1, fun H' Z' s => ?_⟩
  cases b with
  | true => exact ⟨δ, Z', F, out, ok.ext s, e2, p.later s.stp (.refl _ _)⟩
  | false => exact ⟨δ, Z', F, out, ok.ext s, e2, p.later s.stp (.refl _ _)⟩

end
end Pv

set_option Elab.async false
set_option linter.all false
set_option maxRecDepth 100000
/-! Pv4: defs and their calls; lists handed over, frozen, changed. -/
namespace Pv
open PySem PySem.Spec PyProof.Rows L2
/-- a def by its data: the parameters' types, what of them comes back, the answer's type, the answer and the parameters behind it -/
structure FS where
  ps : List T
  io : List T
  t : T
  f : List D → Option (D × List D)
def spF (K : PySem.W.Frag) (S : FS) : Sp := fun vs H Q _ => ∃ ds Z F d ds', Ok K S.ps (vs.map some) ds H Z F ∧ S.f ds = some (d, ds') ∧
  ∀ v H' Z' F' g, Stp H Z F H' Z' (F' ++ g) → Ok K S.io (vs.map some) ds' H' Z' F' → Rep K H' Z' S.t v d g → (F' ++ g).Nodup → (∀ a ∈ g, ¬ Z' a) → Q v H'
def outF (n : Nat) (fo : Bool) : Out → Option (D × List D)
  | .rt d δ => some (d, δ.take n)
  | .nx δ => if fo then some (.none, δ.take n) else none
  | _ => none
/-- a body as a function: nl further slots; fo: it may fall off its end -/
def fnF (nl : Nat) (fo : Bool) (g : SF) : List D → Option (D × List D) := fun ds => (g (ds ++ List.replicate nl .none)).bind (outF ds.length fo)
section
variable {K : PySem.W.Frag} {X : Cx} {Γ Γ' Γ1 : List T} {H H' H1 : Hp} {Z Z' Z1 : FzT} {F F' F1 : List Addr} {σ σ' σ1 : L2.St} {δ δ' : List D} {E : TyE} {en eb ec er : List T} {et : T} {W W' : Ends}
theorem Env.pad : ∀ {Γ : List T} {σ : L2.St} {δ : List D} {F : List Addr} (n : Nat), Env K H Z Γ σ δ F → Env K H Z (Γ ++ List.replicate n .no) (σ ++ List.replicate n none) (δ ++ List.replicate n .none) F
  | _, _, _, _, n, .no r => .no (Env.pad n r)
  | _, _, _, _, n, .cons q r => .cons q (Env.pad n r)
  | _, _, _, _, 0, .nil => .nil
  | _, _, _, _, n + 1, .nil => by
    have h : Env K H Z _ _ _ _ := Env.pad n .nil
    exact .no h
theorem Env.nos : ∀ {L : List T} {σ : L2.St} {δ : List D} {F : List Addr}, Env K H Z L σ δ F → L.all (· == .no) = true → F = []
  | _, _, _, _, .nil, _ => rfl
  | _, _, _, _, .no r, h => Env.nos r (by rw [List.all_cons, Bool.and_eq_true] at h; exact h.2)
  | t :: _, _, _, _, .cons q r, h => by
    rw [List.all_cons, Bool.and_eq_true] at h
    have e : t = T.no := by simpa using h.1
    subst e
    cases q
    rw [Env.nos r h.2]
    rfl
theorem Env.back : ∀ {io L : List T} {vs : List V} {σ : L2.St} {δ : List D} {F : List Addr}, Env K H Z (io ++ L) σ δ F → L.all (· == .no) = true → vs.length = io.length →
    (∀ (i : Nat) (t : T), io[i]? = some t → t ≠ .no → σ[i]? = (vs.map some)[i]?) → Env K H Z io (vs.map some) (δ.take io.length) F
  | [], L, vs, σ, δ, F, h, hl, e, _ => by
    have : vs = [] := List.eq_nil_of_length_eq_zero e
    subst this
    rw [Env.nos h hl]
    exact .nil
  | t :: io, L, [], _, _, _, _, _, e, _ => by simp at e
  | t :: io, L, v :: vs, _, _, _, h, hl, e, q => by
    have e' : vs.length = io.length := by simpa using e
    cases h with
    | no r =>
      have := Env.back r hl e' fun i t hi n => by simpa using q (i + 1) t (by simpa using hi) n
      exact .no this
    | @cons _ _ v' _ _ _ _ _ p r =>
      have ih := Env.back r hl e' fun i t hi n => by simpa using q (i + 1) t (by simpa using hi) n
      by_cases hn : t = .no
      · subst hn
        cases p
        exact .no ih
      · have e0 := q 0 t rfl hn
        have e1 : v' = v := by simpa using e0
        subst e1
        exact .cons p ih
theorem all_rep (n : Nat) : (List.replicate n T.no).all (· == .no) = true := by simp
/-- THE RULE for a def that raises nothing -/
theorem fn_val {P : Program} {w : World} {mg : Str → Option Value} {base : Heap} {x qual : Str} {st : Stmt} {f : Addr} {fd : FuncData} {N ps : List Str} {k nl : Nat} {fo : Bool} {S : FS} {g : SF}
    (Fu : Fun K x qual st f fd) (Sc : FnScope N ps (defScope st)) (hp : S.ps.length = ps.length) (hio : S.io.length = ps.length) (hN : N.length = ps.length + nl) (hf : S.f = fnF nl fo g) (hfo : fo = true → S.t = .sh)
    (body : ∀ (cdv : Value) (A : Around) (outer : List PySem.Env) (s : Shared) (H : Hp) (E : XK), Room k (A.deeper (envOfC qual (defScope st) s.heap.objs.size f cdv)) →
      PSs (cxOf CX0 P w K mg base N qual (defScope st) f cdv A outer s H E).nox (defBody st) (tS K (S.ps ++ List.replicate nl .no) ⟨S.io ++ List.replicate nl .no, [], [], S.io ++ List.replicate nl .no, S.t⟩ g)) :
    FnOk P w K mg base CX0 (k + 1) f fd ps (spF K S) := by
  refine Fu.ok Sc (fun vs H Q E h => ?_) (fun cdv A outer s H vs Q E hr h => ?_)
  · obtain ⟨ds, Z, F, d, ds', ok, _⟩ := h
    have := ok.env.len.1
    rw [List.length_map] at this
    omega
  · obtain ⟨ds, Z, F, d, ds', ok, e, k⟩ := h
    have lv : vs.length = ps.length := by
      have := ok.env.len.1
      rw [List.length_map] at this
      omega
    have ld : ds.length = ps.length := by
      have := ok.env.len.2
      omega
    rw [hf] at e
    obtain ⟨out, e1, e2⟩ := Option.bind_eq_some_iff.mp e
    refine ⟨_, body cdv A outer s H E hr, ds ++ List.replicate nl .none, Z, F, out, ⟨?_, ok.nd, ok.dz, ok.zs⟩, e1, ?_⟩
    · have hs : L2.start N vs = vs.map some ++ List.replicate nl none := by
        unfold L2.start
        rw [show N.length - vs.length = nl by omega]
      rw [hs]
      exact ok.env.pad nl
    · have back : ∀ {σ' : L2.St} {δ' : List D} {H' : Hp} {Z' : FzT} {F' : List Addr}, Ok K (S.io ++ List.replicate nl .no) σ' δ' H' Z' F' → Fix (S.io ++ List.replicate nl .no) (L2.start N vs) σ' → Ok K S.io (vs.map some) (δ'.take ds.length) H' Z' F' := fun o fx => by
        rw [show ds.length = S.io.length by omega]
        refine ⟨o.env.back (all_rep nl) (by omega) fun i t hi n => ?_, o.nd, o.dz, o.zs⟩
        have hl : i < S.io.length := (List.getElem?_eq_some_iff.mp hi).1
        rw [fx i t (by rw [List.getElem?_append_left hl]; exact hi) n]
        unfold L2.start
        rw [List.getElem?_append_left (by rw [List.length_map]; omega)]
      cases out with
      | nx δ' =>
        unfold outF at e2
        cases hq : fo with
        | false => rw [hq] at e2; cases e2
        | true =>
          rw [hq] at e2
          cases e2
          intro σ' H' Z' F' s' o fx
          refine k .non H' Z' F' [] (by simpa using s') (back o fx) ?_ (by simpa using o.nd) (fun _ q => nomatch q)
          rw [hfo hq]
          exact .sh .non
      | rt d' δ' =>
        cases e2
        intro v σ' H' Z' F' g' s' o fx r nd dz
        exact k v H' Z' F' g' s' (back o fx) r nd dz
      | bk δ' => cases e2
      | ct δ' => cases e2

/-! ### a slot's value is taken out -/
theorem Env.take : ∀ {Γ : List T} {σ : L2.St} {δ : List D} {F : List Addr} {i : Nat} {t : T} {d : D}, Env K H Z Γ σ δ F → Γ[i]? = some t → t ≠ .no → δ[i]? = some d →
    ∃ v F1 g F2, σ[i]? = some (some v) ∧ Rep K H Z t v d g ∧ F = F1 ++ g ++ F2 ∧ Env K H Z (Γ.set i .no) σ δ (F1 ++ F2)
  | _, _, _, _, i, _, _, .nil, h, _, _ => by simp at h
  | _, _, _, _, 0, t, _, .no r, h, n, _ => by simp at h; exact absurd h.symm n
  | _, _, _, _, i + 1, t, d, .no r, h, n, e => by
    obtain ⟨v, F1, g, F2, h1, h2, h3, h4⟩ := Env.take (i := i) r (by simpa using h) n (by simpa using e)
    exact ⟨v, F1, g, F2, by simpa using h1, h2, h3, .no h4⟩
  | _, _, _, _, 0, t, d, .cons (f := f) (g := G) q r, h, n, e => by
    simp at h e; subst h; subst e
    exact ⟨_, [], f, G, rfl, q, by simp, by simpa using Env.no r⟩
  | _, _, _, _, i + 1, t, d, .cons (f := f) q r, h, n, e => by
    obtain ⟨v, F1, g, F2, h1, h2, h3, h4⟩ := Env.take (i := i) r (by simpa using h) n (by simpa using e)
    exact ⟨v, f ++ F1, g, F2, by simpa using h1, h2, by rw [h3]; simp [List.append_assoc], by simpa [List.append_assoc] using Env.cons q h4⟩
theorem nodup_mid {F1 g F2 : List Addr} (h : (F1 ++ g ++ F2).Nodup) : (F1 ++ F2 ++ g).Nodup := by
  refine List.Perm.nodup ?_ h
  rw [List.append_assoc, List.append_assoc]
  exact (List.perm_append_comm (l₁ := g) (l₂ := F2)).append_left F1
def xMov (i : Nat) : EM := fun δ => (δ[i]?).map (·, δ)
theorem Ok.take {i : Nat} {t : T} {d : D} (o : Ok K Γ σ δ H Z F) (h : Γ[i]? = some t) (n : t ≠ .no) (e : δ[i]? = some d) :
    ∃ v F' g, σ[i]? = some (some v) ∧ Rep K H Z t v d g ∧ Ok K (Γ.set i .no) σ δ H Z F' ∧ (F' ++ g).Nodup ∧ (∀ a ∈ F' ++ g, a ∈ F) := by
  obtain ⟨v, F1, g, F2, h1, h2, rfl, h4⟩ := o.env.take h n e
  have nd := nodup_mid o.nd
  have sub : ∀ a ∈ F1 ++ F2 ++ g, a ∈ F1 ++ g ++ F2 := fun a ha => by
    simp only [List.mem_append] at ha ⊢
    rcases ha with (h | h) | h
    · exact .inl (.inl h)
    · exact .inr h
    · exact .inl (.inr h)
  exact ⟨v, F1 ++ F2, g, h1, h2, ⟨h4, (List.nodup_append.mp nd).1, fun a ha => o.dz a (sub a (List.mem_append_left _ ha)), o.zs⟩, nd, sub⟩
theorem mMov (i : Nat) {x : Str} {pos : Pos} {t : T} (ht : Γ[i]? = some t) (hn : t ≠ .no) (h : PE X (.Name x pos) (tVar i)) : PE X (.Name x pos) (tM X.K Γ (Γ.set i .no) t (xMov i)) := h.imp fun σ H Q ⟨δ, Z, F, d, δ', o, e, k⟩ => by
  unfold xMov at e
  cases q : δ[i]? with
  | none => rw [q] at e; cases e
  | some d' =>
    rw [q] at e; cases e
    obtain ⟨v, F', g, h1, h2, h3, h4, h5⟩ := o.take ht hn q
    exact ⟨v, h1, k v H Z F' g (Stp.refl.sub h5) h3 h2 h4 fun a ha => o.dz a (h5 a (List.mem_append_right _ ha))⟩

/-! ### frozen -/
def T.full : T → Bool
  | .no => false
  | .sh => true
  | .ol t => t.full
  | .pr s t => s.full && t.full
  | .dk _ => false
  | .dt _ => false
mutual
theorem Sh.zmono (m : ∀ a, Z a → Z' a) : ∀ {v : V} {d : D}, Sh K H Z v d → Sh K H Z' v d
  | _, _, .non => .non
  | _, _, .bl b => .bl b
  | _, _, .int i => .int i
  | _, _, .str x => .str x
  | _, _, .lst z r => .lst (z.mono m) (ShA.zmono m r)
  | _, _, .tup h r => .tup h (ShA.zmono m r)
  | _, _, .dk z h e r => .dk (m _ z) h e (ShA.zmono m r)
  | _, _, .dt z h e r => .dt (m _ z) h e (ShA.zmono m r)
theorem ShA.zmono (m : ∀ a, Z a → Z' a) : ∀ {vs : List V} {ds : List D}, ShA K H Z vs ds → ShA K H Z' vs ds
  | _, _, .nil => .nil
  | _, _, .cons h r => .cons (Sh.zmono m h) (ShA.zmono m r)
end
mutual
theorem Rep.zmono (m : ∀ a, Z a → Z' a) : ∀ {t : T} {v : V} {d : D} {f : List Addr}, Rep K H Z t v d f → Rep K H Z' t v d f
  | _, _, _, _, .no => .no
  | _, _, _, _, .sh h => .sh (h.zmono m)
  | _, _, _, _, .ol h r => .ol h (RepA.zmono m r)
  | _, _, _, _, .pr h r1 r2 => .pr h (Rep.zmono m r1) (Rep.zmono m r2)
  | _, _, _, _, .dk h e r => .dk h e (RepA.zmono m r)
  | _, _, _, _, .dt h e r => .dt h e (RepA.zmono m r)
theorem RepA.zmono (m : ∀ a, Z a → Z' a) : ∀ {t : T} {vs : List V} {ds : List D} {f : List Addr}, RepA K H Z t vs ds f → RepA K H Z' t vs ds f
  | _, _, _, _, .nil => .nil
  | _, _, _, _, .cons h r => .cons (Rep.zmono m h) (RepA.zmono m r)
end
/-- what is frozen besides -/
def zu (Z : FzT) (g : List Addr) : FzT := fun a => Z a ∨ a ∈ g
mutual
theorem Rep.frz (m : ∀ a, Z a → Z' a) : ∀ {t : T} {v : V} {d : D} {f : List Addr}, Rep K H Z t v d f → t.full = true → (∀ a ∈ f, Z' a) → Sh K H Z' v d
  | _, _, _, _, .no, h, _ => by cases h
  | _, _, _, _, .sh h, _, _ => h.zmono m
  | _, _, _, _, .ol h r, hf, q => .lst (.inl ⟨q _ List.mem_cons_self, .inl h⟩) (RepA.frz m r hf fun a ha => q a (List.mem_cons_of_mem _ ha))
  | _, _, _, _, .dk _ _ _, hf, _ => by cases hf
  | _, _, _, _, .dt _ _ _, hf, _ => by cases hf
  | _, _, _, _, .pr h r1 r2, hf, q => by
    have hf' := (Bool.and_eq_true _ _).mp hf
    exact .tup h (.cons (Rep.frz m r1 hf'.1 fun a ha => q a (List.mem_append_left _ ha)) (.cons (Rep.frz m r2 hf'.2 fun a ha => q a (List.mem_append_right _ ha)) .nil))
theorem RepA.frz (m : ∀ a, Z a → Z' a) : ∀ {t : T} {v : List V} {d : List D} {f : List Addr}, RepA K H Z t v d f → t.full = true → (∀ a ∈ f, Z' a) → ShA K H Z' v d
  | _, _, _, _, .nil, _, _ => .nil
  | _, _, _, _, .cons h r, hf, q => .cons (Rep.frz m h hf fun a ha => q a (List.mem_append_left _ ha)) (RepA.frz m r hf fun a ha => q a (List.mem_append_right _ ha))
end
/-- g is frozen: it leaves what is owned -/
theorem Stp.freeze {g : List Addr} (s : Stp H Z F H' Z' (F' ++ g)) (m : Mu H' g) : Stp H Z F H' (zu Z' g) F' :=
  ⟨s.keep, fun a h => .inl (s.mono a h), fun a h => s.own a (List.mem_append_left _ h), fun a h => Or.elim h (s.frz a) fun h => .inr (s.own a (List.mem_append_right _ h)), s.live, fun a h => Or.elim h (s.zs a) fun h => .inr (m.some h)⟩
theorem Env.zmono (m : ∀ a, Z a → Z' a) : ∀ {Γ : List T} {σ : L2.St} {δ : List D} {F : List Addr}, Env K H Z Γ σ δ F → Env K H Z' Γ σ δ F
  | _, _, _, _, .nil => .nil
  | _, _, _, _, .no r => .no (r.zmono m)
  | _, _, _, _, .cons q r => .cons (q.zmono m) (r.zmono m)
theorem Ok.freeze {g : List Addr} (o : Ok K Γ σ δ H Z F) (nd : (F ++ g).Nodup) (m : Mu H g) : Ok K Γ σ δ H (zu Z g) F :=
  ⟨o.env.zmono fun _ => .inl, o.nd, fun a ha h => Or.elim h (o.dz a ha) fun h => (List.nodup_append.mp nd).2.2 a ha a h rfl, fun a h => Or.elim h (o.zs a) fun h => m.some h⟩
theorem mFrz {t : T} {f : EM} {e : Expr} (h : PE X e (tM X.K Γ Γ' t f)) (hf : t.full = true := by rfl) : PE X e (tM X.K Γ Γ' .sh f) := h.imp fun σ H Q ⟨δ, Z, F, d, δ', o, e, k⟩ =>
  ⟨δ, Z, F, d, δ', o, e, fun v H' Z' F' g s o' r nd dz => k v H' (zu Z' g) F' [] (by simpa using s.freeze r.mu) (o'.freeze nd r.mu) (.sh (r.frz (fun _ => .inl) hf fun _ => .inr)) (by simpa using o'.nd) (fun _ q => nomatch q)⟩
theorem cFrz {t : T} {f : EF} {e : Expr} (h : PE X e (tC X.K Γ t f)) (hf : t.full = true := by rfl) : PE X e (tP X.K Γ .sh f) := h.imp fun σ H Q ⟨δ, Z, F, d, o, e, k⟩ =>
  ⟨δ, Z, F, d, o, e, fun v H' Z' g s r nd dz => k v H' (zu Z' g) [] ⟨s.keep, fun a h => .inl (s.mono a h), (fun _ q => nomatch q), fun a h => Or.elim h (s.frz a) fun h => .inr (.inr (dz a h).1), s.live, fun a h => Or.elim h (s.zs a) fun h => .inr (r.mu.some h)⟩
    (.sh (r.frz (fun _ => .inl) hf fun _ => .inr))⟩
/-- the slot i is frozen ahead of a block -/
theorem zFrz (i : Nat) {t : T} {sts : List Stmt} {f : SF} (ht : Γ[i]? = some t) (hf : t.full = true) (h : PSs X sts (tS X.K (Γ.set i .sh) ⟨en, eb, ec, er, et⟩ f)) (hl : ∀ δ o, f δ = some o → i < δ.length → True := by intros; trivial) : PSs X sts (tS X.K Γ ⟨en, eb, ec, er, et⟩ f) := h.imp fun W σ H ⟨δ, Z, F, out, ok, e, p⟩ => by
  have hn : t ≠ .no := fun z => by rw [z] at hf; cases hf
  have hi : i < Γ.length := (List.getElem?_eq_some_iff.mp ht).1
  obtain ⟨d, hd⟩ : ∃ d, δ[i]? = some d := ⟨δ[i]'(by rw [ok.env.len.2]; exact hi), by simp [ok.env.len.2, hi]⟩
  obtain ⟨v, F', g, h1, h2, h3, h4, h5⟩ := ok.take ht hn hd
  have s := (Stp.refl (H := H) (Z := Z) (F := F)).sub h5
  have o1 := h3.freeze h4 h2.mu
  have sh : Sh X.K H (zu Z g) v d := h2.frz (fun _ => .inl) hf fun _ => .inr
  obtain ⟨F2, o2, sb⟩ := o1.set (i := i) (t := .sh) (v := v) (d := d) (g := []) (by simpa using hi) (.sh sh) (by simpa using o1.nd) (fun _ q => nomatch q)
  have e1 : σ.set i (some v) = σ := by
    refine List.ext_getElem? fun j => ?_
    by_cases hj : i = j
    · subst hj
      rw [List.getElem?_set_self (by rw [ok.env.len.1]; exact hi), h1]
    · rw [List.getElem?_set_ne hj]
  have e2 : δ.set i d = δ := by
    refine List.ext_getElem? fun j => ?_
    by_cases hj : i = j
    · subst hj
      rw [List.getElem?_set_self (by rw [ok.env.len.2]; exact hi), hd]
    · rw [List.getElem?_set_ne hj]
  rw [e1, e2, List.set_set] at o2
  exact ⟨δ, _, F2, out, o2, e, p.later ((s.freeze h2.mu).sub fun a ha => by simpa using sb a ha) (.refl _ _)⟩
end
end Pv

set_option Elab.async false
set_option linter.all false
set_option maxRecDepth 100000
/-! Pv5: calls of the text's own defs; methods that change a list. -/
namespace Pv
open PySem PySem.Spec PyProof.Rows L2
def xCall (f : List D → Option (D × List D)) (a : LF) : EF := fun δ => (a δ).bind fun ds => (f ds).map (·.1)
def giveT : List (Option Nat) → List T → List T → List T
  | some i :: gb, t :: ts, Γ => giveT gb ts (Γ.set i t)
  | none :: gb, _ :: ts, Γ => giveT gb ts Γ
  | _, _, Γ => Γ
def giveD : List (Option Nat) → List D → List D → List D
  | some i :: gb, d :: ds, δ => giveD gb ds (δ.set i d)
  | none :: gb, _ :: ds, δ => giveD gb ds δ
  | _, _, δ => δ
def xCallM (gb : List (Option Nat)) (f : List D → Option (D × List D)) (a : LM) : EM := fun δ => (a δ).bind fun p => (f p.1).map fun q => (q.1, giveD gb q.2 p.2)
/-- arguments that come from slots -/
def Gv : List (Option Nat) → List V → L2.St → Prop
  | some i :: gb, v :: vs, σ => σ[i]? = some (some v) ∧ Gv gb vs σ
  | none :: gb, _ :: vs, σ => Gv gb vs σ
  | [], [], _ => True
  | _, _, _ => False
def aM (K : PySem.W.Frag) (Γ Γ' ts : List T) (gb : List (Option Nat)) (f : LM) : TA := fun σ H Q => ∃ δ Z F ds δ', Ok K Γ σ δ H Z F ∧ f δ = some (ds, δ') ∧
  ∀ vs H' Z' F' g, Stp H Z F H' Z' (F' ++ g) → Ok K Γ' σ δ' H' Z' F' → Env K H' Z' ts (vs.map some) ds g → (F' ++ g).Nodup → (∀ a ∈ g, ¬ Z' a) → Gv gb vs σ → Q vs H'
def xmNil : LM := fun δ => some ([], δ)
def xmCons (a : EM) (r : LM) : LM := fun δ => (a δ).bind fun p => (r p.2).bind fun q => some (p.1 :: q.1, q.2)
section
variable {K : PySem.W.Frag} {X : Cx} {Γ Γ' Γ1 Γ2 : List T} {H H' H1 H2 : Hp} {Z Z' Z1 Z2 : FzT} {F F' F1 F2 : List Addr} {σ σ' σ1 : L2.St} {δ δ' : List D} {E : TyE} {en eb ec er : List T} {et : T} {W W' : Ends}
theorem Env.shs : ∀ {ts : List T} {σ : L2.St} {ds : List D} {g : List Addr}, Env K H Z ts σ ds g → ts.all (· == .sh) = true → g = []
  | _, _, _, _, .nil, _ => rfl
  | _, _, _, _, .no r, h => by simp at h
  | t :: _, _, _, _, .cons q r, h => by
    rw [List.all_cons, Bool.and_eq_true] at h
    have e : t = .sh := by simpa using h.1
    subst e
    rw [q.shOf.2, Env.shs r h.2]
    rfl
/-- f(e, ..) of a def that takes and gives shared data alone -/
theorem cCall {k : Nat} {f : Addr} {fd : FuncData} {ps : List Str} {S : FS} {x : Str} {p pos : Pos} {e : Expr} {es : List Expr} {fa : LF} (Fn : FnOk X.prog X.w X.K X.mg X.base CX0 k f fd ps (spF X.K S)) (hr : Room k X.A) (hg : Gl X x) (hm : X.mg x = some (.ref f)) (hk : PySem.W.keepIn X.K (.ref f) = true)
    (hb : Binds X.K fd ps []) (ha : PA X (e :: es) (aP X.K Γ S.ps fa)) (h1 : S.ps.all (· == .sh) = true) (h2 : S.io.all (· == .no) = true) (hdb : (x == ("__debug__" : Str)) = false := by decide)
    (he : starEach (e :: es) X.env = (false, eval e X.env) :: starEach es X.env := by rfl) (hpl : (backTo pos (starEach es X.env)).any (·.1) = false := by rfl) :
    PE X (.Call (.Name x p) (e :: es) [] pos) (tC X.K Γ S.t (xCall S.f fa)) := (pe_call Fn hr hg hm hk hb .nil pass0 ha hdb he hpl).imp fun σ H Q ⟨δ, Z, F, d, ok, e, k⟩ => by
  obtain ⟨ds, e1, e2⟩ := Option.bind_eq_some_iff.mp e
  obtain ⟨⟨d', ds'⟩, e3, e4⟩ := Option.map_eq_some_iff.mp e2
  cases e4
  refine ⟨δ, Z, F, ds, ok, e1, fun vs H1 Z1 g s1 r1 => ?_⟩
  have eg := r1.shs h1
  subst eg
  refine ⟨ds, Z1, [], d', ds', ⟨by rw [List.append_nil]; exact r1, .nil, (fun _ q => nomatch q), (ok.ext s1).zs⟩, e3, fun v H' Z' F' g' s' o r nd dz => ?_⟩
  have eF := o.env.nos h2
  subst eF
  refine k v H' Z' g' (s1.trans (s'.sub fun a q => nomatch q)) r (by simpa using nd) fun a ha => ⟨?_, dz a ha⟩
  rcases s'.own a ha with z | z
  · cases z
  · exact Same.free s1.same z

/-! ### frames of steps -/
theorem Stp.frame {g : List Addr} (s : Stp H Z F H' Z' F') : Stp H Z (F ++ g) H' Z' (F' ++ g) :=
  ⟨fun a o h n => s.keep a o h fun z => n (List.mem_append_left _ z), s.mono, fun a h => (List.mem_append.mp h).elim (fun z => (s.own a z).imp (List.mem_append_left _) id) fun z => .inl (List.mem_append_right _ z),
    fun a h => (s.frz a h).imp id fun z => z.imp (List.mem_append_left _) id, s.live, s.zs⟩
theorem Stp.dzs {g : List Addr} (s : Stp H Z F H' Z' F') (m : Mu H g) (dz : ∀ a ∈ g, ¬ Z a) (nf : ∀ a ∈ g, a ∉ F) : ∀ a ∈ g, ¬ Z' a := fun a ha h => by
  rcases s.frz a h with z | z | z
  · exact dz a ha z
  · exact nf a ha z
  · exact m.some ha z
theorem Stp.apart {g : List Addr} (s : Stp H Z F H' Z' F') (m : Mu H g) (nf : ∀ a ∈ g, a ∉ F) : ∀ a ∈ g, a ∉ F' := fun a ha h => by
  rcases s.own a h with z | z
  · exact nf a ha z
  · exact m.some ha z
theorem nd_apart {A B : List Addr} (h : (A ++ B).Nodup) : ∀ a ∈ B, a ∉ A := fun a ha hb => (List.nodup_append.mp h).2.2 a hb a ha rfl
theorem nd_of {A B : List Addr} (h1 : A.Nodup) (h2 : B.Nodup) (h : ∀ a ∈ B, a ∉ A) : (A ++ B).Nodup := nodup_app h1 h2 h
theorem aMNil : PA X [] (aM X.K Γ Γ [] [] xmNil) := pa_nil.imp fun σ H Q ⟨δ, Z, F, d, δ', ok, e, k⟩ => by
  cases e
  exact k [] H Z F [] (by simpa using Stp.refl) ok .nil (by simpa using ok.nd) (fun _ q => nomatch q) trivial
theorem aM_step {v : V} {t : T} {ts : List T} {d : D} {ds : List D} {vs : List V} {g1 g2 : List Addr} (s1 : Stp H Z F H1 Z1 (F1 ++ g1)) (ok1 : Ok K Γ1 σ δ H1 Z1 F1) (r1 : Rep K H1 Z1 t v d g1) (nd1 : (F1 ++ g1).Nodup) (dz1 : ∀ a ∈ g1, ¬ Z1 a)
    (s2 : Stp H1 Z1 F1 H2 Z2 (F2 ++ g2)) (ok2 : Ok K Γ2 σ δ' H2 Z2 F2) (r2 : Env K H2 Z2 ts (vs.map some) ds g2) (nd2 : (F2 ++ g2).Nodup) (dz2 : ∀ a ∈ g2, ¬ Z2 a) :
    Stp H Z F H2 Z2 (F2 ++ (g1 ++ g2)) ∧ Env K H2 Z2 (t :: ts) ((v :: vs).map some) (d :: ds) (g1 ++ g2) ∧ (F2 ++ (g1 ++ g2)).Nodup ∧ ∀ a ∈ g1 ++ g2, ¬ Z2 a := by
  have ap := s2.apart r1.mu (nd_apart nd1)
  refine ⟨s1.trans (s2.frame.sub fun a ha => by simp only [List.mem_append] at ha ⊢; rcases ha with h | h | h <;> simp [h]), .cons (r1.step s2 ok1.mu ok1.dz (nd_apart nd1)) r2, ?_, fun a ha => (List.mem_append.mp ha).elim (s2.dzs r1.mu dz1 (nd_apart nd1) a) (dz2 a)⟩
  have nd : ((F2 ++ g2) ++ g1).Nodup := nd_of nd2 (List.nodup_append.mp nd1).2.1 ap
  refine List.Perm.nodup ?_ nd
  rw [List.append_assoc]
  exact (List.perm_append_comm).append_left F2
theorem aMCons {t : T} {ts : List T} {gb : List (Option Nat)} {f : EM} {r : LM} {e : Expr} {es : List Expr} (ha : PE X e (tM X.K Γ Γ1 t f)) (hr : PA X es (aM X.K Γ1 Γ2 ts gb r)) (hs : starEach (e :: es) X.env = (false, eval e X.env) :: starEach es X.env := by rfl) :
    PA X (e :: es) (aM X.K Γ Γ2 (t :: ts) (none :: gb) (xmCons f r)) := (pa_cons ha hr hs).imp fun σ H Q ⟨δ, Z, F, ds, δ', ok, e, k⟩ => by
  obtain ⟨⟨d, δ1⟩, e1, e2⟩ := Option.bind_eq_some_iff.mp e
  obtain ⟨⟨ds', δ2⟩, e3, e4⟩ := Option.bind_eq_some_iff.mp e2
  cases e4
  refine ⟨δ, Z, F, d, δ1, ok, e1, fun v H1 Z1 F1 g1 s1 ok1 r1 nd1 dz1 => ⟨δ1, Z1, F1, ds', δ2, ok1, e3, fun vs H2 Z2 F2 g2 s2 ok2 r2 nd2 dz2 gv => ?_⟩⟩
  obtain ⟨a, b, c, d⟩ := aM_step s1 ok1 r1 nd1 dz1 s2 ok2 r2 nd2 dz2
  exact k (v :: vs) H2 Z2 F2 _ a ok2 b c d gv
/-- an argument that is a slot's own list: it comes back -/
theorem aMIo (i : Nat) {x : Str} {pos : Pos} {t : T} {ts : List T} {gb : List (Option Nat)} {r : LM} {es : List Expr} (ht : Γ[i]? = some t) (hn : t ≠ .no) (h : PE X (.Name x pos) (tVar i)) (hr : PA X es (aM X.K (Γ.set i .no) Γ2 ts gb r))
    (hs : starEach (.Name x pos :: es) X.env = (false, eval (.Name x pos) X.env) :: starEach es X.env := by rfl) :
    PA X (.Name x pos :: es) (aM X.K Γ Γ2 (t :: ts) (some i :: gb) (xmCons (xMov i) r)) := (pa_cons h hr hs).imp fun σ H Q ⟨δ, Z, F, ds, δ', ok, e, k⟩ => by
  obtain ⟨⟨d, δ1⟩, e1, e2⟩ := Option.bind_eq_some_iff.mp e
  obtain ⟨⟨ds', δ2⟩, e3, e4⟩ := Option.bind_eq_some_iff.mp e2
  cases e4
  unfold xMov at e1
  cases q : δ[i]? with
  | none => rw [q] at e1; cases e1
  | some d' =>
    rw [q] at e1; cases e1
    obtain ⟨v, F1, g1, h1, h2, h3, h4, h5⟩ := ok.take ht hn q
    refine ⟨v, h1, δ, Z, F1, ds', δ2, h3, e3, fun vs H2 Z2 F2 g2 s2 ok2 r2 nd2 dz2 gv => ?_⟩
    obtain ⟨a, b, c, d⟩ := aM_step (Stp.refl.sub h5) h3 h2 h4 (fun a ha => ok.dz a (h5 a (List.mem_append_right _ ha))) s2 ok2 r2 nd2 dz2
    exact k (v :: vs) H2 Z2 F2 _ a ok2 b c d ⟨h1, gv⟩

theorem set_self {α : Type} {l : List α} {i : Nat} {a : α} (h : l[i]? = some a) : l.set i a = l := by
  refine List.ext_getElem? fun j => ?_
  by_cases hj : i = j
  · subst hj
    rw [List.getElem?_set_self (List.getElem?_eq_some_iff.mp h).1, h]
  · rw [List.getElem?_set_ne hj]
theorem give : ∀ {gb : List (Option Nat)} {io : List T} {vs : List V} {ds : List D} {Γ : List T} {δ : List D} {F G : List Addr}, Ok K Γ σ δ H Z F → Env K H Z io (vs.map some) ds G → (F ++ G).Nodup → (∀ a ∈ G, ¬ Z a) → Gv gb vs σ →
    ∃ F', Ok K (giveT gb io Γ) σ (giveD gb ds δ) H Z F' ∧ ∀ a ∈ F', a ∈ F ++ G
  | [], io, vs, ds, Γ, δ, F, G, ok, _, _, _, _ => ⟨F, by simpa [giveT, giveD] using ok, fun a h => List.mem_append_left _ h⟩
  | some i :: gb, [], v :: vs, ds, Γ, δ, F, G, ok, r, _, _, _ => by cases r
  | none :: gb, [], v :: vs, ds, Γ, δ, F, G, ok, r, _, _, _ => by cases r
  | some i :: gb, t :: io, [], ds, Γ, δ, F, G, ok, r, _, _, gv => by cases gv
  | none :: gb, t :: io, [], ds, Γ, δ, F, G, ok, r, _, _, gv => by cases gv
  | some i :: gb, [], [], ds, Γ, δ, F, G, ok, r, _, _, gv => by cases gv
  | none :: gb, [], [], ds, Γ, δ, F, G, ok, r, _, _, gv => by cases gv
  | none :: gb, t :: io, v :: vs, d :: ds, Γ, δ, F, G, ok, r, nd, dz, gv => by
    have go : ∀ G', Env K H Z io (vs.map some) ds G' → (∀ a ∈ G', a ∈ G) → G'.Nodup → ∃ F', Ok K (giveT gb io Γ) σ (giveD gb ds δ) H Z F' ∧ ∀ a ∈ F', a ∈ F ++ G := fun G' r' sub nd' => by
      obtain ⟨F', o, s⟩ := give (gb := gb) ok r' (nd_of ok.nd nd' fun a h => nd_apart nd a (sub a h)) (fun a h => dz a (sub a h)) gv
      exact ⟨F', o, fun a h => (List.mem_append.mp (s a h)).elim (List.mem_append_left _) fun z => List.mem_append_right _ (sub a z)⟩
    have ndG := (List.nodup_append.mp nd).2.1
    cases r with
    | no r => exact go _ r (fun _ h => h) ndG
    | cons q r => exact go _ r (fun _ h => List.mem_append_right _ h) (List.nodup_append.mp ndG).2.1
  | some i :: gb, t :: io, v :: vs, d :: ds, Γ, δ, F, G, ok, r, nd, dz, gv => by
    obtain ⟨hv, gv⟩ := gv
    have ndG := (List.nodup_append.mp nd).2.1
    have hi : i < Γ.length := by
      have := (List.getElem?_eq_some_iff.mp hv).1
      rw [ok.env.len.1] at this
      exact this
    have go : ∀ g G', Rep K H Z t v d g → Env K H Z io (vs.map some) ds G' → g ++ G' = G → ∃ F', Ok K (giveT gb io (Γ.set i t)) σ (giveD gb ds (δ.set i d)) H Z F' ∧ ∀ a ∈ F', a ∈ F ++ G := fun g G' q r' eG => by
      subst eG
      have nd' : (F ++ g ++ G').Nodup := by rw [List.append_assoc]; exact nd
      obtain ⟨F1, o1, s1⟩ := ok.set hi q (List.nodup_append.mp nd').1 fun a h => dz a (List.mem_append_left _ h)
      rw [set_self hv] at o1
      obtain ⟨F', o, s⟩ := give (gb := gb) o1 r' (nd_of o1.nd (List.nodup_append.mp nd').2.1 fun a h z => nd_apart nd' a h (s1 a z)) (fun a h => dz a (List.mem_append_right _ h)) gv
      refine ⟨F', o, fun a h => ?_⟩
      rcases List.mem_append.mp (s a h) with z | z
      · have := s1 a z
        simp only [List.mem_append] at this ⊢
        rcases this with y | y <;> simp [y]
      · simp [z]
    cases r with
    | no r => exact go [] _ .no r rfl
    | cons q r => exact go _ _ q r rfl
  | some i :: gb, t :: io, v :: vs, [], Γ, δ, F, G, ok, r, nd, dz, gv => by cases r
  | none :: gb, t :: io, v :: vs, [], Γ, δ, F, G, ok, r, nd, dz, gv => by cases r
/-- f(e, ..), lists of slots handed over and back -/
theorem mCall {k : Nat} {f : Addr} {fd : FuncData} {ps : List Str} {S : FS} {x : Str} {p pos : Pos} {e : Expr} {es : List Expr} {gb : List (Option Nat)} {fa : LM} (Fn : FnOk X.prog X.w X.K X.mg X.base CX0 k f fd ps (spF X.K S)) (hr : Room k X.A) (hg : Gl X x) (hm : X.mg x = some (.ref f)) (hk : PySem.W.keepIn X.K (.ref f) = true)
    (hb : Binds X.K fd ps []) (ha : PA X (e :: es) (aM X.K Γ Γ' S.ps gb fa)) (hdb : (x == ("__debug__" : Str)) = false := by decide)
    (he : starEach (e :: es) X.env = (false, eval e X.env) :: starEach es X.env := by rfl) (hpl : (backTo pos (starEach es X.env)).any (·.1) = false := by rfl) :
    PE X (.Call (.Name x p) (e :: es) [] pos) (tM X.K Γ (giveT gb S.io Γ') S.t (xCallM gb S.f fa)) := (pe_call Fn hr hg hm hk hb .nil pass0 ha hdb he hpl).imp fun σ H Q ⟨δ, Z, F, d, δ', ok, e, k⟩ => by
  obtain ⟨⟨ds, δ1⟩, e1, e2⟩ := Option.bind_eq_some_iff.mp e
  obtain ⟨⟨d', ds'⟩, e3, e4⟩ := Option.map_eq_some_iff.mp e2
  cases e4
  refine ⟨δ, Z, F, ds, δ1, ok, e1, fun vs H1 Z1 F1 g s1 ok1 r1 nd1 dz1 gv => ?_⟩
  refine ⟨ds, Z1, g, d', ds', ⟨by rw [List.append_nil]; exact r1, (List.nodup_append.mp nd1).2.1, dz1, ok1.zs⟩, e3, fun v H' Z' F2 g2 s2 o2 r2 nd2 dz2 => ?_⟩
  rw [List.append_nil] at o2
  have ap1 : ∀ a ∈ F1, a ∉ g := fun a ha hb => nd_apart nd1 a hb ha
  have okF : Ok X.K Γ' σ δ1 H' Z' F1 := ⟨ok1.env.step s2 r1.mu dz1 ap1, ok1.nd, s2.dzs ok1.mu ok1.dz ap1, fun a h => o2.zs a h⟩
  have ap := s2.apart ok1.mu ap1
  obtain ⟨F3, o3, sb⟩ := give okF o2.env (nd_of ok1.nd o2.nd fun a h z => ap a z (List.mem_append_left _ h)) o2.dz gv
  refine k v H' Z' F3 g2 ?_ o3 r2 (nd_of o3.nd (List.nodup_append.mp nd2).2.1 fun a h z => ?_) dz2
  · have s3 : Stp H1 Z1 (F1 ++ g) H' Z' ((F2 ++ g2) ++ F1) := (s2.frame (g := F1)).wide fun a h => by simp only [List.mem_append] at h ⊢; exact h.symm
    refine s1.trans (s3.sub fun a h => ?_)
    rcases List.mem_append.mp h with h | h
    · have := sb a h
      simp only [List.mem_append] at this ⊢
      rcases this with y | y <;> simp [y]
    · simp [h]
  · rcases List.mem_append.mp (sb a z) with y | y
    · exact ap a y (List.mem_append_right _ h)
    · exact nd_apart nd2 a h y
end
end Pv

set_option Elab.async false
set_option linter.all false
set_option maxRecDepth 100000
/-! Pv6: lists changed in their slots: append, pop, insert, x[i] = v, x[i].append(v). -/
namespace Pv
open PySem PySem.Spec PyProof.Rows L2
section
variable {K : PySem.W.Frag} {X : Cx} {Γ Γ' Γ1 Γ2 : List T} {H H' H1 H2 : Hp} {Z Z' Z1 Z2 : FzT} {F F' F1 F2 : List Addr} {σ σ' σ1 : L2.St} {δ δ' : List D} {E : TyE} {en eb ec er : List T} {et : T} {W W' : Ends}
theorem RepA.app : ∀ {t : T} {xs ys : List V} {ds es : List D} {f g : List Addr}, RepA K H Z t xs ds f → RepA K H Z t ys es g → RepA K H Z t (xs ++ ys) (ds ++ es) (f ++ g)
  | _, _, _, _, _, _, _, .nil, r => r
  | _, _, _, _, _, _, _, .cons h r, r' => by
    have := RepA.cons h (RepA.app r r')
    simpa [List.append_assoc] using this
theorem RepA.split : ∀ {t : T} {xs : List V} {ds es : List D} {f : List Addr}, RepA K H Z t xs (ds ++ es) f → ∃ xs1 xs2 f1 f2, xs = xs1 ++ xs2 ∧ f = f1 ++ f2 ∧ RepA K H Z t xs1 ds f1 ∧ RepA K H Z t xs2 es f2
  | t, xs, [], es, f, r => ⟨[], xs, [], f, rfl, rfl, .nil, r⟩
  | t, _, d :: ds, es, _, .cons (v := v) (f := f) h r => by
    obtain ⟨xs1, xs2, f1, f2, rfl, rfl, r1, r2⟩ := RepA.split r
    exact ⟨v :: xs1, xs2, f ++ f1, f2, rfl, by simp [List.append_assoc], .cons h r1, r2⟩
theorem RepA.one {t : T} {v : V} {d : D} {g : List Addr} (h : Rep K H Z t v d g) : RepA K H Z t [v] [d] g := by simpa using RepA.cons h RepA.nil
theorem RepA.uncons {t : T} {xs : List V} {d : D} {ds : List D} {f : List Addr} (r : RepA K H Z t xs (d :: ds) f) : ∃ v vs g h, xs = v :: vs ∧ f = g ++ h ∧ Rep K H Z t v d g ∧ RepA K H Z t vs ds h := by
  cases r with
  | cons h r => exact ⟨_, _, _, _, rfl, rfl, h, r⟩
theorem RepA.unone {t : T} {xs : List V} {d : D} {f : List Addr} (r : RepA K H Z t xs [d] f) : ∃ v, xs = [v] ∧ Rep K H Z t v d f := by
  obtain ⟨v, vs, g, h, rfl, rfl, r1, r2⟩ := r.uncons
  cases r2
  exact ⟨v, rfl, by simpa using r1⟩
theorem Stp.upd {a : Addr} {o : HO} (h : a ∈ F) : Stp H Z F (L2.upd H a o) Z F :=
  ⟨fun x u q n => by rw [upd_ne (fun z => n (by rw [z]; exact h))]; exact q, fun _ q => q, fun _ q => .inl q, fun _ q => .inl q, fun _ q => upd_live q, fun _ q => .inl q⟩
/-- a slot's list opened -/
theorem Ok.opn {i : Nat} {t : T} {ds : List D} (o : Ok K Γ σ δ H Z F) (ht : Γ[i]? = some (.ol t)) (e : δ[i]? = some (.list ds)) :
    ∃ a xs f F1, σ[i]? = some (some (.ref a)) ∧ H a = some (.lst xs) ∧ RepA K H Z t xs ds f ∧ Ok K (Γ.set i .no) σ δ H Z F1 ∧ (F1 ++ (a :: f)).Nodup ∧ ∀ x ∈ F1 ++ (a :: f), x ∈ F := by
  obtain ⟨v, F1, g, h1, h2, h3, h4, h5⟩ := o.take ht (fun z => nomatch z) e
  cases h2 with
  | ol ha r => exact ⟨_, _, _, F1, h1, ha, r, h3, h4, h5⟩
/-- .. and closed, other items in it -/
theorem Ok.put {i : Nat} {t : T} {a : Addr} {xs xs' : List V} {ds' : List D} {f' : List Addr} (o1 : Ok K (Γ.set i .no) σ δ H Z F1) (hi : Γ[i]? = some (.ol t)) (hv : σ[i]? = some (some (.ref a))) (ha : H a = some (.lst xs))
    (nd : (F1 ++ (a :: f')).Nodup) (dz : ∀ x ∈ a :: f', ¬ Z x) (r : RepA K (upd H a (.lst xs')) Z t xs' ds' f') : ∃ F', Ok K Γ σ (δ.set i (.list ds')) (upd H a (.lst xs')) Z F' ∧ ∀ x ∈ F', x ∈ F1 ++ (a :: f') := by
  have s : Stp H Z [a] (upd H a (.lst xs')) Z [a] := Stp.upd (by simp)
  have m : Mu H [a] := Mu.one ha
  have dza : ∀ x ∈ [a], ¬ Z x := fun x hx => dz x (by simp only [List.mem_singleton] at hx; rw [hx]; exact List.mem_cons_self)
  have nf1 : ∀ x ∈ F1, x ∉ [a] := fun x hx hz => nd_apart nd x (by simp only [List.mem_singleton] at hz; rw [hz]; exact List.mem_cons_self) hx
  have o2 : Ok K (Γ.set i .no) σ δ (upd H a (.lst xs')) Z F1 := ⟨o1.env.step s m dza nf1, o1.nd, o1.dz, fun x hx => upd_live (o1.zs x hx)⟩
  have rr : Rep K (upd H a (.lst xs')) Z (.ol t) (.ref a) (.list ds') (a :: f') := .ol upd_same r
  have hl : i < (Γ.set i .no).length := by rw [List.length_set]; exact (List.getElem?_eq_some_iff.mp hi).1
  obtain ⟨F', o3, sb⟩ := o2.set hl rr nd dz
  rw [set_self hv, List.set_set, set_self hi] at o3
  exact ⟨F', o3, sb⟩
theorem ofList {v : V} {d : D} {t : T} {g : List Addr} (r : Rep K H Z (.ol t) v d g) : ∃ a xs ds f, v = .ref a ∧ d = .list ds ∧ g = a :: f ∧ H a = some (.lst xs) ∧ RepA K H Z t xs ds f := by
  cases r with
  | ol h r => exact ⟨_, _, _, _, rfl, rfl, rfl, h, r⟩
theorem recv {i : Nat} {t : T} (o : Ok K Γ σ δ H Z F) (ht : Γ[i]? = some (.ol t)) : ∃ a xs, σ[i]? = some (some (.ref a)) ∧ H a = some (.lst xs) := by
  have hi : i < Γ.length := (List.getElem?_eq_some_iff.mp ht).1
  obtain ⟨d, hd⟩ : ∃ d, δ[i]? = some d := ⟨δ[i]'(by rw [o.env.len.2]; exact hi), by simp [o.env.len.2, hi]⟩
  obtain ⟨v, g, h1, h2, _⟩ := o.env.get ht (fun z => nomatch z) hd
  obtain ⟨a, xs, ds, f, rfl, rfl, rfl, h, r⟩ := ofList h2
  exact ⟨a, xs, h1, h⟩
theorem nd_set {A B C : List Addr} (h : (A ++ C).Nodup) (h2 : B.Nodup) (s : ∀ x ∈ B, x ∈ A) : (B ++ C).Nodup := nd_of h2 (List.nodup_append.mp h).2.1 fun x hx hb => nd_apart h x hx (s x hb)

def getL (δ : List D) (i : Nat) : Option (List D) := match δ[i]? with | some (.list ds) => some ds | _ => none
theorem getL_eq {i : Nat} {ds : List D} (h : getL δ i = some ds) : δ[i]? = some (.list ds) := by
  unfold getL at h
  split at h
  · cases h; assumption
  · cases h
/-- x.append(e) -/
def xApp (i : Nat) (f : EM) : EM := fun δ => (f δ).bind fun p => (getL p.2 i).bind fun ds => if ds.length < sizeLine then some (.none, p.2.set i (.list (ds ++ [p.1]))) else none
theorem mApp (i : Nat) {t : T} {c : Expr} {f : EM} (h : PE X c (tBM X.K "list" rAppend (tVar i) (tCons (tM X.K Γ Γ' t f) tNil))) (ht : Γ[i]? = some (.ol t)) (ht' : Γ'[i]? = some (.ol t)) : PE X c (tM X.K Γ Γ' .sh (xApp i f)) :=
  h.imp fun σ H Q ⟨δ, Z, F, d, δ', ok, e, k⟩ => by
  obtain ⟨⟨y, δ1⟩, e1, e2⟩ := Option.bind_eq_some_iff.mp e
  obtain ⟨ds, e3, e4⟩ := Option.bind_eq_some_iff.mp e2
  split at e4
  · rename_i hlt
    cases e4
    obtain ⟨a0, xs0, hv, hH⟩ := recv ok ht
    refine ⟨.ref a0, hv, .inl ⟨rfl, xs0, SqL.of hH⟩, δ, Z, F, y, δ1, ok, e1, fun v H1 Z1 F1 g1 s1 ok1 r1 nd1 dz1 => ?_⟩
    obtain ⟨a, xs, fs, F2, hv', ha, ra, o2, nd2, sb2⟩ := ok1.opn ht' (getL_eq e3)
    rw [hv] at hv'
    have ea : a0 = a := by simpa using hv'
    subst ea
    have nd3 : (F2 ++ (a0 :: fs) ++ g1).Nodup := nd_set nd1 nd2 sb2
    have nd4 : (F2 ++ (a0 :: (fs ++ g1))).Nodup := by simpa [List.append_assoc] using nd3
    have dz4 : ∀ x ∈ a0 :: (fs ++ g1), ¬ Z1 x := fun x hx => by
      rcases List.mem_cons.mp hx with h | h
      · exact ok1.dz x (sb2 x (by simp [h]))
      · rcases List.mem_append.mp h with h | h
        · exact ok1.dz x (sb2 x (by simp [h]))
        · exact dz1 x h
    have su : Stp H1 Z1 [a0] (upd H1 a0 (.lst (xs ++ [v]))) Z1 [a0] := Stp.upd (by simp)
    have mu : Mu H1 [a0] := Mu.one ha
    have dza : ∀ x ∈ [a0], ¬ Z1 x := fun x hx => dz4 x (by simp only [List.mem_singleton] at hx; simp [hx])
    have nda : a0 ∉ fs ++ g1 := (List.nodup_cons.mp (List.nodup_append.mp nd4).2.1).1
    have rN : RepA X.K (upd H1 a0 (.lst (xs ++ [v]))) Z1 t (xs ++ [v]) (ds ++ [y]) (fs ++ g1) :=
      (ra.app (RepA.one r1)).step su mu dza fun x hx hz => nda (by simp only [List.mem_singleton] at hz; rw [hz] at hx; exact hx)
    obtain ⟨F3, o3, sb3⟩ := o2.put ht' hv ha nd4 dz4 rN
    have hlen : xs.length < sizeLine := by rw [Rep.len ra]; exact hlt
    refine ⟨a0, xs, v, rfl, rfl, ha, hlen, k .non _ Z1 F3 [] ?_ o3 (.sh .non) (by simpa using o3.nd) (fun _ q => nomatch q)⟩
    have h1 : a0 ∈ F1 ++ g1 := List.mem_append_left _ (sb2 a0 (by simp))
    refine (s1.trans (Stp.upd h1)).sub fun x hx => ?_
    have := sb3 x (by simpa using hx)
    rcases List.mem_append.mp this with h | h
    · exact List.mem_append_left _ (sb2 x (List.mem_append_left _ h))
    · rcases List.mem_cons.mp h with h | h
      · exact List.mem_append_left _ (sb2 x (by simp [h]))
      · rcases List.mem_append.mp h with h | h
        · exact List.mem_append_left _ (sb2 x (by simp [h]))
        · exact List.mem_append_right _ h
  · cases e4
theorem last_split {ds : List D} {d : D} (h : ds.getLast? = some d) : ds = ds.dropLast ++ [d] := by
  obtain ⟨l, e⟩ := List.getLast?_eq_some_iff.mp h
  rw [e, List.dropLast_concat]
/-- an item is taken out of a slot's list -/
theorem out_ok {i : Nat} {t : T} {a : Addr} {xs xs1 xs2 : List V} {v : V} {ds1 ds2 : List D} {d : D} {f1 g f2 : List Addr} (o2 : Ok K (Γ.set i .no) σ δ H Z F2) (hi : Γ[i]? = some (.ol t)) (hv : σ[i]? = some (some (.ref a))) (ha : H a = some (.lst xs))
    (nd : (F2 ++ (a :: (f1 ++ g ++ f2))).Nodup) (dz : ∀ x ∈ a :: (f1 ++ g ++ f2), ¬ Z x) (r1 : RepA K H Z t xs1 ds1 f1) (rv : Rep K H Z t v d g) (r2 : RepA K H Z t xs2 ds2 f2) :
    ∃ F', Ok K Γ σ (δ.set i (.list (ds1 ++ ds2))) (upd H a (.lst (xs1 ++ xs2))) Z F' ∧ (∀ x ∈ F', x ∈ F2 ++ (a :: (f1 ++ f2))) ∧ Rep K (upd H a (.lst (xs1 ++ xs2))) Z t v d g ∧ (F' ++ g).Nodup ∧ (∀ x ∈ g, ¬ Z x) := by
  have nd' : ((F2 ++ (a :: (f1 ++ f2))) ++ g).Nodup := by
    refine List.Perm.nodup ?_ nd
    simp only [List.append_assoc, List.cons_append]
    exact (List.Perm.cons a ((List.perm_append_comm).append_left f1)).append_left F2
  have su : Stp H Z [a] (upd H a (.lst (xs1 ++ xs2))) Z [a] := Stp.upd (by simp)
  have mu : Mu H [a] := Mu.one ha
  have dza : ∀ x ∈ [a], ¬ Z x := fun x hx => dz x (by simp only [List.mem_singleton] at hx; simp [hx])
  have nda : a ∉ f1 ++ g ++ f2 := (List.nodup_cons.mp (List.nodup_append.mp nd).2.1).1
  have rN : RepA K (upd H a (.lst (xs1 ++ xs2))) Z t (xs1 ++ xs2) (ds1 ++ ds2) (f1 ++ f2) :=
    (r1.app r2).step su mu dza fun x hx hz => nda (by simp only [List.mem_singleton] at hz; rw [hz] at hx; simp only [List.mem_append] at hx ⊢; rcases hx with h | h <;> simp [h])
  obtain ⟨F3, o3, sb3⟩ := o2.put hi hv ha (List.nodup_append.mp nd').1 (fun x hx => dz x (by simp only [List.mem_cons, List.mem_append] at hx ⊢; rcases hx with h | h | h <;> simp [h])) rN
  exact ⟨F3, o3, sb3, rv.step su mu dza fun x hx hz => nda (by simp only [List.mem_singleton] at hz; rw [hz] at hx; simp [hx]), nd_set nd' o3.nd sb3, fun x hx => dz x (by simp [hx])⟩
/-- x.pop() -/
def xPop (i : Nat) : EM := fun δ => (getL δ i).bind fun ds => ds.getLast?.map fun d => (d, δ.set i (.list ds.dropLast))
theorem mPop (i : Nat) {t : T} {c : Expr} (h : PE X c (tBM0 X.K "list" rPop (tVar i))) (ht : Γ[i]? = some (.ol t)) : PE X c (tM X.K Γ Γ t (xPop i)) :=
  h.imp fun σ H Q ⟨δ, Z, F, d, δ', ok, e, k⟩ => by
  obtain ⟨ds, e1, e2⟩ := Option.bind_eq_some_iff.mp e
  obtain ⟨d', e3, e4⟩ := Option.map_eq_some_iff.mp e2
  cases e4
  obtain ⟨a, xs, fs, F2, hv, ha, ra, o2, nd2, sb2⟩ := ok.opn ht (getL_eq e1)
  rw [last_split e3] at ra
  obtain ⟨xs1, xs2, f1, f2, rfl, rfl, r1, r2⟩ := ra.split
  obtain ⟨v, rfl, rv⟩ := r2.unone
  obtain ⟨F3, o3, sb3, rv', nd3, dz3⟩ := out_ok (xs2 := []) (ds2 := []) (f2 := []) o2 ht hv ha (by simpa using nd2) (fun x hx => ok.dz x (sb2 x (List.mem_append_right _ (by simpa using hx)))) r1 rv .nil
  simp only [List.append_nil] at o3 rv' sb3
  refine ⟨.ref a, hv, .inl ⟨rfl, _, SqL.of ha⟩, a, xs1 ++ [v], v, rfl, rfl, ha, by simp, ?_⟩
  rw [List.dropLast_concat]
  refine k v _ Z F3 f2 ?_ o3 rv' nd3 dz3
  refine (Stp.upd (sb2 a (by simp))).sub fun x hx => ?_
  rcases List.mem_append.mp hx with h | h
  · have := sb3 x h
    exact sb2 x (by simp only [List.mem_append, List.mem_cons] at this ⊢; rcases this with y | y | y <;> simp [y])
  · exact sb2 x (by simp [h])
theorem nth_split {α : Type} {l : List α} {n : Nat} {a : α} (h : l[n]? = some a) : l = l.take n ++ a :: l.drop (n + 1) := by
  obtain ⟨hn, e⟩ := List.getElem?_eq_some_iff.mp h
  rw [← e, List.getElem_cons_drop, List.take_append_drop]
theorem RepA.at {t : T} {xs : List V} {ds : List D} {f : List Addr} {n : Nat} {d : D} (r : RepA K H Z t xs ds f) (h : ds[n]? = some d) :
    ∃ v f1 g f2, xs[n]? = some v ∧ f = f1 ++ g ++ f2 ∧ RepA K H Z t (xs.take n) (ds.take n) f1 ∧ Rep K H Z t v d g ∧ RepA K H Z t (xs.drop (n + 1)) (ds.drop (n + 1)) f2 := by
  have hn : n < ds.length := (List.getElem?_eq_some_iff.mp h).1
  rw [nth_split h] at r
  obtain ⟨xs1, xs2, f1, f2, rfl, rfl, r1, r2⟩ := r.split
  obtain ⟨v, vs, g, h', rfl, rfl, rv, r3⟩ := r2.uncons
  have l1 : xs1.length = n := by rw [Rep.len r1, List.length_take]; omega
  refine ⟨v, f1, g, h', ?_, by simp [List.append_assoc], ?_, rv, ?_⟩
  · rw [List.getElem?_append_right (by omega), l1]; simp
  · rw [← l1, List.take_left]; rw [l1]; exact r1
  · rw [show (xs1 ++ v :: vs).drop (n + 1) = vs by rw [← l1]; simp]; exact r3
theorem Sh.intOf {v : V} {i : Int} (h : Sh K H Z v (.int i)) : v = .int i := by cases h; rfl
/-- x.pop(e) -/
def xPopAt (i : Nat) (f : EM) : EM := fun δ => (f δ).bind fun p => match p.1 with
  | .int j => (getL p.2 i).bind fun ds => if -(2 ^ 63) ≤ j ∧ j < 2 ^ 63 then (ixN ds.length j).bind fun n => (ds[n]?).map fun d => (d, p.2.set i (.list (ds.eraseIdx n))) else none
  | _ => none
theorem erase_eq {α : Type} (l : List α) (n : Nat) : l.eraseIdx n = l.take n ++ l.drop (n + 1) := by rw [List.eraseIdx_eq_take_drop_succ]
theorem mPopAt (i : Nat) {t : T} {c : Expr} {f : EM} (h : PE X c (tBM X.K "list" rPopAt (tVar i) (tCons (tM X.K Γ Γ' .sh f) tNil))) (ht : Γ[i]? = some (.ol t)) (ht' : Γ'[i]? = some (.ol t)) : PE X c (tM X.K Γ Γ' t (xPopAt i f)) :=
  h.imp fun σ H Q ⟨δ, Z, F, d, δ', ok, e, k⟩ => by
  obtain ⟨⟨y, δ1⟩, e1, e2⟩ := Option.bind_eq_some_iff.mp e
  cases y with
  | int j =>
    obtain ⟨ds, e3, e4⟩ := Option.bind_eq_some_iff.mp e2
    split at e4
    · rename_i hj
      obtain ⟨n, en, e5⟩ := Option.bind_eq_some_iff.mp e4
      obtain ⟨d', ed, e6⟩ := Option.map_eq_some_iff.mp e5
      cases e6
      obtain ⟨a0, xs0, hv, hH⟩ := recv ok ht
      refine ⟨.ref a0, hv, .inl ⟨rfl, xs0, SqL.of hH⟩, δ, Z, F, .int j, δ1, ok, e1, fun v H1 Z1 F1 g1 s1 ok1 r1 nd1 dz1 => ?_⟩
      obtain ⟨rs, rfl⟩ := r1.shOf
      have ev := rs.intOf
      subst ev
      obtain ⟨a, xs, fs, F2, hv', ha, ra, o2, nd2, sb2⟩ := ok1.opn ht' (getL_eq e3)
      rw [hv] at hv'
      have ea : a0 = a := by simpa using hv'
      subst ea
      have hl := Rep.len ra
      obtain ⟨w, f1, g, f2, hw, rfl, q1, qv, q2⟩ := ra.at ed
      obtain ⟨F3, o3, sb3, rv', nd3, dz3⟩ := out_ok o2 ht' hv ha nd2 (fun x hx => ok1.dz x (sb2 x (List.mem_append_right _ hx))) q1 qv q2
      rw [← erase_eq, ← erase_eq] at o3
      rw [← erase_eq] at rv'
      refine ⟨a0, xs, j, n, w, rfl, rfl, ha, hj.1, hj.2, by rw [hl]; exact (ixN_seq en).1, hw, k w _ Z1 F3 g ?_ o3 rv' nd3 dz3⟩
      have h1 : a0 ∈ F1 ++ [] := List.mem_append_left _ (sb2 a0 (by simp))
      refine (s1.trans (Stp.upd h1)).sub fun x hx => List.mem_append_left _ ?_
      rcases List.mem_append.mp hx with h | h
      · have := sb3 x h
        exact sb2 x (by simp only [List.mem_append, List.mem_cons] at this ⊢; rcases this with y | y | y | y <;> simp [y])
      · exact sb2 x (by simp [h])
    · cases e4
  | _ => cases e2
end
end Pv

set_option Elab.async false
set_option linter.all false
set_option maxRecDepth 100000
/-! Pv7: insert, x[j] = v, x[j].append(v); tuples and operators with parts that change something. -/
namespace Pv
open PySem PySem.Spec PyProof.Rows L2
section
variable {K : PySem.W.Frag} {X : Cx} {Γ Γ' Γ1 Γ2 : List T} {H H' H1 H2 : Hp} {Z Z' Z1 Z2 : FzT} {F F' F1 F2 : List Addr} {σ σ' σ1 : L2.St} {δ δ' : List D} {E : TyE} {en eb ec er : List T} {et : T} {W W' : Ends}
/-- the slot's list of shared items takes other shared items -/
theorem Ok.swap {i : Nat} {ds ds' : List D} {xs' : List V} {a : Addr} (ok : Ok K Γ σ δ H Z F) (ht : Γ[i]? = some (.ol .sh)) (e : δ[i]? = some (.list ds)) (hv : σ[i]? = some (some (.ref a))) (r : ShA K H Z xs' ds') :
    ∃ F', Ok K Γ σ (δ.set i (.list ds')) (upd H a (.lst xs')) Z F' ∧ a ∈ F ∧ ∀ x ∈ F', x ∈ F := by
  obtain ⟨a', xs, f, F1, hv', ha, ra, o2, nd2, sb2⟩ := ok.opn ht e
  rw [hv] at hv'
  have ea : a = a' := by simpa using hv'
  subst ea
  obtain ⟨_, rfl⟩ := ra.shA
  have mu : Mu H [a] := Mu.one ha
  have ma : a ∈ F := sb2 a (by simp)
  obtain ⟨F3, o3, sb3⟩ := o2.put ht hv ha nd2 (fun x hx => ok.dz x (sb2 x (List.mem_append_right _ hx))) ((r.step (Stp.upd (F := [a]) (by simp)) mu (fun x hx => by simp only [List.mem_singleton] at hx; rw [hx]; exact ok.dz a ma)).repA)
  exact ⟨F3, o3, ma, fun x hx => sb2 x (sb3 x hx)⟩
def rIns : V → List V → Hp → VK → Prop := fun x vs H Q => ∃ (l : Addr) (xs : List V) (i : Int) (y : V), x = .ref l ∧ vs = [.int i, y] ∧ H l = some (.lst xs) ∧ xs.length < sizeLine ∧ 0 ≤ i ∧ i < 2 ^ 63 ∧
    Q .non (upd H l (.lst (xs.take i.toNat ++ [y] ++ xs.drop i.toNat)))
theorem mt_ins : MtR X "list.insert" rIns := mt_insert
theorem ShA.take : ∀ {xs : List V} {ds : List D} (n : Nat), ShA K H Z xs ds → ShA K H Z (xs.take n) (ds.take n)
  | _, _, 0, _ => by simpa using ShA.nil
  | _, _, n + 1, .nil => .nil
  | _, _, n + 1, .cons h r => .cons h (ShA.take n r)
theorem ShA.drop : ∀ {xs : List V} {ds : List D} (n : Nat), ShA K H Z xs ds → ShA K H Z (xs.drop n) (ds.drop n)
  | _, _, 0, r => r
  | _, _, n + 1, .nil => .nil
  | _, _, n + 1, .cons h r => ShA.drop n r
theorem ShA.app : ∀ {xs ys : List V} {ds es : List D}, ShA K H Z xs ds → ShA K H Z ys es → ShA K H Z (xs ++ ys) (ds ++ es)
  | _, _, _, _, .nil, r => r
  | _, _, _, _, .cons h r, r' => .cons h (ShA.app r r')
theorem ShA.set : ∀ {xs : List V} {ds : List D} {v : V} {d : D} (n : Nat), ShA K H Z xs ds → Sh K H Z v d → ShA K H Z (xs.set n v) (ds.set n d)
  | _, _, _, _, _, .nil, _ => .nil
  | _, _, _, _, 0, .cons _ r, h => .cons h r
  | _, _, _, _, n + 1, .cons h' r, h => .cons h' (ShA.set n r h)
theorem ShA.get : ∀ {xs : List V} {ds : List D} {n : Nat} {d : D}, ShA K H Z xs ds → ds[n]? = some d → ∃ v, xs[n]? = some v ∧ Sh K H Z v d
  | _, _, _, _, .nil, h => by simp at h
  | _, _, 0, _, .cons h' r, h => by simp at h; subst h; exact ⟨_, rfl, h'⟩
  | _, _, n + 1, _, .cons h' r, h => by
    obtain ⟨v, h1, h2⟩ := ShA.get (n := n) r (by simpa using h)
    exact ⟨v, by simpa using h1, h2⟩
def xIns (i : Nat) (f : EM) (g : EF) : EM := fun δ => (f δ).bind fun p => (g p.2).bind fun y => match p.1 with
  | .int j => (getL p.2 i).bind fun ds => if ds.length < sizeLine ∧ 0 ≤ j ∧ j < 2 ^ 63 then some (.none, p.2.set i (.list (ds.take j.toNat ++ [y] ++ ds.drop j.toNat))) else none
  | _ => none
theorem slotL {i : Nat} {ds : List D} {t : T} (ok : Ok K Γ σ δ H Z F) (ht : Γ[i]? = some (.ol t)) (e : δ[i]? = some (.list ds)) : ∃ a xs f, σ[i]? = some (some (.ref a)) ∧ H a = some (.lst xs) ∧ RepA K H Z t xs ds f := by
  obtain ⟨a, xs, f, F1, hv', ha, ra, _⟩ := ok.opn ht e
  exact ⟨a, xs, f, hv', ha, ra⟩
theorem mIns (i : Nat) {c : Expr} {f : EM} {g : EF} (h : PE X c (tBM X.K "list" rIns (tVar i) (tCons (tM X.K Γ Γ' .sh f) (tCons (tP X.K Γ' .sh g) tNil)))) (ht : Γ[i]? = some (.ol .sh)) (ht' : Γ'[i]? = some (.ol .sh)) : PE X c (tM X.K Γ Γ' .sh (xIns i f g)) :=
  h.imp fun σ H Q ⟨δ, Z, F, d, δ', ok, e, k⟩ => by
  obtain ⟨⟨jd, δ1⟩, e1, e2⟩ := Option.bind_eq_some_iff.mp e
  obtain ⟨y, e3, e4⟩ := Option.bind_eq_some_iff.mp e2
  cases jd with
  | int j =>
    obtain ⟨ds, e5, e6⟩ := Option.bind_eq_some_iff.mp e4
    split at e6
    · rename_i hj
      cases e6
      obtain ⟨a0, xs0, hv, hH⟩ := recv ok ht
      refine ⟨.ref a0, hv, .inl ⟨rfl, xs0, SqL.of hH⟩, δ, Z, F, .int j, δ1, ok, e1, fun v H1 Z1 F1 g1 s1 ok1 r1 nd1 dz1 => ?_⟩
      obtain ⟨rs, rfl⟩ := r1.shOf
      have ev := rs.intOf
      subst ev
      refine ⟨δ1, Z1, F1, y, ok1, e3, fun w H2 Z2 g2 s2 r2 => ?_⟩
      have rw' := r2.shOf.1
      have ok2 := ok1.ext s2
      obtain ⟨a, xs, fs, hv', ha, ra⟩ := slotL ok2 ht' (getL_eq e5)
      rw [hv] at hv'
      have ea : a0 = a := by simpa using hv'
      subst ea
      obtain ⟨sa, _⟩ := ra.shA
      obtain ⟨F3, o3, ma, sb3⟩ := ok2.swap ht' (getL_eq e5) hv (((sa.take j.toNat).app (.cons rw' .nil)).app (sa.drop j.toNat))
      refine ⟨a0, xs, j, w, rfl, rfl, ha, by rw [sa.len]; exact hj.1, hj.2.1, hj.2.2, k .non _ Z2 F3 [] ?_ o3 (.sh .non) (by simpa using o3.nd) (fun _ q => nomatch q)⟩
      have s1' : Stp H Z F H1 Z1 F1 := by simpa using s1
      exact ((s1'.trans s2.stp).trans (Stp.upd ma)).sub fun x hx => sb3 x (by simpa using hx)
    · cases e6
  | _ => cases e4
/-- x[j] = v -/
def sSetIx (i : Nat) (f : EM) (g : EF) : SF := fun δ => (f δ).bind fun p => (g p.2).bind fun j => match j with
  | .int j => (getL p.2 i).bind fun ds => (ixN ds.length j).bind fun n => some (.nx (p.2.set i (.list (ds.set n p.1))))
  | _ => none
theorem zSetIx (i : Nat) {st : Stmt} {f : EM} {g : EF} (h : PS X st (tAsg (tM X.K Γ Γ' .sh f) (gSub (tVar i) (tP X.K Γ' .sh g) rSetL))) (ht' : Γ'[i]? = some (.ol .sh)) : PS X st (tS X.K Γ ⟨Γ', eb, ec, er, et⟩ (sSetIx i f g)) :=
  h.imp fun W σ H ⟨δ, Z, F, out, ok, e, p⟩ => by
  obtain ⟨⟨y, δ1⟩, e1, e2⟩ := Option.bind_eq_some_iff.mp e
  obtain ⟨jd, e3, e4⟩ := Option.bind_eq_some_iff.mp e2
  cases jd with
  | int j =>
    obtain ⟨ds, e5, e6⟩ := Option.bind_eq_some_iff.mp e4
    obtain ⟨n, e7, e8⟩ := Option.bind_eq_some_iff.mp e6
    cases e8
    refine ⟨δ, Z, F, y, δ1, ok, e1, fun v H1 Z1 F1 g1 s1 ok1 r1 nd1 dz1 => ?_⟩
    obtain ⟨rs, rfl⟩ := r1.shOf
    obtain ⟨a0, xs0, hv, hH⟩ := recv ok1 ht'
    refine ⟨.ref a0, hv, δ1, Z1, F1, .int j, ok1, e3, fun w H2 Z2 g2 s2 r2 => ?_⟩
    have ew := r2.shOf.1.intOf
    subst ew
    have ok2 := ok1.ext s2
    obtain ⟨a, xs, fs, hv', ha, ra⟩ := slotL ok2 ht' (getL_eq e5)
    rw [hv] at hv'
    have ea : a0 = a := by simpa using hv'
    subst ea
    obtain ⟨sa, _⟩ := ra.shA
    obtain ⟨F3, o3, ma, sb3⟩ := ok2.swap ht' (getL_eq e5) hv (sa.set n (rs.ext s2))
    refine ⟨a0, xs, j, n, rfl, rfl, ha, by rw [sa.len]; exact e7, p σ _ Z2 F3 ?_ o3 (.refl _ _)⟩
    have s1' : Stp H Z F H1 Z1 F1 := by simpa using s1
    exact ((s1'.trans s2.stp).trans (Stp.upd ma)).sub sb3
  | _ => cases e4
/-- x[j].append(e), all else at rest -/
def xNApp (i : Nat) (g f : EF) : EM := fun δ => (g δ).bind fun j => (f δ).bind fun y => match j with
  | .int j => (getL δ i).bind fun ds => (ixN ds.length j).bind fun n => match ds[n]? with
    | some (.list es) => if es.length < sizeLine then some (.none, δ.set i (.list (ds.set n (.list (es ++ [y]))))) else none
    | _ => none
  | _ => none
theorem set_split {α : Type} {l : List α} {n : Nat} {a : α} (h : n < l.length) : l.set n a = l.take n ++ a :: l.drop (n + 1) := by rw [List.set_eq_take_append_cons_drop, if_pos h]
theorem mNApp (i : Nat) {c : Expr} {f g : EF} (h : PE X c (tBM X.K "list" rAppend (tOp (rIxL X.K) (tVar i) (tP X.K Γ .sh g)) (tCons (tP X.K Γ .sh f) tNil))) (ht : Γ[i]? = some (.ol (.ol .sh))) : PE X c (tM X.K Γ Γ .sh (xNApp i g f)) :=
  h.imp fun σ H Q ⟨δ, Z, F, d, δ', ok, e, k⟩ => by
  obtain ⟨jd, e1, e2⟩ := Option.bind_eq_some_iff.mp e
  obtain ⟨y, e3, e4⟩ := Option.bind_eq_some_iff.mp e2
  cases jd with
  | int j =>
    obtain ⟨ds, e5, e6⟩ := Option.bind_eq_some_iff.mp e4
    obtain ⟨n, e7, e8⟩ := Option.bind_eq_some_iff.mp e6
    split at e8
    · rename_i es hes
      split at e8
      · rename_i hlt
        cases e8
        obtain ⟨a0, xs0, hv, hH⟩ := recv ok ht
        refine ⟨.ref a0, hv, δ, Z, F, .int j, ok, e1, fun w H1 Z1 g1 s1 r1 => ?_⟩
        have ew := r1.shOf.1.intOf
        subst ew
        have ok1 := ok.ext s1
        obtain ⟨a, xs, fs, F2, hv', ha, ra, o2, nd2, sb2⟩ := ok1.opn ht (getL_eq e5)
        rw [hv] at hv'
        have ea : a0 = a := by simpa using hv'
        subst ea
        obtain ⟨u, f1, gg, f2, hu, rfl, q1, qv, q2⟩ := ra.at hes
        have hnl : n < ds.length := (List.getElem?_eq_some_iff.mp hes).1
        obtain ⟨b, ys, es', fb, rfl, ee, rfl, hb, rb⟩ := ofList qv
        cases ee
        obtain ⟨sb', rfl⟩ := rb.shA
        have hat : atI xs j = some (.ref b) := by
          unfold atI
          rw [Rep.len ra, e7]
          exact hu
        refine ⟨a0, xs, j, .ref b, rfl, rfl, SqL.of ha, hat, .inl ⟨rfl, ys, SqL.of hb⟩, δ, Z1, F, y, ok1, e3, fun v H2 Z2 g2 s2 r2 => ?_⟩
        have rv := r2.shOf.1
        have hb2 : H2 b = some (.lst ys) := s2.keep b _ hb (by simp)
        have ha2 : H2 a0 = some (.lst xs) := s2.keep a0 _ ha (by simp)
        have sb2' := sb'.ext s2
        have bF : b ∈ F := sb2 b (by simp)
        have su : Stp H2 Z2 [b] (upd H2 b (.lst (ys ++ [v]))) Z2 [b] := Stp.upd (by simp)
        have mu : Mu H2 [b] := Mu.one hb2
        have ok2 := ok1.ext s2
        have dzb : ∀ x ∈ [b], ¬ Z2 x := fun x hx => by simp only [List.mem_singleton] at hx; rw [hx]; exact ok2.dz b bF
        have o2' := o2.ext s2
        have nd3 : (F2 ++ (a0 :: (f1 ++ [b] ++ f2))).Nodup := nd2
        have nb : ∀ x, x ∈ F2 ∨ x = a0 ∨ x ∈ f1 ∨ x ∈ f2 → x ∉ [b] := fun x hx hz => by
          simp only [List.mem_singleton] at hz
          subst hz
          simp only [List.nodup_append, List.nodup_cons, List.mem_append, List.mem_cons, List.mem_singleton, List.not_mem_nil, or_false] at nd3
          obtain ⟨_, ⟨n1, ⟨⟨_, _, n2⟩, _, n3⟩⟩, n4⟩ := nd3
          rcases hx with h | h | h | h
          · exact n4 x h x (.inr (.inl (.inr rfl))) rfl
          · exact n1 (.inl (.inr h.symm))
          · exact n2 x h x rfl rfl
          · exact n3 x (.inr rfl) x h rfl
        have o4 : Ok X.K (Γ.set i .no) σ δ (upd H2 b (.lst (ys ++ [v]))) Z2 F2 := ⟨o2'.env.step su mu dzb fun x hx => nb x (.inl hx), o2'.nd, o2'.dz, fun x hx => upd_live (o2'.zs x hx)⟩
        have ha3 : (upd H2 b (.lst (ys ++ [v]))) a0 = some (.lst xs) := by rw [upd_ne (fun z => nb a0 (.inr (.inl rfl)) (by simp [z]))]; exact ha2
        have rN : RepA X.K (upd H2 b (.lst (ys ++ [v]))) Z2 (.ol .sh) xs (ds.set n (.list (es ++ [y]))) (f1 ++ [b] ++ f2) := by
          have p1 := (q1.ext s2).step su mu dzb fun x hx => nb x (.inr (.inr (.inl hx)))
          have p2 := (q2.ext s2).step su mu dzb fun x hx => nb x (.inr (.inr (.inr hx)))
          have pm : Rep X.K (upd H2 b (.lst (ys ++ [v]))) Z2 (.ol .sh) (.ref b) (.list (es ++ [y])) [b] := .ol upd_same (((sb2'.app (.cons rv .nil)).step su mu dzb).repA)
          have := (p1.app (RepA.one pm)).app p2
          rw [set_split hnl]
          rw [nth_split hu]
          simpa [List.append_assoc] using this
        have rA : Rep X.K (upd H2 b (.lst (ys ++ [v]))) Z2 (.ol (.ol .sh)) (.ref a0) (.list (ds.set n (.list (es ++ [y])))) (a0 :: (f1 ++ [b] ++ f2)) := .ol ha3 rN
        have hl : i < (Γ.set i .no).length := by rw [List.length_set]; exact (List.getElem?_eq_some_iff.mp ht).1
        obtain ⟨F3, o5, sb5⟩ := o4.set hl rA nd3 fun x hx => ok2.dz x (sb2 x (List.mem_append_right _ hx))
        rw [set_self hv, List.set_set, set_self ht] at o5
        have hlen : ys.length < sizeLine := by rw [sb'.len]; exact hlt
        refine ⟨b, ys, v, rfl, rfl, hb2, hlen, k .non _ Z2 F3 [] ?_ o5 (.sh .non) (by simpa using o5.nd) (fun _ q => nomatch q)⟩
        exact (((s1.trans s2).stp).trans (Stp.upd bF)).sub fun x hx => sb2 x (sb5 x (by simpa using hx))
      · cases e8
    · cases e8
  | _ => cases e4
/-! ### displays and operators with parts that change something -/
def xLM (o : List D → Option D) (r : LM) : EM := fun δ => (r δ).bind fun p => (o p.1).map (·, p.2)
theorem mTup {x1} {es : List Expr} {pos : Pos} {ts : List T} {gb : List (Option Nat)} {f : LM} (h : PA X es (aM X.K Γ Γ' ts gb f)) (ht : ts.all (· == .sh) = true := by rfl) : PE X (.Tuple es x1 pos) (tM X.K Γ Γ' .sh (xLM mkTup f)) :=
  (pe_tup h).imp fun σ H Q ⟨δ, Z, F, d, δ', ok, e, k⟩ => by
    obtain ⟨⟨ds, δ1⟩, eds, e⟩ := Option.bind_eq_some_iff.mp e
    obtain ⟨d', e', e''⟩ := Option.map_eq_some_iff.mp e
    cases e''
    refine ⟨δ, Z, F, ds, δ1, ok, eds, fun vs H1 Z1 F1 g s1 ok1 r1 nd1 dz1 gv => ?_⟩
    have sa := Env.shA r1 ht
    have eg := r1.shs ht
    subst eg
    unfold mkTup at e'
    split at e'
    · rename_i hl
      cases e'
      refine ⟨by rw [sa.len]; exact hl, fun p hp => k _ _ Z1 F1 [] (s1.trans (Ext.stp (Ext.new hp))) (ok1.ext (Ext.new hp)) (.sh (.tup upd_same (sa.ext (Ext.new hp)))) nd1 (fun _ q => nomatch q)⟩
    · cases e'
/-- the left part may change something, or the right one: shared values -/
def x2M (o : D → D → Option D) (a b : EM) : EM := fun δ => (a δ).bind fun p => (b p.2).bind fun q => (o p.1 q.1).map (·, q.2)
theorem p2M {r : R2} {o : D → D → Option D} {fa fb : EM} (hs : OpS K r .sh .sh .sh o) {σ : L2.St} {Q : VK} (h : tM K Γ Γ2 .sh (x2M o fa fb) σ H Q) : tOp r (tM K Γ Γ1 .sh fa) (tM K Γ1 Γ2 .sh fb) σ H Q := by
  obtain ⟨δ, Z, F, d, δ', ok, e, k⟩ := h
  obtain ⟨⟨x, δ1⟩, ex, e⟩ := Option.bind_eq_some_iff.mp e
  obtain ⟨⟨y, δ2⟩, ey, e⟩ := Option.bind_eq_some_iff.mp e
  obtain ⟨d', e', e''⟩ := Option.map_eq_some_iff.mp e
  cases e''
  refine ⟨δ, Z, F, x, δ1, ok, ex, fun v H1 Z1 F1 g s1 ok1 r1 nd1 dz1 => ⟨δ1, Z1, F1, y, δ2, ok1, ey, fun w H2 Z2 F2 g2 s2 ok2 r2 nd2 dz2 => ?_⟩⟩
  obtain ⟨q1, rfl⟩ := r1.shOf
  obtain ⟨q2, rfl⟩ := r2.shOf
  refine hs H2 Z2 v w x y d [] [] Q (.sh (q1.step s2 ok1.mu ok1.dz)) (.sh q2) e' fun v' H' Z' h s3 r3 => ?_
  obtain ⟨q3, rfl⟩ := r3.shOf
  exact k v' H' Z' F2 [] (by simpa using ((by simpa using s1 : Stp H Z F H1 Z1 F1).trans (by simpa using s2 : Stp H1 Z1 F1 H2 Z2 F2)).trans s3.stp) (ok2.ext s3) (.sh q3) nd2 (fun _ q => nomatch q)
theorem m2 {op : Operator} {r : R2} {o : D → D → Option D} {fa fb : EM} {a b : Expr} {pos : Pos} (ho : OpR X (binaryOp op) r) (hs : OpS X.K r .sh .sh .sh o) (ha : PE X a (tM X.K Γ Γ1 .sh fa)) (hb : PE X b (tM X.K Γ1 Γ2 .sh fb)) :
    PE X (.BinOp a op b pos) (tM X.K Γ Γ2 .sh (x2M o fa fb)) := (pe_op ho ha hb).imp fun _ _ _ => p2M hs
def bME (f : EM) : BM := fun δ => (f δ).bind fun p => (toB p.1).map (·, p.2)
theorem tBM_of {te : TE} {f : EM} {σ : L2.St} {Q : Bool → Hp → Prop} (hq : ∀ Q, tM K Γ Γ' .sh f σ H Q → te σ H Q) (h : bM K Γ Γ' (bME f) σ H Q) : te σ H fun x H' => ∃ k, x = .bl k ∧ Q k H' := by
  obtain ⟨δ, Z, F, b, δ', ok, e, k⟩ := h
  obtain ⟨⟨d, δ1⟩, ed, e⟩ := Option.bind_eq_some_iff.mp e
  obtain ⟨b', eb, e''⟩ := Option.map_eq_some_iff.mp e
  cases e''
  refine hq _ ⟨δ, Z, F, d, δ1, ok, ed, fun v H' Z' F' g s ok' r nd dz => ?_⟩
  obtain ⟨rs, rfl⟩ := r.shOf
  obtain ⟨rfl, rfl⟩ := toB_sh rs eb
  exact ⟨_, rfl, k H' Z' F' (by simpa using s) ok'⟩
theorem qCmpM {op : CmpOp} {r : R2} {o : D → D → Option D} {fa fb : EM} {a b : Expr} {pos : Pos} (ho : OpR X (compareOp op) r) (hs : OpS X.K r .sh .sh .sh o) (ha : PE X a (tM X.K Γ Γ1 .sh fa)) (hb : PE X b (tM X.K Γ1 Γ2 .sh fb)) (hm : behindInMarks op b = false) :
    PT X (.Compare a [op] [b] pos) (bM X.K Γ Γ2 (bME (x2M o fa fb))) := (pt_cmpR ho ha hb hm).imp fun _ _ _ h => tBM_of (fun Q => p2M hs) h
theorem qValM {f : EM} {e : Expr} (h : PE X e (tM X.K Γ Γ' .sh f)) (he : ∀ whole, isTrue e X.env whole = (do let v ← whole; standAt e.pos; holding [v] (truthy v)) := by intro _; rfl) : PT X e (bM X.K Γ Γ' (bME f)) :=
  (pt_val h he).imp fun _ _ _ h => tBM_of (fun Q q => q) h
def bMOf (f : BF) : BM := fun δ => (f δ).map (·, δ)
theorem bMOfP {f : BF} {e : Expr} (h : PT X e (bP X.K Γ f)) : PT X e (bM X.K Γ Γ (bMOf f)) := h.imp fun σ H Q ⟨δ, Z, F, b, δ', ok, e, k⟩ => by
  obtain ⟨b', eb, e''⟩ := Option.map_eq_some_iff.mp e
  cases e''
  exact ⟨δ, Z, F, b, ok, eb, fun H' Z' s => k H' Z' F s.stp (ok.ext s)⟩
def bNotM (f : BM) : BM := fun δ => (f δ).map fun p => (!p.1, p.2)
theorem qNotM {f : BM} {e : Expr} {pos : Pos} (h : PT X e (bM X.K Γ Γ' f)) : PT X (.UnaryOp .Not e pos) (bM X.K Γ Γ' (bNotM f)) := (pt_not h).imp fun σ H Q ⟨δ, Z, F, b, δ', ok, e, k⟩ => by
  obtain ⟨⟨c, δ1⟩, ec, e⟩ := Option.map_eq_some_iff.mp e
  cases e
  exact ⟨δ, Z, F, c, δ1, ok, ec, k⟩
/-- a and b, b changing something: the slots behind it as without (types alike) -/
def bAndM (f g : BM) : BM := fun δ => (f δ).bind fun p => if p.1 then g p.2 else some (false, p.2)
def bOrM (f g : BM) : BM := fun δ => (f δ).bind fun p => if p.1 then some (true, p.2) else g p.2
theorem qAnd1M {f : BM} {a : Expr} {pos : Pos} (h : PT X a (bM X.K Γ Γ' f)) : PW X (.BoolOp .And [a] pos) (bM X.K Γ Γ' f) := pw_and1 h
theorem qOr1M {f : BM} {a : Expr} {pos : Pos} (h : PT X a (bM X.K Γ Γ' f)) : PW X (.BoolOp .Or [a] pos) (bM X.K Γ Γ' f) := pw_or1 h
theorem qAndM {f g : BM} {a b : Expr} {rest : List Expr} {pos : Pos} (h : PT X a (bM X.K Γ Γ f)) (h2 : PW X (.BoolOp .And (b :: rest) pos) (bM X.K Γ Γ g)) : PW X (.BoolOp .And (a :: b :: rest) pos) (bM X.K Γ Γ (bAndM f g)) :=
  (pw_and h h2).imp fun σ H Q ⟨δ, Z, F, b, δ', ok, e, k⟩ => by
    obtain ⟨⟨c, δ1⟩, ec, e⟩ := Option.bind_eq_some_iff.mp e
    refine ⟨δ, Z, F, c, δ1, ok, ec, fun H1 Z1 F1 s1 ok1 => ?_⟩
    cases c with
    | true => exact ⟨δ1, Z1, F1, b, δ', ok1, e, fun H' Z' F' s o => k H' Z' F' (s1.trans s) o⟩
    | false => cases e; exact k H1 Z1 F1 s1 ok1
theorem qOrM {f g : BM} {a b : Expr} {rest : List Expr} {pos : Pos} (h : PT X a (bM X.K Γ Γ f)) (h2 : PW X (.BoolOp .Or (b :: rest) pos) (bM X.K Γ Γ g)) : PW X (.BoolOp .Or (a :: b :: rest) pos) (bM X.K Γ Γ (bOrM f g)) :=
  (pw_or h h2).imp fun σ H Q ⟨δ, Z, F, b, δ', ok, e, k⟩ => by
    obtain ⟨⟨c, δ1⟩, ec, e⟩ := Option.bind_eq_some_iff.mp e
    refine ⟨δ, Z, F, c, δ1, ok, ec, fun H1 Z1 F1 s1 ok1 => ?_⟩
    cases c with
    | true => cases e; exact k H1 Z1 F1 s1 ok1
    | false => exact ⟨δ1, Z1, F1, b, δ', ok1, e, fun H' Z' F' s o => k H' Z' F' (s1.trans s) o⟩
/-- a built-in's call with arguments that change something: shared values -/
theorem pLM {r : List V → Hp → VK → Prop} {ts : List T} {gb : List (Option Nat)} {o : List D → Option D} {f : LM} {σ : L2.St} {Q : VK} (hs : CalS K r ts .sh o) (ht : ts.all (· == .sh) = true) (h : tM K Γ Γ' .sh (xLM o f) σ H Q) : tCB r (aM K Γ Γ' ts gb f) σ H Q := by
  obtain ⟨δ, Z, F, d, δ', ok, e, k⟩ := h
  obtain ⟨⟨ds, δ1⟩, eds, e⟩ := Option.bind_eq_some_iff.mp e
  obtain ⟨d', e', e''⟩ := Option.map_eq_some_iff.mp e
  cases e''
  refine ⟨δ, Z, F, ds, δ1, ok, eds, fun vs H1 Z1 F1 g s1 ok1 r1 nd1 dz1 gv => ?_⟩
  have eg := r1.shs ht
  subst eg
  refine hs H1 Z1 vs ds d [] Q r1 e' fun v H' Z' h s2 r2 => ?_
  obtain ⟨q3, rfl⟩ := r2.shOf
  exact k v H' Z' F1 [] (s1.trans (by simpa using s2.stp)) (ok1.ext s2) (.sh q3) nd1 (fun _ q => nomatch q)
theorem mCallT {x : Str} {p pos : Pos} {e : Expr} {es : List Expr} {ty : String} {r : List V → Hp → VK → Prop} {ts : List T} {gb : List (Option Nat)} {o : List D → Option D} {f : LM} (hc : CallR X (.type ty) r) (hs : CalS X.K r ts .sh o) (ht : ts.all (· == .sh) = true) (hg : Gl X x) (hm : X.mg x = none) (hv : bootBuiltins x = some (.type ty))
    (ha : PA X (e :: es) (aM X.K Γ Γ' ts gb f)) (hn : x ≠ "__name__" := by decide) (hdb : (x == ("__debug__" : Str)) = false := by decide)
    (he : starEach (e :: es) X.env = (false, eval e X.env) :: starEach es X.env := by rfl) (hpl : (backTo pos (starEach es X.env)).any (·.1) = false := by rfl) : PE X (.Call (.Name x p) (e :: es) [] pos) (tM X.K Γ Γ' .sh (xLM o f)) :=
  (pe_callTy hc hg hm hv ha hn hdb he hpl).imp fun _ _ _ => pLM hs ht
end
end Pv

set_option Elab.async false
set_option linter.all false
set_option maxRecDepth 100000
/-! Pe: enumerate of a tuple. -/
namespace PySem
open Sem (wp)
open AutoSeq1 (wpAny_loadPart')
theorem pv_meets_enum_tuple (l : Addr) (items : Array Value) (n : Nat) (dct : Option Addr) (sl : Array (Option Value)) :
    Meets (Builtin.«enumerate.__new__» ⟨[.type "enumerate", .ref l], []⟩) (fun _ R s => s.heap.get? l = some { cls := .type "tuple", dict := dct, data := .seq items n, slots := sl } ∧
      R (.ok (.ret (.ref (s.heap.push { cls := .type "tuple_iterator", data := .fields #[.ref l, .int 0 0] }).objs.size)))
        { s with heap := (s.heap.push { cls := .type "tuple_iterator", data := .fields #[.ref l, .int 0 0] }).push { cls := .type "enumerate", data := .fields #[.none, .bool false, .ref s.heap.objs.size, rawInt 0, .none, .none] } }) :=
  .of_wp fun prog w A R s h => by
    obtain ⟨hp, g, d, tk, os⟩ := s; obtain ⟨hl, h⟩ := h
    have hsub := sub_enumerate
    have hL : Heap.IsTuple (Shared.heap ⟨hp, g, d, tk, os⟩) l items := ⟨_, hl, rfl, n, rfl⟩
    wp_walk using wpAny_loadPart' hl
    refine wpAny_stack_any fun st => wpAny_pure ?_
    split
    · rename_i c _ _ _ _ _
      cases (c == Value.type "enumerate")
      · wp_walk using wpAny_loadPart' hl, wpAny_pyIter_tuple hL
        exact ⟨_, rfl, h⟩
      · wp_walk using wpAny_loadPart' hl, wpAny_pyIter_tuple hL
        exact ⟨_, rfl, h⟩
    · wp_walk using wpAny_loadPart' hl, wpAny_pyIter_tuple hL
      exact ⟨_, rfl, h⟩
section
variable {prog : Program} {w : World} {A : Around} {E : Value → Shared → Prop} {s : Shared}
theorem pv_call_enum_tuple {l : Addr} {items : Array Value} {Q : Value → Shared → Prop} (hL : s.heap.IsTuple l items)
    (h : ∀ h', IsEnum h' (s.heap.objs.size + 1) s.heap.objs.size 0 .none → h'.IsTupleIter s.heap.objs.size l 0 → h'.objs.size = s.heap.objs.size + 2 →
      (∀ b o, s.heap.get? b = some o → h'.get? b = some o) → Q (.ref (s.heap.objs.size + 1)) { s with heap := h' }) :
    wpAny (model prog w) A (call (.type "enumerate") [.ref l]) Q E s := by
  obtain ⟨⟨c, dct, dt, sl⟩, hl, hc, n, hd⟩ := hL
  replace hc : c = .type "tuple" := hc
  replace hd : dt = .seq items n := hd
  subst hc hd
  refine callType_new F.called_enumerate (by decide) (F.typeCall_enumerate_1 _) (F.newCall_enumerate_1 _) (fun obj => F.args_object_init_2 obj _) F.entry_enumerate_new
    (pv_meets_enum_tuple l items n dct sl) ⟨hl, ?_⟩
  have hz : (s.heap.push { cls := .type "tuple_iterator", data := .fields #[.ref l, .int 0 0] }).objs.size = s.heap.objs.size + 1 := Heap.size_push ..
  show _ ∧ _
  rw [hz]
  have he : IsEnum ((s.heap.push { cls := .type "tuple_iterator", data := .fields #[.ref l, .int 0 0] }).push
      { cls := .type "enumerate", data := .fields #[.none, .bool false, .ref s.heap.objs.size, rawInt 0, .none, .none] }) (s.heap.objs.size + 1) s.heap.objs.size 0 .none := by
    have := Heap.get?_push_size (s.heap.push { cls := .type "tuple_iterator", data := .fields #[.ref l, .int 0 0] })
      (o := { cls := .type "enumerate", data := .fields #[.none, .bool false, .ref s.heap.objs.size, rawInt 0, .none, .none] }) rfl
    rw [hz] at this; exact this
  refine ⟨⟨_, he, rfl⟩, h _ he ⟨_, Heap.get?_push_of_some _ (Heap.get?_push_size _ rfl), rfl, rfl⟩ (by rw [Heap.size_push, hz]) fun b o x => Heap.get?_push_of_some _ (Heap.get?_push_of_some _ x)⟩
end
end PySem
namespace Pv
open PySem PySem.Spec PyProof.Rows L2
/-- the tuple at a, each item in a new pair -/
def IteT (K : PySem.W.Frag) (a : Addr) : It :=
  ⟨fun i H => ∃ (xs : List V) (x : V), SqT K H a xs ∧ xs[i]? = some x, fun i H v H' => ∃ T x, v = .ref T ∧ H T = none ∧ H' = upd H T (.tup [.int (i : Nat), x]) ∧ ∀ xs, SqT K H a xs → xs[i]? = some x, fun i H => ∃ xs : List V, SqT K H a xs ∧ xs.length ≤ i⟩
theorem turn_enumT {P : Program} {w : World} {K : PySem.W.Frag} {elts : List Expr} {kk : Nat} {tpos : Pos} (a e it : Addr) (items : Array Value) (hae : a ≠ it) :
    Turn P w K (.Tuple elts kk tpos) (IteT K a) [e, it] e (fun i h => (∃ old, IsEnum h e it ((i : Nat) : Int) old) ∧ h.IsTupleIter it a i ∧ e ≠ it) where
  mem := by simp
  obj := fun i h st b hb => by
    obtain ⟨⟨old, he⟩, ⟨o, ho, hc, hd⟩, _⟩ := st
    have e' : b = e ∨ b = it := by simpa using hb
    rcases e' with z | z
    · rw [z]; exact ⟨_, he, fun v q => nomatch q⟩
    · rw [z]; exact ⟨o, ho, fun v q => by rw [hd] at q; cases q⟩
  keep := fun i h h' st k => let ⟨⟨old, he⟩, hi, hne⟩ := st; ⟨⟨old, k e (by simp) _ he⟩, hi.at fun o q => k it (by simp) o q, hne⟩
  item := by
    intro X hP hw hK hc i pins s σ H E I hf st hg
    subst hP hw hK
    obtain ⟨⟨old, he⟩, hit, hne⟩ := st
    obtain ⟨xs, x, hq, hx⟩ := hg
    obtain ⟨its, rv, p, hz⟩ := I.tuple hq
    obtain ⟨u, hu, ru⟩ := rv.get hx
    have hel : e < s.heap.objs.size := Heap.lt_size he
    have hil : it < s.heap.objs.size := by obtain ⟨_, q, _⟩ := hit; exact Heap.lt_size q
    have nae : a ≠ e := fun z => by
      obtain ⟨o1, q1, q2, _⟩ := p
      rw [z, he] at q1
      cases q1
      exact absurd (Value.type.inj q2) (by decide)
    have DT := Draws.tuple (prog := X.prog) (w := X.w) (A := X.A.in1) (by exact I.ok.hd hc) it a hae its.toArray
    have hlt : i < its.toArray.size := by
      have := (List.getElem?_eq_some_iff.mp hx).1
      rw [List.size_toArray, ← rv.length]
      exact this
    refine wpAny_pyNext_enum_itemD DT he ⟨hit, show s.heap.IsTuple a its.toArray from p⟩ hlt hne (by simp only [List.mem_cons, List.not_mem_nil, or_false, not_or]; exact ⟨hne, fun z => nae z.symm⟩) fun y h' tk hy ho hst hT hsz hk => ?_
    have ey : y = u := by
      have : its.toArray[i]? = some y := hy
      rw [show its.toArray[i]? = its[i]? by simp] at this
      rw [hu] at this
      exact (Option.some.inj this).symm
    subst ey
    have hit' := hst.1
    refine ⟨_, rfl, wpAny_letOwnedTupleGo_enum (s := { s with heap := h', toks := tk + 1 }) ho fun h'' he' sb => ?_⟩
    have hT2 : h''.get? s.heap.objs.size = some { cls := .type "tuple", data := .seq #[.int i tk, y] } := (sb.2 _ (Nat.ne_of_gt hel)).trans hT
    have new : ObjOk X.prog X.w (upd H s.heap.objs.size (.tup [.int (i : Nat), x])) h'' s.heap.objs.size (.tup [.int (i : Nat), x]) :=
      ⟨by show 2 ≤ sizeLine; decide, [.int i tk, y], .cons ⟨_, rfl⟩ (.cons ru .nil), ⟨_, hT2, rfl, _, rfl⟩⟩
    have I1 : Inv X pins σ (upd H s.heap.objs.size (.tup [.int (i : Nat), x])) { s with heap := h'', toks := tk + 1 } :=
      I.turnedNew (ch := [e, it]) (fun b ob hb q => (sb.2 b (fun z => hb (by simp [z]))).trans (hk b ob (fun z => hb (by simp [z])) (fun z => hb (by simp [z])) q)) hf (Nat.le_refl _) new
    refine ⟨.ref s.heap.objs.size, _, I1, rfl, ⟨_, x, rfl, I.hok.fresh (Nat.le_refl _), rfl, fun ys hy => by rw [I.tuple_inj hy hq]; exact hx⟩, ⟨⟨y, ?_⟩, hit'.at fun o q => (sb.2 it (Ne.symm hne)).trans q, hne⟩, fun b hb => ?_⟩
    · have e1 : ((i + 1 : Nat) : Int) = (i : Int) + 1 := by omega
      rw [e1]; exact he'
    · have hb' : b < s.heap.objs.size := by
        have e' : b = e ∨ b = it := by simpa using hb
        rcases e' with z | z
        · rw [z]; exact hel
        · rw [z]; exact hil
      rw [upd_ne (Nat.ne_of_lt hb')]
      exact (hf b hb).1
  done := by
    intro X hP hw hK hc i pins s σ H E I hf st hg
    subst hP hw hK
    obtain ⟨⟨old, he⟩, hit, hne⟩ := st
    obtain ⟨xs, hq, hx⟩ := hg
    obtain ⟨its, rv, p, hz⟩ := I.tuple hq
    obtain ⟨f0, f1, f2, f3, f4, f5⟩ := hf it (by simp)
    have hl := rv.length
    have hT : s.TypeIs (.ref e) "enumerate" := ⟨_, he, rfl⟩
    unfold pyNext
    refine wpAny_bind (wpAny_attempt (wpAny_callSpecial?_slot (name := Str.ofString "__next__") hT F.slot_enumerate_next
      (wpAny_call_entry F.slot_enumerate_next hT F.entry_enumerate_next ?_ (F.args_enumerate_next_1 _))))
    show wpAny _ _ (field (.ref e) 2 >>= _) _ _ _
    refine wpAny_bind (wpAny_field he rfl (x := .ref it) rfl ?_)
    refine wpAny_bind (wpAny_nextOf_tuple_end (I.ok.hd hc) hit (show s.heap.IsTuple a its.toArray from p) (by simp; omega) fun h' x he' hx' => ?_)
    obtain ⟨o, ho, hc'⟩ := hx'
    refine wpAny_bind (wpAny_isInstance (T := "StopIteration") (b := true) ⟨o, ho, hc'⟩ isSubtype_stop ?_)
    exact wpAny_pure ⟨rfl, I.turned (t' := s.toks) (fun b o hb q => he' b o hb q) f0 f1 f3 f4 f5⟩
  self := fun A i s Q E st h => let ⟨⟨_, he⟩, _⟩ := st; wpAny_pyIter_enum he h
def iEnumT (K : PySem.W.Frag) (ta : TA) : TI := fun σ H R => ta σ H fun vs H1 => ∃ a xs, vs = [.ref a] ∧ SqT K H1 a xs ∧ R (IteT K a) H1
theorem pi_enumT {X : Cx} {e : Expr} {ta : TA} {p pos tpos : Pos} {elts : List Expr} {kk : Nat} (hg : Gl X "enumerate") (hm : X.mg "enumerate" = none) (ha : PA X [e] ta) (hs : starEach [e] X.env = [(false, eval e X.env)] := by rfl) :
    PI X (.Tuple elts kk tpos) (.Call (.Name "enumerate" p) [e] [] pos) (iEnumT X.K ta) := by
  refine ⟨fun pins s σ H R I h => ?_⟩
  refine Call_ (ld_blt I hg hm boot_enumerate (PyProof.Rows.callWith_type1 (thn (ha.run pos pins s σ H _ I h) fun us s1 ⟨vs, H1, I1, r1, q1⟩ => ?_) hs rfl))
  obtain ⟨a, xs, ex, hq, q⟩ := q1
  subst ex
  cases r1 with
  | cons r rr =>
    cases rr
    cases r
    obtain ⟨its, rv, p', hz⟩ := I1.tuple hq
    have hal : a < s1.heap.objs.size := by obtain ⟨o1, q1, _⟩ := p'; exact Heap.lt_size q1
    refine pv_call_enum_tuple (show s1.heap.IsTuple a its.toArray from p') fun h' he hit hsz hk => wpAny_pyIter_enum he ?_
    have I2 : Inv X pins σ H1 { s1 with heap := h' } := I1.kept (t' := s1.toks) hk
    refine ⟨s1.heap.objs.size + 1, [s1.heap.objs.size + 1, s1.heap.objs.size], _, _, H1, rfl, I2, turn_enumT a (s1.heap.objs.size + 1) s1.heap.objs.size its.toArray (Nat.ne_of_lt hal), ⟨⟨.none, he⟩, hit, Nat.succ_ne_self _⟩, fun b hb => ?_, q⟩
    have e' : b = s1.heap.objs.size + 1 ∨ b = s1.heap.objs.size := by simpa using hb
    have hle : s1.heap.objs.size ≤ b := by
      rcases e' with z | z
      · rw [z]; exact Nat.le_add_right _ _
      · rw [z]; exact Nat.le_refl _
    exact I1.fpOk hle (I1.hok.fresh hle)
theorem walk_enumT {K : PySem.W.Frag} {a : Addr} {xs : List V} : Walk (IteT K a) xs.length (fun H => SqT K H a xs) (YPair (fun i => some (.int (i : Nat))) (fun i => xs[i]?)) := by
  refine ⟨fun i _ hi q => ⟨xs, xs[i], q, by simp [hi]⟩, fun _ q => ⟨xs, q, Nat.le_refl _⟩, fun i H v H' _ q y => ?_⟩
  obtain ⟨T, x, h1, h2, h3, h4⟩ := y
  exact ⟨T, .int (i : Nat), x, h1, h2, h3, rfl, h4 xs q⟩
end Pv

set_option Elab.async false
set_option linter.all false
set_option maxRecDepth 100000
/-! Pv8: what is walked; for, while, list comprehensions. -/
namespace Pv
open PySem PySem.Spec PyProof.Rows L2
/-- a later heap: what is frozen is as it was -/
def Lat (H : Hp) (Z : FzT) (H2 : Hp) (Z2 : FzT) : Prop := ∃ F F2, Stp H Z F H2 Z2 F2 ∧ Mu H F ∧ ∀ a ∈ F, ¬ Z a
def Wks (K : PySem.W.Frag) (J : It) (ds : List D) (H : Hp) (Z : FzT) : Prop := ∃ (G : Hp → Prop) (Y : Nat → Hp → V → Hp → Prop), Walk J ds.length G Y ∧ (∀ H2 Z2, Lat H Z H2 Z2 → G H2) ∧
  ∀ i H2 Z2 x H3 d, Lat H Z H2 Z2 → Y i H2 x H3 → ds[i]? = some d → ∃ Z3, Ext H2 Z2 H3 Z3 ∧ Sh K H3 Z3 x d
def tI (K : PySem.W.Frag) (Γ Γ' : List T) (f : LM) : TI := fun σ H R => ∃ δ Z F ds δ', Ok K Γ σ δ H Z F ∧ f δ = some (ds, δ') ∧ ∀ J H' Z' F', Stp H Z F H' Z' F' → Ok K Γ' σ δ' H' Z' F' → Wks K J ds H' Z' → R J H'
def tIP (K : PySem.W.Frag) (Γ : List T) (f : LF) : TI := fun σ H R => ∃ δ Z F ds, Ok K Γ σ δ H Z F ∧ f δ = some ds ∧ ∀ J H' Z', Ext H Z H' Z' → Wks K J ds H' Z' → R J H'
def lmOf (f : LF) : LM := fun δ => (f δ).map (·, δ)
/-- the target of a for: d goes into the slots ix -/
def tG (K : PySem.W.Frag) (Γ Γ1 : List T) (ix : List Nat) (tg : D → List D → Option (List D)) : TG := fun v σ H Q => ∃ δ Z F d δ1, Ok K Γ σ δ H Z F ∧ Sh K H Z v d ∧ tg d δ = some δ1 ∧
  ∀ σ1 F1, Ok K Γ1 σ1 δ1 H Z F1 → (∀ a ∈ F1, a ∈ F) → σ1.length = σ.length → (∀ j, j ∉ ix → σ1[j]? = σ[j]?) → Q σ1 H
section
variable {K : PySem.W.Frag} {X : Cx} {Γ Γ' Γ1 Γ2 : List T} {H H' H1 H2 H3 : Hp} {Z Z' Z1 Z2 Z3 : FzT} {F F' F1 F2 : List Addr} {σ σ' σ1 : L2.St} {δ δ' : List D} {E : TyE} {en eb ec er : List T} {et : T} {W W' : Ends}
theorem _root_.L2.PI.imp {tg iter : Expr} {w w' : TI} (h : PI X tg iter w) (i : ∀ σ H R, w' σ H R → w σ H R) : PI X tg iter w' := ⟨fun pins s σ H R I q => h.run pins s σ H R I (i _ _ _ q)⟩
theorem _root_.L2.PI.or {tg iter : Expr} {w w' : TI} (h : PI X tg iter w) (h' : PI X tg iter w') : PI X tg iter (fun σ H R => w σ H R ∨ w' σ H R) := ⟨fun pins s σ H R I q => q.elim (fun q => h.run pins s σ H R I q) fun q => h'.run pins s σ H R I q⟩
theorem _root_.L2.PG.imp {tg : Expr} {t t' : TG} (h : PG X tg t) (i : ∀ v σ H Q, t' v σ H Q → t v σ H Q) : PG X tg t' := ⟨fun pins s σ H v u Q I r q => h.run pins s σ H v u Q I r (i _ _ _ _ q)⟩
theorem iM {tg iter : Expr} {f : LF} (h : PI X tg iter (tIP X.K Γ f)) : PI X tg iter (tI X.K Γ Γ (lmOf f)) := h.imp fun σ H R ⟨δ, Z, F, ds, δ', ok, e, k⟩ => by
  obtain ⟨ds', e1, e2⟩ := Option.map_eq_some_iff.mp e
  cases e2
  exact ⟨δ, Z, F, _, ok, e1, fun J H' Z' s w => k J H' Z' F s.stp (ok.ext s) w⟩
theorem Lat.refl : Lat H Z H Z := ⟨[], [], Ext.refl, Mu.nil, (fun _ q => nomatch q)⟩
theorem Lat.sh {v : V} {d : D} (l : Lat H Z H2 Z2) (h : Sh K H Z v d) : Sh K H2 Z2 v d := let ⟨_, _, s, m, z⟩ := l; h.step s m z
theorem Lat.shA {v : List V} {d : List D} (l : Lat H Z H2 Z2) (h : ShA K H Z v d) : ShA K H2 Z2 v d := let ⟨_, _, s, m, z⟩ := l; h.step s m z
theorem Lat.fzl {a : Addr} {xs : List V} (l : Lat H Z H2 Z2) (z : FzL K H Z a xs) : SqL K H2 a xs := let ⟨_, _, s, m, dz⟩ := l; (z.step s dz).sql
theorem Lat.sqT {a : Addr} {xs : List V} (l : Lat H Z H2 Z2) (h : SqT K H a xs) : SqT K H2 a xs := let ⟨_, _, s, m, dz⟩ := l; SqT.keep (fun o q n => s.keep _ o q (Mu.not m q n)) h
theorem Ok.lat (o : Ok K Γ σ δ H Z F) (s : Stp H Z F H2 Z2 F2) : Lat H Z H2 Z2 := ⟨F, F2, s, o.mu, o.dz⟩

/-! ### what is walked -/
def asSeq : D → Option (List D)
  | .tuple ds => some ds
  | .list ds => some ds
  | _ => none
def lSeq (f : EF) : LF := fun δ => (f δ).bind asSeq
def lSeqM (f : EM) : LM := fun δ => (f δ).bind fun p => (asSeq p.1).map (·, p.2)
theorem wks_list {a : Addr} {xs : List V} {ds : List D} (z : FzL K H Z a xs) (r : ShA K H Z xs ds) : Wks K (Itl K a) ds H Z := by
  refine ⟨fun H => SqL K H a xs, YAt xs, by rw [← r.len]; exact walk_list, fun H2 Z2 l => l.fzl z, fun i H2 Z2 x H3 d l y e => ?_⟩
  obtain ⟨rfl, hx⟩ := y
  obtain ⟨v, hv, hs⟩ := (l.shA r).get e
  rw [hx] at hv
  cases hv
  exact ⟨Z2, .refl, hs⟩
theorem wks_tup {a : Addr} {xs : List V} {ds : List D} (h : SqT K H a xs) (r : ShA K H Z xs ds) : Wks K (Itt K a) ds H Z := by
  refine ⟨fun H => SqT K H a xs, YAt xs, by rw [← r.len]; exact walk_tup, fun H2 Z2 l => l.sqT h, fun i H2 Z2 x H3 d l y e => ?_⟩
  obtain ⟨rfl, hx⟩ := y
  obtain ⟨v, hv, hs⟩ := (l.shA r).get e
  rw [hx] at hv
  cases hv
  exact ⟨Z2, .refl, hs⟩
theorem iSeqM {tg e : Expr} {f : EM} (h : PE X e (tM X.K Γ Γ' .sh f)) : PI X tg e (tI X.K Γ Γ' (lSeqM f)) := ((pi_list h).or (pi_tup h)).imp fun σ H R ⟨δ, Z, F, ds, δ', ok, e, k⟩ => by
  obtain ⟨⟨d, δ1⟩, e1, e2⟩ := Option.bind_eq_some_iff.mp e
  obtain ⟨ds', e3, e4⟩ := Option.map_eq_some_iff.mp e2
  cases e4
  cases d with
  | list es =>
    cases e3
    refine .inl ⟨δ, Z, F, .list _, δ1, ok, e1, fun v H1 Z1 F1 g s1 ok1 r1 nd1 dz1 => ?_⟩
    obtain ⟨r, rfl⟩ := r1.shOf
    cases r with
    | lst z r => exact ⟨_, rfl, ⟨_, z.sql⟩, k _ H1 Z1 F1 (by simpa using s1) ok1 (wks_list z r)⟩
  | tuple es =>
    cases e3
    refine .inr ⟨δ, Z, F, .tuple _, δ1, ok, e1, fun v H1 Z1 F1 g s1 ok1 r1 nd1 dz1 => ?_⟩
    obtain ⟨r, rfl⟩ := r1.shOf
    cases r with
    | tup h r => exact ⟨_, rfl, ⟨_, SqT.of h⟩, k _ H1 Z1 F1 (by simpa using s1) ok1 (wks_tup (SqT.of h) r)⟩
  | _ => cases e3
theorem iSeq {tg e : Expr} {f : EF} (h : PE X e (tP X.K Γ .sh f)) : PI X tg e (tIP X.K Γ (lSeq f)) := ((pi_list h).or (pi_tup h)).imp fun σ H R ⟨δ, Z, F, ds, ok, e, k⟩ => by
  obtain ⟨d, e1, e3⟩ := Option.bind_eq_some_iff.mp e
  cases d with
  | list es =>
    cases e3
    refine .inl ⟨δ, Z, F, .list _, ok, e1, fun v H1 Z1 g s1 r1 => ?_⟩
    obtain ⟨r, rfl⟩ := r1.shOf
    cases r with
    | lst z r => exact ⟨_, rfl, ⟨_, z.sql⟩, k _ H1 Z1 s1 (wks_list z r)⟩
  | tuple es =>
    cases e3
    refine .inr ⟨δ, Z, F, .tuple _, ok, e1, fun v H1 Z1 g s1 r1 => ?_⟩
    obtain ⟨r, rfl⟩ := r1.shOf
    cases r with
    | tup h r => exact ⟨_, rfl, ⟨_, SqT.of h⟩, k _ H1 Z1 s1 (wks_tup (SqT.of h) r)⟩
  | _ => cases e3
def rngD (lo : Int) (n : Nat) : List D := (List.range n).map fun (k : Nat) => .int (lo + (k : Int))
theorem wks_rng {lo : Int} {n : Nat} : Wks K (Itr lo n) (rngD lo n) H Z := by
  refine ⟨fun _ => True, YFn fun i => .int (lo + i), by rw [show (rngD lo n).length = n by simp [rngD]]; exact walk_range, fun _ _ _ => trivial, fun i H2 Z2 x H3 d l y e => ?_⟩
  obtain ⟨rfl, rfl⟩ := y
  unfold rngD at e
  rw [List.getElem?_map, Option.map_eq_some_iff] at e
  obtain ⟨k, ek, rfl⟩ := e
  obtain ⟨_, ek⟩ := List.getElem?_eq_some_iff.mp ek
  have : i = k := by simpa using ek
  subst this
  exact ⟨Z2, .refl, .int _⟩
def rng1 : List D → Option (List D)
  | [.int j] => if -(2 ^ 62) ≤ j ∧ j < 2 ^ 62 then some (rngD 0 j.toNat) else none
  | _ => none
def rng2 : List D → Option (List D)
  | [.int i, .int j] => if (-(2 ^ 62) ≤ i ∧ i < 2 ^ 62) ∧ (-(2 ^ 62) ≤ j ∧ j < 2 ^ 62) then some (rngD i (j - i).toNat) else none
  | _ => none
def lOf (o : List D → Option (List D)) (f : LF) : LF := fun δ => (f δ).bind o
def lOfM (o : List D → Option (List D)) (f : LM) : LM := fun δ => (f δ).bind fun p => (o p.1).map (·, p.2)
theorem Env.one {v : V} {d : D} {g : List Addr} (h : Env K H Z [.sh] [some v] [d] g) : Sh K H Z v d := by
  cases h with
  | cons r _ => exact r.shOf.1
theorem Env.two {v w : V} {d e : D} {g : List Addr} (h : Env K H Z [.sh, .sh] [some v, some w] [d, e] g) : Sh K H Z v d ∧ Sh K H Z w e := by
  cases h with
  | cons r h => exact ⟨r.shOf.1, h.one⟩
theorem vs1 {vs : List V} {d : D} {g : List Addr} (h : Env K H Z [.sh] (vs.map some) [d] g) : ∃ v, vs = [v] ∧ Sh K H Z v d := by
  have l := h.len.1
  match vs, l, h with
  | [v], _, h => exact ⟨v, rfl, h.one⟩
theorem vs2 {vs : List V} {d e : D} {g : List Addr} (h : Env K H Z [.sh, .sh] (vs.map some) [d, e] g) : ∃ v w, vs = [v, w] ∧ Sh K H Z v d ∧ Sh K H Z w e := by
  have l := h.len.1
  match vs, l, h with
  | [v, w], _, h => exact ⟨v, w, rfl, h.two⟩
theorem iRng1 {tg : Expr} {a : Expr} {f : LF} {p pos : Pos} (hg : Gl X "range") (hm : X.mg "range" = none) (ha : PA X [a] (aP X.K Γ [.sh] f)) (hs : starEach [a] X.env = [(false, eval a X.env)] := by rfl) :
    PI X tg (.Call (.Name "range" p) [a] [] pos) (tIP X.K Γ (lOf rng1 f)) := (pi_range1 hg hm ha hs).imp fun σ H R ⟨δ, Z, F, ds, ok, e, k⟩ => by
  obtain ⟨as, e3, e4⟩ := Option.bind_eq_some_iff.mp e
  unfold rng1 at e4
  split at e4
  · split at e4
    · rename_i j hj
      cases e4
      refine ⟨δ, Z, F, _, ok, e3, fun vs H1 Z1 g s1 r1 => ?_⟩
      obtain ⟨v, rfl, sv⟩ := vs1 r1
      have := sv.intOf
      subst this
      exact ⟨j, rfl, hj.1, hj.2, k _ H1 Z1 s1 wks_rng⟩
    · cases e4
  · cases e4
theorem iRng2 {tg : Expr} {a b : Expr} {f : LF} {p pos : Pos} (hg : Gl X "range") (hm : X.mg "range" = none) (ha : PA X [a, b] (aP X.K Γ [.sh, .sh] f)) (hs : starEach [a, b] X.env = [(false, eval a X.env), (false, eval b X.env)] := by rfl) (hs2 : starEach [b] X.env = [(false, eval b X.env)] := by rfl) :
    PI X tg (.Call (.Name "range" p) [a, b] [] pos) (tIP X.K Γ (lOf rng2 f)) := (pi_range2 hg hm ha hs hs2).imp fun σ H R ⟨δ, Z, F, ds, ok, e, k⟩ => by
  obtain ⟨as, e3, e4⟩ := Option.bind_eq_some_iff.mp e
  unfold rng2 at e4
  split at e4
  · split at e4
    · rename_i i j hj
      cases e4
      refine ⟨δ, Z, F, _, ok, e3, fun vs H1 Z1 g s1 r1 => ?_⟩
      obtain ⟨v, w, rfl, sv, sw⟩ := vs2 r1
      have := sv.intOf
      subst this
      have := sw.intOf
      subst this
      exact ⟨i, j, rfl, ⟨hj.1.1, hj.1.2, hj.2.1, hj.2.2⟩, k _ H1 Z1 s1 wks_rng⟩
    · cases e4
  · cases e4
/-- range(n), n changing something -/
theorem iRng1M {tg : Expr} {a : Expr} {f : LM} {gb : List (Option Nat)} {p pos : Pos} (hg : Gl X "range") (hm : X.mg "range" = none) (ha : PA X [a] (aM X.K Γ Γ' [.sh] gb f)) (hs : starEach [a] X.env = [(false, eval a X.env)] := by rfl) :
    PI X tg (.Call (.Name "range" p) [a] [] pos) (tI X.K Γ Γ' (lOfM rng1 f)) := (pi_range1 hg hm ha hs).imp fun σ H R ⟨δ, Z, F, ds, δ', ok, e, k⟩ => by
  obtain ⟨⟨as, δ1⟩, e3, e1⟩ := Option.bind_eq_some_iff.mp e
  obtain ⟨ds', e4, e2⟩ := Option.map_eq_some_iff.mp e1
  cases e2
  replace e4 : rng1 as = some ds := e4
  unfold rng1 at e4
  split at e4
  · split at e4
    · rename_i j hj
      cases e4
      refine ⟨δ, Z, F, _, _, ok, e3, fun vs H1 Z1 F1 g s1 ok1 r1 nd1 dz1 gv => ?_⟩
      obtain ⟨v, rfl, sv⟩ := vs1 r1
      have := sv.intOf
      subst this
      exact ⟨j, rfl, hj.1, hj.2, k _ H1 Z1 F1 (s1.sub fun a h => List.mem_append_left _ h) ok1 wks_rng⟩
    · cases e4
  · cases e4
def enumD (k : Nat) : List D → List D
  | [] => []
  | d :: ds => .tuple [.int k, d] :: enumD (k + 1) ds
theorem enumD_len : ∀ (k : Nat) (ds : List D), (enumD k ds).length = ds.length
  | _, [] => rfl
  | k, _ :: ds => by simp [enumD, enumD_len (k + 1) ds]
theorem enumD_get : ∀ (ds : List D) (k i : Nat) (e : D), (enumD k ds)[i]? = some e → ∃ d, ds[i]? = some d ∧ e = .tuple [.int ((k + i : Nat) : Int), d]
  | [], _, _, _, h => by simp [enumD] at h
  | d :: ds, k, 0, e, h => by simp [enumD] at h; exact ⟨d, rfl, by rw [← h]; simp⟩
  | d :: ds, k, i + 1, e, h => by
    obtain ⟨d', h1, h2⟩ := enumD_get ds (k + 1) i e (by simpa [enumD] using h)
    exact ⟨d', by simpa using h1, by rw [h2, show k + 1 + i = k + (i + 1) by omega]⟩
theorem wks_pair {J : It} {xs : List V} {ds : List D} {G : Hp → Prop} (w : Walk J ds.length G (YPair (fun i => some (.int (i : Nat))) (fun i => xs[i]?))) (hG : ∀ H2 Z2, Lat H Z H2 Z2 → G H2) (r : ShA K H Z xs ds) : Wks K J (enumD 0 ds) H Z := by
  refine ⟨G, _, by rw [enumD_len]; exact w, hG, fun i H2 Z2 x H3 e l y he => ?_⟩
  obtain ⟨d, hd, rfl⟩ := enumD_get _ _ _ _ he
  obtain ⟨T, x1, x2, rfl, nT, rfl, e1, e2⟩ := y
  obtain ⟨v, hv, hs⟩ := (l.shA r).get hd
  have e2' : xs[i]? = some x2 := e2
  rw [hv] at e2'
  cases e2'
  cases e1
  refine ⟨Z2, Ext.new nT, .tup upd_same (.cons ?_ (.cons (hs.ext (Ext.new nT)) .nil))⟩
  rw [Nat.zero_add]
  exact .int _
def lEnum (f : LF) : LF := fun δ => (f δ).bind fun ds => match ds with | [d] => (asSeq d).map (enumD 0) | _ => none
theorem iEnum {a : Expr} {f : LF} {p pos tpos : Pos} {elts : List Expr} {kk : Nat} (hg : Gl X "enumerate") (hm : X.mg "enumerate" = none) (ha : PA X [a] (aP X.K Γ [.sh] f)) (hs : starEach [a] X.env = [(false, eval a X.env)] := by rfl) :
    PI X (.Tuple elts kk tpos) (.Call (.Name "enumerate" p) [a] [] pos) (tIP X.K Γ (lEnum f)) := ((pi_enum hg hm ha hs).or (pi_enumT hg hm ha hs)).imp fun σ H R ⟨δ, Z, F, ds, ok, e, k⟩ => by
  obtain ⟨as, e3, e4⟩ := Option.bind_eq_some_iff.mp e
  split at e4
  · rename_i d
    obtain ⟨es, e5, e6⟩ := Option.map_eq_some_iff.mp e4
    cases e6
    cases d with
    | list es' =>
      cases e5
      refine .inl ⟨δ, Z, F, _, ok, e3, fun vs H1 Z1 g s1 r1 => ?_⟩
      obtain ⟨v, rfl, sv⟩ := vs1 r1
      cases sv with
      | lst z r => exact ⟨_, _, rfl, z.sql, k _ H1 Z1 s1 (wks_pair (by rw [← r.len]; exact walk_enum) (fun H2 Z2 l => l.fzl z) r)⟩
    | tuple es' =>
      cases e5
      refine .inr ⟨δ, Z, F, _, ok, e3, fun vs H1 Z1 g s1 r1 => ?_⟩
      obtain ⟨v, rfl, sv⟩ := vs1 r1
      cases sv with
      | tup h r => exact ⟨_, _, rfl, SqT.of h, k _ H1 Z1 s1 (wks_pair (by rw [← r.len]; exact walk_enumT) (fun H2 Z2 l => l.sqT (SqT.of h)) r)⟩
    | _ => cases e5
  · cases e4

/-! ### targets -/
def gSet (i : Nat) : D → List D → Option (List D) := fun d δ => some (δ.set i d)
def gSets : List Nat → List D → List D → Option (List D)
  | [], [], δ => some δ
  | i :: is, d :: ds, δ => gSets is ds (δ.set i d)
  | _, _, _ => none
def gTupD (is : List Nat) : D → List D → Option (List D) := fun d δ => match d with | .tuple ds => gSets is ds δ | _ => none
def setsT : List Nat → List T → List T
  | [], Γ => Γ
  | i :: is, Γ => setsT is (Γ.set i .sh)
theorem hName {i : Nat} {x : Str} {pos : Pos} (hN : X.N.Nodup) (hi : X.N[i]? = some x) (hx : Loc X.env.scope x) (hl : i < Γ.length) (hf : X.fn x = true ∨ X.env.scope.names.lookup x = some .local := by first | exact .inl rfl | exact .inr rfl | assumption) :
    PG X (.Name x pos) (tG X.K Γ (Γ.set i .sh) [i] (gSet i)) := (pg_name hN hi hx hf).imp fun v σ H Q ⟨δ, Z, F, d, δ1, ok, sv, e, k⟩ => by
  cases e
  obtain ⟨F', o, sb⟩ := ok.set hl (.sh sv) (by simpa using ok.nd) (fun _ q => nomatch q)
  exact k _ F' o (fun a h => by simpa using sb a h) (by simp) fun j hj => by rw [List.getElem?_set_ne (fun z => hj (by simp [z]))]
def tGs (K : PySem.W.Frag) (Γ Γ1 : List T) (is : List Nat) : TGs := fun vs σ H Q => ∃ δ Z F ds δ1, Ok K Γ σ δ H Z F ∧ ShA K H Z vs ds ∧ gSets is ds δ = some δ1 ∧
  ∀ σ1 F1, Ok K Γ1 σ1 δ1 H Z F1 → (∀ a ∈ F1, a ∈ F) → σ1.length = σ.length → (∀ j, j ∉ is → σ1[j]? = σ[j]?) → Q σ1 H
theorem _root_.L2.PGs.imp {ts : List Expr} {t t' : TGs} (h : PGs X ts t) (i : ∀ v σ H Q, t' v σ H Q → t v σ H Q) : PGs X ts t' := ⟨fun pins s σ H v u Q I r q => h.run pins s σ H v u Q I r (i _ _ _ _ q)⟩
theorem hNil : PGs X [] (tGs X.K Γ Γ []) := pgs_nil.imp fun vs σ H Q ⟨δ, Z, F, ds, δ1, ok, sv, e, k⟩ => by
  cases ds with
  | nil => cases sv; cases e; exact ⟨rfl, k σ F ok (fun _ h => h) rfl fun _ _ => rfl⟩
  | cons d ds => cases e
theorem hCons {i : Nat} {is : List Nat} {t : Expr} {ts : List Expr} (h1 : PG X t (tG X.K Γ (Γ.set i .sh) [i] (gSet i))) (h2 : PGs X ts (tGs X.K (Γ.set i .sh) Γ2 is))
    (hs : (assignEach (t :: ts) X.env).map (·.2) = assign t X.env :: (assignEach ts X.env).map (·.2) := by rfl) : PGs X (t :: ts) (tGs X.K Γ Γ2 (i :: is)) := (pgs_cons h1 h2 hs).imp fun vs σ H Q ⟨δ, Z, F, ds, δ1, ok, sv, e, k⟩ => by
  cases ds with
  | nil => cases e
  | cons d ds =>
    cases sv with
    | cons h r => exact ⟨_, _, rfl, δ, Z, F, d, _, ok, h, rfl, fun σ1 F1 ok1 sb1 l1 j1 => ⟨_, Z, F1, ds, δ1, ok1, r, e, fun σ2 F2 ok2 sb2 l2 j2 =>
        k σ2 F2 ok2 (fun a h => sb1 a (sb2 a h)) (l2.trans l1) fun j hj => (j2 j fun z => hj (List.mem_cons_of_mem _ z)).trans (j1 j fun z => hj (by simp only [List.mem_singleton] at z; simp [z]))⟩⟩
theorem hTup {es : List Expr} {k : Nat} {is : List Nat} {pos : Pos} (hc : X.calm = true) (h : PGs X es (tGs X.K Γ Γ2 is)) (hn : (assignEach es X.env).length = is.length := by rfl) (hst : (assignEach es X.env).findIdx? (·.1) = none := by rfl) :
    PG X (.Tuple es k pos) (tG X.K Γ Γ2 is (gTupD is)) := (pg_tup hc h hn hst).imp fun v σ H Q ⟨δ, Z, F, d, δ1, ok, sv, e, k⟩ => by
  unfold gTupD at e
  split at e
  · cases sv with
    | tup hs r =>
      refine ⟨_, _, rfl, SqT.of hs, ?_, δ, Z, F, _, δ1, ok, r, e, k⟩
      have : ∀ (is : List Nat) (ds : List D) (δ δ1 : List D), gSets is ds δ = some δ1 → ds.length = is.length := by
        intro is
        induction is with
        | nil => intro ds δ δ1 h; cases ds with | nil => rfl | cons => cases h
        | cons i is ih => intro ds δ δ1 h; cases ds with | nil => cases h | cons d ds => simp [ih _ _ _ h]
      rw [r.len]
      exact this _ _ _ _ e
  · cases e

/-! ### for -/
def forL (tg : D → List D → Option (List D)) (b : SF) : List D → List D → Option Out
  | [], δ => some (.nx δ)
  | x :: xs, δ => (tg x δ).bind fun δ1 => (b δ1).bind fun o => match o with
    | .nx δ' => forL tg b xs δ'
    | .ct δ' => forL tg b xs δ'
    | .bk δ' => some (.nx δ')
    | .rt d δ' => some (.rt d δ')
def sFor (src : LF) (tg : D → List D → Option (List D)) (b : SF) : SF := fun δ => (src δ).bind fun ds => forL tg b ds δ
def sForM (src : LM) (tg : D → List D → Option (List D)) (b : SF) : SF := fun δ => (src δ).bind fun p => forL tg b p.1 p.2
def noIx (r : List T) (ix : List Nat) : Bool := ix.all fun i => isNo r i
theorem fix_ix {r : List T} {ix : List Nat} (h : noIx r ix = true) (hj : ∀ j, j ∉ ix → σ1[j]? = σ[j]?) : Fix r σ σ1 := fun i t hi n => hj i fun z => by
  have := List.all_eq_true.mp h i z
  unfold isNo at this
  rw [hi] at this
  exact n (by simpa using this)
theorem sForM_of {iter tg : Expr} {body : List Stmt} {pos : Pos} {ix : List Nat} {src : LM} {tgf : D → List D → Option (List D)} {b : SF} (hp : PassesOwn (model X.prog X.w) X.A X.env X.xe) (hc : X.calm = true) (hi : PI X tg iter (tI X.K Γ Γ' src)) (hg : PG X tg (tG X.K Γ' Γ1 ix tgf))
    (hb : PSs X body (tS X.K Γ1 ⟨Γ', Γ', Γ', er, et⟩ b)) (hr : noIx er ix = true) (hs : ∀ x, foldedSetIterable iter X.env x = pure x := by intro _; rfl) : PS X (.For tg iter body [] pos) (tS X.K Γ ⟨Γ', eb, ec, er, et⟩ (sForM src tgf b)) :=
  (ps_for hp hc hi hg hb hs).imp fun W σ H ⟨δ, Z, F, out, ok, e, p⟩ => by
  obtain ⟨⟨ds, δ0⟩, e1, e2⟩ := Option.bind_eq_some_iff.mp e
  refine ⟨δ, Z, F, ds, δ0, ok, e1, fun J H0 Z0 F0 s0 ok0 wk => ?_⟩
  obtain ⟨G, Y, walk, hG, hY⟩ := wk
  refine for_it walk (fun i σi Hi => ∃ δi Zi Fi, Ok X.K Γ' σi δi Hi Zi Fi ∧ forL tgf b (ds.drop i) δi = some out ∧ Stp H0 Z0 F0 Hi Zi Fi ∧ Fix er σ σi) ⟨δ0, Z0, F0, ok0, e2, .refl, .refl _ _⟩ ?_ ?_ ?_
  · rintro i σi Hi hi ⟨δi, Zi, Fi, oki, ei, si, fi⟩
    exact hG Hi Zi (ok0.lat si)
  · rintro i x σi Hi H3 hi ⟨δi, Zi, Fi, oki, ei, si, fi⟩ y
    obtain ⟨d, hd⟩ : ∃ d, ds[i]? = some d := ⟨ds[i], by simp [hi]⟩
    obtain ⟨Z3, s3, sx⟩ := hY i Hi Zi x H3 d (ok0.lat si) y hd
    have hdr : ds.drop i = d :: ds.drop (i + 1) := by
      rw [List.drop_eq_getElem_cons hi]
      have : ds[i] = d := by simpa [hi] using hd
      rw [this]
    rw [hdr] at ei
    obtain ⟨δ1, e3, e4⟩ := Option.bind_eq_some_iff.mp ei
    obtain ⟨o, e5, e6⟩ := Option.bind_eq_some_iff.mp e4
    refine ⟨δi, Z3, Fi, d, δ1, oki.ext s3, sx, e3, fun σ1 F1 ok1 sb1 l1 j1 => ⟨δ1, Z3, F1, o, ok1, e5, ?_⟩⟩
    have s4 : Stp H0 Z0 F0 H3 Z3 F1 := (si.trans s3.stp).sub sb1
    have f1 : Fix er σ σ1 := fi.trans (fix_ix hr j1)
    cases o with
    | nx δ' => exact fun σ' H' Z' F' s' o' fx => ⟨δ', Z', F', o', e6, s4.trans s', f1.trans fx⟩
    | ct δ' => exact fun σ' H' Z' F' s' o' fx => ⟨δ', Z', F', o', e6, s4.trans s', f1.trans fx⟩
    | bk δ' => cases e6; exact fun σ' H' Z' F' s' o' fx => p σ' H' Z' F' (s0.trans (s4.trans s')) o' (f1.trans fx)
    | rt d δ' => cases e6; exact fun v σ' H' Z' F' g s' o' fx r nd dz => p v σ' H' Z' F' g (s0.trans (s4.trans s')) o' (f1.trans fx) r nd dz
  · rintro σi Hi ⟨δi, Zi, Fi, oki, ei, si, fi⟩
    rw [List.drop_length] at ei
    cases ei
    exact p σi Hi Zi Fi (s0.trans si) oki fi
theorem sFor_eq (src : LF) (tg : D → List D → Option (List D)) (b : SF) : sFor src tg b = sForM (lmOf src) tg b := by
  funext δ
  unfold sFor sForM lmOf
  cases src δ <;> rfl
theorem zForM {iter tg : Expr} {body : List Stmt} {pos : Pos} {ix : List Nat} {src : LM} {tgf : D → List D → Option (List D)} {b : SF} (hp : PassesOwn (model X.prog X.w) X.A X.env X.xe) (hc : X.calm = true) (hi : PI X tg iter (tI X.K Γ Γ' src)) (hg : PG X tg (tG X.K Γ' Γ1 ix tgf))
    (hb : PSs X body (tS X.K Γ1 ⟨Γ', Γ', Γ', er, et⟩ b)) (hr : noIx er ix = true) (hs : ∀ x, foldedSetIterable iter X.env x = pure x := by intro _; rfl) : PS X (.For tg iter body [] pos) (tS X.K Γ ⟨Γ', eb, ec, er, et⟩ (sForM src tgf b)) := sForM_of hp hc hi hg hb hr hs
theorem zFor {iter tg : Expr} {body : List Stmt} {pos : Pos} {ix : List Nat} {src : LF} {tgf : D → List D → Option (List D)} {b : SF} (hp : PassesOwn (model X.prog X.w) X.A X.env X.xe) (hc : X.calm = true) (hi : PI X tg iter (tIP X.K Γ src)) (hg : PG X tg (tG X.K Γ Γ1 ix tgf))
    (hb : PSs X body (tS X.K Γ1 ⟨Γ, Γ, Γ, er, et⟩ b)) (hr : noIx er ix = true) (hs : ∀ x, foldedSetIterable iter X.env x = pure x := by intro _; rfl) : PS X (.For tg iter body [] pos) (tS X.K Γ ⟨Γ, eb, ec, er, et⟩ (sFor src tgf b)) := by
  rw [sFor_eq]; exact sForM_of hp hc (iM hi) hg hb hr hs
end
end Pv

set_option Elab.async false
set_option linter.all false
set_option maxRecDepth 100000
/-! Pv9: list comprehensions. -/
namespace Pv
open PySem PySem.Spec PyProof.Rows L2
def cmpM (tg : D → List D → Option (List D)) (c : BM) (e : EM) : List D → List D → Option (List D × List D)
  | [], δ => some ([], δ)
  | x :: xs, δ => (tg x δ).bind fun δ1 => (c δ1).bind fun p => if p.1 then (e p.2).bind fun q => (cmpM tg c e xs q.2).bind fun r => some (q.1 :: r.1, r.2) else cmpM tg c e xs p.2
def xCmpM (src : LM) (tg : D → List D → Option (List D)) (c : BM) (e : EM) : EM := fun δ => (src δ).bind fun p => if p.1.length ≤ sizeLine then (cmpM tg c e p.1 p.2).map fun r => (.list r.1, r.2) else none
def cmpP (tg : D → List D → Option (List D)) (c : BF) (e : EF) (δ : List D) : List D → Option (List D)
  | [] => some []
  | x :: xs => (tg x δ).bind fun δ1 => (c δ1).bind fun b => if b then (e δ1).bind fun y => (cmpP tg c e δ xs).bind fun r => some (y :: r) else cmpP tg c e δ xs
def xCmp (src : LF) (tg : D → List D → Option (List D)) (c : BF) (e : EF) : EF := fun δ => (src δ).bind fun ds => if ds.length ≤ sizeLine then (cmpP tg c e δ ds).map .list else none
def bYes : BF := fun _ => some true
section
variable {K : PySem.W.Frag} {X : Cx} {Γ Γ' Γ1 Γ2 Γ3 : List T} {H H' H1 H2 H3 : Hp} {Z Z' Z1 Z2 Z3 : FzT} {F F' F1 F2 : List Addr} {σ σ' σ1 : L2.St} {δ δ' : List D} {E : TyE} {en eb ec er : List T} {et : T} {W W' : Ends}
theorem _root_.L2.PTs.imp {ifs : List Expr} {t t' : TT} (h : PTs X ifs t) (i : ∀ σ H Q, t' σ H Q → t σ H Q) : PTs X ifs t' := ⟨fun pins s σ H Q I q => h.run pins s σ H Q I (i _ _ _ q)⟩
theorem kNil : PTs X [] (bP X.K Γ bYes) := pts_nil.imp fun σ H Q ⟨δ, Z, F, b, ok, e, k⟩ => by cases e; exact k H Z .refl
theorem kOne {c : Expr} {f : BF} (h : PT X c (bP X.K Γ f)) : PTs X [c] (bP X.K Γ f) := pts_one h
theorem kNilM : PTs X [] (bM X.K Γ Γ (bMOf bYes)) := pts_nil.imp fun σ H Q ⟨δ, Z, F, b, δ', ok, e, k⟩ => by cases e; exact k H Z F .refl ok
theorem kOneM {c : Expr} {f : BM} (h : PT X c (bM X.K Γ Γ' f)) : PTs X [c] (bM X.K Γ Γ' f) := pts_one h
theorem Env.agree : ∀ {Γ : List T} {σ σ' : L2.St} {δ : List D} {F : List Addr}, Env K H Z Γ σ δ F → σ'.length = σ.length → (∀ (i : Nat) (t : T), Γ[i]? = some t → t ≠ .no → σ'[i]? = σ[i]?) → Env K H Z Γ σ' δ F
  | _, _, [], _, _, .nil, _, _ => .nil
  | _, _, _ :: _, _, _, .nil, l, _ => by simp at l
  | _, _, [], _, _, .no _, l, _ => by simp at l
  | _, _, [], _, _, .cons _ _, l, _ => by simp at l
  | _, _, v :: σ', _, _, .no r, l, h => .no (Env.agree r (by simpa using l) fun i t hi n => by simpa using h (i + 1) t (by simpa using hi) n)
  | t :: _, _, v :: σ', _, _, .cons q r, l, h => by
    have ih := Env.agree r (σ' := σ') (by simpa using l) fun i t hi n => by simpa using h (i + 1) t (by simpa using hi) n
    by_cases hn : t = .no
    · subst hn
      cases q
      exact .no ih
    · have e := h 0 t rfl hn
      rw [List.getElem?_cons_zero, List.getElem?_cons_zero] at e
      cases e
      exact .cons q ih
theorem Ok.agree (o : Ok K Γ σ δ H Z F) (hl : σ'.length = σ.length) (h : ∀ (i : Nat) (t : T), Γ[i]? = some t → t ≠ .no → σ'[i]? = σ[i]?) : Ok K Γ σ' δ H Z F := ⟨o.env.agree hl h, o.nd, o.dz, o.zs⟩
theorem wipe_in : ∀ {vs : List Nat} {σ : L2.St} {j : Nat}, j ∈ vs → j < σ.length → (wipe σ vs)[j]? = some none
  | [], _, _, h, _ => nomatch h
  | v :: vs, σ, j, h, l => by
    unfold wipe
    by_cases e : v = j
    · subst e
      rw [List.getElem?_set_self (by rw [wipe_length]; exact l)]
    · rw [List.getElem?_set_ne e]
      exact wipe_in ((List.mem_cons.mp h).resolve_left (Ne.symm e)) l
theorem wipe_eq {vs : List Nat} (hl : σ1.length = σ.length) (h : ∀ j, j ∉ vs → σ1[j]? = (wipe σ vs)[j]?) : wipe σ1 vs = wipe σ vs := by
  refine List.ext_getElem? fun j => ?_
  by_cases hj : j ∈ vs
  · by_cases l : j < σ.length
    · rw [wipe_in hj l, wipe_in hj (by omega)]
    · rw [List.getElem?_eq_none (by rw [wipe_length]; omega), List.getElem?_eq_none (by rw [wipe_length]; omega)]
  · rw [wipe_out hj, h j hj]
theorem no_at {r : List T} {ix : List Nat} (h : noIx r ix = true) {i : Nat} {t : T} (hi : r[i]? = some t) (n : t ≠ .no) : i ∉ ix := fun z => by
  have := List.all_eq_true.mp h i z
  unfold isNo at this
  rw [hi] at this
  exact n (by simpa using this)
theorem Ext.updNew {a : Addr} {o : HO} (s : Ext H Z H' Z') (h : H a = none) : Ext H Z (upd H' a o) Z' :=
  ⟨fun x u q n => by rw [upd_ne (ne_of_none q h)]; exact s.keep x u q n, s.mono, fun _ q => (nomatch q), s.frz, fun x q => upd_live (s.live x q), fun x q => (s.zs x q).imp id fun z => upd_live z⟩
theorem lcC {t : T} {vs : List Nat} {src : LF} {tgf : D → List D → Option (List D)} {c : BF} {f : EF} (hno : noIx Γ vs = true) : ∀ (σ : L2.St) (H : Hp) (Q : VK), tC K Γ (.ol t) (xCmp src tgf c f) σ H Q → tLc (tIP K Γ src) (tG K Γ Γ1 vs tgf) (bP K Γ1 c) (tC K Γ1 t f) vs σ H Q := fun σ H Q ⟨δ, Z, F, d, ok, e, k⟩ => by
  obtain ⟨ds, e1, e2⟩ := Option.bind_eq_some_iff.mp e
  split at e2
  · rename_i hsz
    obtain ⟨fin, e3, e4⟩ := Option.map_eq_some_iff.mp e2
    cases e4
    refine ⟨δ, Z, F, ds, ok, e1, fun J H0 Z0 s0 wk D hD => ?_⟩
    obtain ⟨G, Y, walk, hG, hY⟩ := wk
    have ok0 := ok.ext s0
    have hDn : D ∉ F := fun z => ok0.live z hD
    refine lc_it walk (fun i Hi => ∃ Zi acc accD g rest, Ext H0 Z0 Hi Zi ∧ Hi D = some (.lst acc) ∧ RepA K Hi Zi t acc accD g ∧ (D :: g).Nodup ∧ (∀ a ∈ D :: g, H0 a = none ∧ ¬ Zi a) ∧ acc.length ≤ i ∧ cmpP tgf c f δ (ds.drop i) = some rest ∧ accD ++ rest = fin)
      ⟨Z0, [], [], [], fin, Ext.new hD, upd_same, .nil, by simp, fun a ha => ?_, Nat.le_refl _, e3, rfl⟩ ?_ ?_ ?_
    · have ea : a = D := by simpa using ha
      subst ea
      exact ⟨hD, fun hz => ok0.zs a hz hD⟩
    · rintro i Hi hi ⟨Zi, acc, accD, g, rest, si, _⟩
      exact hG Hi Zi ⟨[], [], si, Mu.nil, (fun _ q => nomatch q)⟩
    · rintro i x Hi H3 hi ⟨Zi, acc, accD, g, rest, si, hDi, ra, nd, dz, hl, er, ea⟩ y
      obtain ⟨d, hd⟩ : ∃ d, ds[i]? = some d := ⟨ds[i], by simp [hi]⟩
      obtain ⟨Z3, s3, sx⟩ := hY i Hi Zi x H3 d ⟨[], [], si, Mu.nil, (fun _ q => nomatch q)⟩ y hd
      have hdr : ds.drop i = d :: ds.drop (i + 1) := by
        rw [List.drop_eq_getElem_cons hi]
        have : ds[i] = d := by simpa [hi] using hd
        rw [this]
      rw [hdr] at er
      obtain ⟨δ1, e5, e6⟩ := Option.bind_eq_some_iff.mp er
      obtain ⟨b, e7, e8⟩ := Option.bind_eq_some_iff.mp e6
      have okw : Ok K Γ (wipe σ vs) δ H3 Z3 F := (ok0.ext (si.trans s3)).agree (wipe_length _ _) fun i t hi n => wipe_out (no_at hno hi n)
      refine ⟨δ, Z3, F, d, δ1, okw, sx, e5, fun σ1 F1 ok1 sb1 l1 j1 => ⟨wipe_eq (l1.trans (wipe_length _ _)) j1, δ1, Z3, F1, b, ok1, e7, fun H4 Z4 s4 => ?_⟩⟩
      cases b with
      | true =>
        rw [if_pos rfl] at e8
        refine iteT ?_
        obtain ⟨yd, e9, e10⟩ := Option.bind_eq_some_iff.mp e8
        obtain ⟨r, e11, e12⟩ := Option.bind_eq_some_iff.mp e10
        cases e12
        refine ⟨δ1, Z4, F1, yd, ok1.ext s4, e9, fun v H5 Z5 g5 s5 r5 nd5 dz5 => ?_⟩
        have s35 : Ext Hi Zi H5 Z5 := s3.trans (s4.trans s5)
        have hD5 : H5 D = some (.lst acc) := s35.keep D _ hDi (by simp)
        have ra5 := ra.ext s35
        have su : Stp H5 Z5 [D] (upd H5 D (.lst (acc ++ [v]))) Z5 [D] := Stp.upd (by simp)
        have mu : Mu H5 [D] := Mu.one hD5
        have h4D : H4 D = some (.lst acc) := (s3.trans s4).keep D _ hDi (by simp)
        have nDz : ¬ Z5 D := fun hz => by
          rcases s35.frz D hz with q | q | q
          · exact (dz D List.mem_cons_self).2 q
          · cases q
          · rw [hDi] at q; cases q
        have nDg5 : D ∉ g5 := fun z => by rw [(dz5 D z).1] at h4D; cases h4D
        have nDg : D ∉ g := (List.nodup_cons.mp nd).1
        have nS : ∀ x, x ∈ g ∨ x ∈ g5 → x ∉ [D] := fun x hx hz => by
          simp only [List.mem_singleton] at hz
          subst hz
          exact hx.elim nDg nDg5
        refine ⟨acc, hD5, by omega, Z5, acc ++ [v], accD ++ [yd], g ++ g5, r, (si.trans s35).updNew hD, upd_same,
          (ra5.app (RepA.one r5)).step su mu (fun x hx => by simp only [List.mem_singleton] at hx; rw [hx]; exact nDz) (fun x hx => nS x (List.mem_append.mp hx)), ?_, fun a ha => ?_, by simp; omega, e11, by simp [List.append_assoc, ← ea]⟩
        · refine List.nodup_cons.mpr ⟨fun z => (List.mem_append.mp z).elim nDg nDg5, nd_of (List.nodup_cons.mp nd).2 nd5 fun a ha hb => ?_⟩
          exact (ra.ext (s3.trans s4)).mu.some hb (dz5 a ha).1
        · have old : ∀ a, a ∈ D :: g → H0 a = none ∧ ¬ Z5 a := fun a h => ⟨(dz a h).1, fun hz => by
            have hn : Hi a ≠ none := by
              rcases List.mem_cons.mp h with h | h
              · rw [h, hDi]; intro z; cases z
              · exact ra.mu.some h
            rcases s35.frz a hz with q | q | q
            · exact (dz a h).2 q
            · cases q
            · exact hn q⟩
          rcases List.mem_cons.mp ha with h | h
          · exact old a (by simp [h])
          · rcases List.mem_append.mp h with h | h
            · exact old a (by simp [h])
            · exact ⟨Same.free (si.trans (s3.trans s4)).same (dz5 a h).1, (dz5 a h).2⟩
      | false =>
        rw [if_neg Bool.false_ne_true] at e8
        refine iteF ?_
        have s34 : Ext Hi Zi H4 Z4 := s3.trans s4
        refine ⟨Z4, acc, accD, g, rest, si.trans s34, s34.keep D _ hDi (by simp), ra.ext s34, nd, fun a h => ⟨(dz a h).1, fun hz => ?_⟩, by omega, e8, ea⟩
        have hn : Hi a ≠ none := by
          rcases List.mem_cons.mp h with h | h
          · rw [h, hDi]; intro z; cases z
          · exact ra.mu.some h
        rcases s34.frz a hz with q | q | q
        · exact (dz a h).2 q
        · cases q
        · exact hn q
    · rintro Hi ⟨Zi, acc, accD, g, rest, si, hDi, ra, nd, dz, hl, er, ea⟩
      rw [List.drop_length] at er
      cases er
      rw [List.append_nil] at ea
      subst ea
      exact k (.ref D) Hi Zi (D :: g) (s0.trans si) (.ol hDi ra) nd fun a ha => ⟨Same.free s0.same (dz a ha).1, (dz a ha).2⟩
  · cases e2
theorem cCmp0 {t : T} {elt tg iter : Expr} {ifs : List Expr} {scope : Scope} {own : List (Str × Nat)} {pos : Pos} {src : LF} {tgf : D → List D → Option (List D)} {c : BF} {f : EF} (hc : X.calm = true) (hN : X.N.Nodup) (hi : PI X tg iter (tIP X.K Γ src)) (ok : BlkOk X.N X.env.scope scope own)
    (hg : ∀ (s : Shared) (H : Hp) (C : Addr) (cl : List (Str × Addr)) (fp : List Addr), PG (X.blk s H scope (compEnvC scope cl C X.env) fp) tg (tG X.K Γ Γ1 (own.map (·.2)) tgf)) (ht : ∀ (s : Shared) (H : Hp) (C : Addr) (cl : List (Str × Addr)) (fp : List Addr), PTs (X.blk s H scope (compEnvC scope cl C X.env) fp) ifs (bP X.K Γ1 c))
    (he : ∀ (s : Shared) (H : Hp) (C : Addr) (cl : List (Str × Addr)) (fp : List Addr), PE (X.blk s H scope (compEnvC scope cl C X.env) fp) elt (tC X.K Γ1 t f)) (hno : noIx Γ (own.map (·.2)) = true) (hs : ∀ x, foldedSetIterable iter X.env x = pure x := by intro _; rfl) :
    PE X (.ListComp elt [⟨tg, iter, ifs, 0⟩] scope pos) (tC X.K Γ (.ol t) (xCmp src tgf c f)) := (pe_lc hc hN hi ok hg ht he hs).imp (lcC hno)
theorem lcM {t : T} {vs : List Nat} {src : LM} {tgf : D → List D → Option (List D)} {c : BM} {f : EM} (hno : noIx Γ' vs = true) (hw2 : wk Γ2 Γ' = true) (hw3 : wk Γ3 Γ' = true) : ∀ (σ : L2.St) (H : Hp) (Q : VK), tM K Γ Γ' (.ol t) (xCmpM src tgf c f) σ H Q → tLc (tI K Γ Γ' src) (tG K Γ' Γ1 vs tgf) (bM K Γ1 Γ2 c) (tM K Γ2 Γ3 t f) vs σ H Q := fun σ H Q ⟨δ, Z, F, d, δ', ok, e, k⟩ => by
  obtain ⟨⟨ds, δ0⟩, e1, e2⟩ := Option.bind_eq_some_iff.mp e
  split at e2
  · rename_i hsz
    replace hsz : ds.length ≤ sizeLine := hsz
    obtain ⟨⟨fin, δf⟩, e3, e4⟩ := Option.map_eq_some_iff.mp e2
    cases e4
    refine ⟨δ, Z, F, ds, δ0, ok, e1, fun J H0 Z0 F0 s0 ok0 wk D hD => ?_⟩
    obtain ⟨G, Y, walk, hG, hY⟩ := wk
    have hDF : D ∉ F0 := fun z => ok0.live z hD
    refine lc_it walk (fun i Hi => ∃ δi Zi Fi acc accD g rest, Ok K Γ' σ δi Hi Zi Fi ∧ Hi D = some (.lst acc) ∧ RepA K Hi Zi t acc accD g ∧ (Fi ++ (D :: g)).Nodup ∧ (∀ a ∈ D :: g, ¬ Zi a) ∧ Stp H0 Z0 F0 Hi Zi (Fi ++ (D :: g)) ∧ acc.length ≤ i ∧
        cmpM tgf c f (ds.drop i) δi = some (rest, δf) ∧ accD ++ rest = fin)
      ⟨δ0, Z0, F0, [], [], [], fin, ok0.ext (Ext.new hD), upd_same, .nil, ?_, fun a ha => ?_, ?_, Nat.le_refl _, e3, rfl⟩ ?_ ?_ ?_
    · exact nd_of ok0.nd (by simp) fun a ha => by
        have ea : a = D := by simpa using ha
        rw [ea]; exact hDF
    · have ea : a = D := by simpa using ha
      subst ea
      exact fun hz => ok0.zs a hz hD
    · have s := Ext.new (Z := Z0) (o := HO.lst []) hD
      exact ⟨fun x o q n => s.keep x o q (by simp), s.mono, fun a ha => by
        rcases List.mem_append.mp ha with h | h
        · exact .inl h
        · have ea : a = D := by simpa using h
          rw [ea]; exact .inr hD, (s.stp (F := F0)).frz, s.live, s.zs⟩
    · rintro i Hi hi ⟨δi, Zi, Fi, acc, accD, g, rest, oki, _, _, _, _, si, _⟩
      exact hG Hi Zi (ok0.lat si)
    · rintro i x Hi H3 hi ⟨δi, Zi, Fi, acc, accD, g, rest, oki, hDi, ra, nd, dz, si, hl, er, ea⟩ y
      obtain ⟨d, hd⟩ : ∃ d, ds[i]? = some d := ⟨ds[i], by simp [hi]⟩
      obtain ⟨Z3, s3, sx⟩ := hY i Hi Zi x H3 d (ok0.lat si) y hd
      have hdr : ds.drop i = d :: ds.drop (i + 1) := by
        rw [List.drop_eq_getElem_cons hi]
        have : ds[i] = d := by simpa [hi] using hd
        rw [this]
      rw [hdr] at er
      obtain ⟨δ1, e5, e6⟩ := Option.bind_eq_some_iff.mp er
      obtain ⟨⟨b, δ2⟩, e7, e8⟩ := Option.bind_eq_some_iff.mp e6
      have okw : Ok K Γ' (wipe σ vs) δi H3 Z3 Fi := (oki.ext s3).agree (wipe_length _ _) fun i t hi n => wipe_out (no_at hno hi n)
      have muB : Mu Hi (D :: g) := fun a ha => by
        rcases List.mem_cons.mp ha with h | h
        · rw [h]; exact ⟨_, hDi, rfl⟩
        · exact ra.mu a h
      have apB : ∀ a ∈ D :: g, a ∉ Fi := nd_apart nd
      refine ⟨δi, Z3, Fi, d, δ1, okw, sx, e5, fun σ1 F1 ok1 sb1 l1 j1 => ⟨wipe_eq (l1.trans (wipe_length _ _)) j1, δ1, Z3, F1, b, δ2, ok1, e7, fun H4 Z4 F4 s4 ok4 => ?_⟩⟩
      have s13 : Stp Hi Zi Fi H3 Z3 F1 := s3.stp.sub sb1
      have agr : ∀ (i : Nat) (t : T), Γ'[i]? = some t → t ≠ .no → σ[i]? = σ1[i]? := fun i t hi n => by rw [j1 i (no_at hno hi n), wipe_out (no_at hno hi n)]
      have lagr : σ.length = σ1.length := by rw [l1, wipe_length]
      cases b with
      | true =>
        rw [if_pos (show (true, δ2).1 = true from rfl)] at e8
        refine iteT ?_
        obtain ⟨⟨yd, δ3⟩, e9, e10⟩ := Option.bind_eq_some_iff.mp e8
        obtain ⟨⟨r, δr⟩, e11, e12⟩ := Option.bind_eq_some_iff.mp e10
        cases e12
        refine ⟨δ2, Z4, F4, yd, δ3, ok4, e9, fun v H5 Z5 F5 g5 s5 ok5 r5 nd5 dz5 => ?_⟩
        have S : Stp Hi Zi Fi H5 Z5 (F5 ++ g5) := s13.trans (s4.trans s5)
        have hD5 : H5 D = some (.lst acc) := S.keep D _ hDi (apB D List.mem_cons_self)
        have ra5 := ra.step S oki.mu oki.dz fun a h => apB a (List.mem_cons_of_mem _ h)
        have apB5 := S.apart muB apB
        have dzB5 := S.dzs muB dz apB
        have su : Stp H5 Z5 [D] (upd H5 D (.lst (acc ++ [v]))) Z5 [D] := Stp.upd (by simp)
        have mu : Mu H5 [D] := Mu.one hD5
        have dzD : ∀ x ∈ [D], ¬ Z5 x := fun x hx => by simp only [List.mem_singleton] at hx; rw [hx]; exact dzB5 D List.mem_cons_self
        have nDg : D ∉ g := (List.nodup_cons.mp (List.nodup_append.mp nd).2.1).1
        have nD5 : D ∉ F5 ++ g5 := apB5 D List.mem_cons_self
        have nS : ∀ x, x ∈ g ∨ x ∈ F5 ++ g5 → x ∉ [D] := fun x hx hz => by
          simp only [List.mem_singleton] at hz
          subst hz
          exact hx.elim nDg nD5
        obtain ⟨F6, ok6, sb6⟩ := Ok.weak hw3 ok5
        have ok7 : Ok K Γ' σ δ3 (upd H5 D (.lst (acc ++ [v]))) Z5 F6 := by
          have o1 : Ok K Γ' σ1 δ3 (upd H5 D (.lst (acc ++ [v]))) Z5 F6 := ⟨ok6.env.step su mu dzD fun x hx => nS x (.inr (List.mem_append_left _ (sb6.subset hx))), ok6.nd, ok6.dz, fun x hx => upd_live (ok6.zs x hx)⟩
          exact o1.agree lagr agr
        have ndg5 : (F6 ++ (D :: (g ++ g5))).Nodup := by
          have n1 : ((F5 ++ g5) ++ (D :: g)).Nodup := nd_of nd5 (List.nodup_append.mp nd).2.1 apB5
          have n2 : ((F6 ++ g5) ++ (D :: g)).Nodup := n1.sublist ((sb6.append (.refl _)).append (.refl _))
          refine List.Perm.nodup ?_ n2
          rw [List.append_assoc]
          refine List.Perm.append_left F6 ?_
          have := (List.perm_append_comm (l₁ := g5) (l₂ := D :: g))
          simpa using this
        refine ⟨acc, hD5, by omega, δ3, Z5, F6, acc ++ [v], accD ++ [yd], g ++ g5, r, ok7, upd_same,
          (ra5.app (RepA.one r5)).step su mu dzD (fun x hx => nS x ((List.mem_append.mp hx).imp id (List.mem_append_right _))), ndg5, fun a ha => ?_, ?_, by simp; omega, e11, by simp [List.append_assoc, ← ea]⟩
        · rcases List.mem_cons.mp ha with h | h
          · exact dzB5 a (by simp [h])
          · rcases List.mem_append.mp h with h | h
            · exact dzB5 a (by simp [h])
            · exact dz5 a h
        · refine (si.trans ((S.frame (g := D :: g)).trans (Stp.upd (a := D) (by simp)))).sub fun a ha => ?_
          simp only [List.mem_append, List.mem_cons] at ha ⊢
          rcases ha with h | h | h | h
          · exact .inl (.inl (sb6.subset h))
          · exact .inr (.inl h)
          · exact .inr (.inr h)
          · exact .inl (.inr h)
      | false =>
        rw [if_neg (show ¬ (false, δ2).1 = true from Bool.false_ne_true)] at e8
        refine iteF ?_
        have S : Stp Hi Zi Fi H4 Z4 F4 := s13.trans s4
        obtain ⟨F6, ok6, sb6⟩ := Ok.weak hw2 ok4
        refine ⟨δ2, Z4, F6, acc, accD, g, rest, ok6.agree lagr agr, S.keep D _ hDi (apB D List.mem_cons_self), ra.step S oki.mu oki.dz (fun a h => apB a (List.mem_cons_of_mem _ h)), ?_, S.dzs muB dz apB, ?_, by omega, e8, ea⟩
        · exact nd_of ok6.nd (List.nodup_append.mp nd).2.1 fun a ha hb => S.apart muB apB a ha (sb6.subset hb)
        · refine (si.trans (S.frame (g := D :: g))).sub fun a ha => ?_
          rcases List.mem_append.mp ha with h | h
          · exact List.mem_append_left _ (sb6.subset h)
          · exact List.mem_append_right _ h
    · rintro Hi ⟨δi, Zi, Fi, acc, accD, g, rest, oki, hDi, ra, nd, dz, si, hl, er, ea⟩
      rw [List.drop_length] at er
      cases er
      rw [List.append_nil] at ea
      subst ea
      exact k (.ref D) Hi Zi Fi (D :: g) (s0.trans si) oki (.ol hDi ra) nd dz
  · cases e2
theorem mCmp0 {t : T} {elt tg iter : Expr} {ifs : List Expr} {scope : Scope} {own : List (Str × Nat)} {pos : Pos} {src : LM} {tgf : D → List D → Option (List D)} {c : BM} {f : EM} (hc : X.calm = true) (hN : X.N.Nodup) (hi : PI X tg iter (tI X.K Γ Γ' src)) (ok : BlkOk X.N X.env.scope scope own)
    (hg : ∀ (s : Shared) (H : Hp) (C : Addr) (cl : List (Str × Addr)) (fp : List Addr), PG (X.blk s H scope (compEnvC scope cl C X.env) fp) tg (tG X.K Γ' Γ1 (own.map (·.2)) tgf)) (ht : ∀ (s : Shared) (H : Hp) (C : Addr) (cl : List (Str × Addr)) (fp : List Addr), PTs (X.blk s H scope (compEnvC scope cl C X.env) fp) ifs (bM X.K Γ1 Γ2 c))
    (he : ∀ (s : Shared) (H : Hp) (C : Addr) (cl : List (Str × Addr)) (fp : List Addr), PE (X.blk s H scope (compEnvC scope cl C X.env) fp) elt (tM X.K Γ2 Γ3 t f)) (hno : noIx Γ' (own.map (·.2)) = true) (hw2 : wk Γ2 Γ' = true) (hw3 : wk Γ3 Γ' = true) (hs : ∀ x, foldedSetIterable iter X.env x = pure x := by intro _; rfl) :
    PE X (.ListComp elt [⟨tg, iter, ifs, 0⟩] scope pos) (tM X.K Γ Γ' (.ol t) (xCmpM src tgf c f)) := (pe_lc hc hN hi ok hg ht he hs).imp (lcM hno hw2 hw3)
theorem zSetCmp {i : Nat} {y : Str} {py : Pos} {t : T} {elt tg iter : Expr} {ifs : List Expr} {scope : Scope} {own : List (Str × Nat)} {pos spos : Pos} {src : LF} {tgf : D → List D → Option (List D)} {c : BF} {f : EF} (hc : X.calm = true) (hN : X.N.Nodup) (hy : X.N[i]? = some y) (hyl : X.env.scope.names.lookup y = some .local)
    (hsw : swapsWith (.ListComp elt [⟨tg, iter, ifs, 0⟩] scope pos) (some (.Name y py)) spos.line X.env = pure true) (hi : PI X tg iter (tIP X.K Γ src)) (ok : BlkOk X.N X.env.scope scope own)
    (hg : ∀ (s : Shared) (H : Hp) (C : Addr) (cl : List (Str × Addr)) (fp : List Addr), PG (X.blk s H scope (compEnvC scope cl C X.env) fp) tg (tG X.K Γ Γ1 (own.map (·.2)) tgf)) (ht : ∀ (s : Shared) (H : Hp) (C : Addr) (cl : List (Str × Addr)) (fp : List Addr), PTs (X.blk s H scope (compEnvC scope cl C X.env) fp) ifs (bP X.K Γ1 c))
    (he : ∀ (s : Shared) (H : Hp) (C : Addr) (cl : List (Str × Addr)) (fp : List Addr), PE (X.blk s H scope (compEnvC scope cl C X.env) fp) elt (tC X.K Γ1 t f)) (hno : noIx Γ (own.map (·.2)) = true) (hl : i < Γ.length) (hr : isNo er i = true) (hs : ∀ x, foldedSetIterable iter X.env x = pure x := by intro _; rfl) :
    PS X (.Assign [.Name y py] (.ListComp elt [⟨tg, iter, ifs, 0⟩] scope pos) spos) (tS X.K Γ ⟨Γ.set i (.ol t), eb, ec, er, et⟩ (sSet i (xCmp src tgf c f))) := by
  rw [sSet_eq]
  refine (ps_setLc hc hN hy hyl hsw hi ok hg ht he hs).imp fun W σ H h => post_set (Γ' := Γ) (eb := eb) (ec := ec) (et := et) hl hr (fun Q q => lcC hno σ H Q ?_) h
  obtain ⟨δ, Z, F, d, δ', o, e, k⟩ := q
  unfold mOf at e
  cases q' : xCmp src tgf c f δ with
  | none => rw [q'] at e; cases e
  | some d' =>
    rw [q'] at e; cases e
    refine ⟨δ, Z, F, d, o, q', fun v H' Z' g s r nd hz => k v H' Z' F g ?_ (o.ext s) r (nodup_app o.nd nd fun a ha hf => o.live hf (hz a ha).1) fun a ha => (hz a ha).2⟩
    exact ⟨s.stp.keep, s.mono, fun a ha => (List.mem_append.mp ha).imp id fun z => (hz a z).1, s.stp.frz, s.live, s.zs⟩
theorem zSetCmpM {i : Nat} {y : Str} {py : Pos} {t : T} {elt tg iter : Expr} {ifs : List Expr} {scope : Scope} {own : List (Str × Nat)} {pos spos : Pos} {src : LM} {tgf : D → List D → Option (List D)} {c : BM} {f : EM} (hc : X.calm = true) (hN : X.N.Nodup) (hy : X.N[i]? = some y) (hyl : X.env.scope.names.lookup y = some .local)
    (hsw : swapsWith (.ListComp elt [⟨tg, iter, ifs, 0⟩] scope pos) (some (.Name y py)) spos.line X.env = pure true) (hi : PI X tg iter (tI X.K Γ Γ' src)) (ok : BlkOk X.N X.env.scope scope own)
    (hg : ∀ (s : Shared) (H : Hp) (C : Addr) (cl : List (Str × Addr)) (fp : List Addr), PG (X.blk s H scope (compEnvC scope cl C X.env) fp) tg (tG X.K Γ' Γ1 (own.map (·.2)) tgf)) (ht : ∀ (s : Shared) (H : Hp) (C : Addr) (cl : List (Str × Addr)) (fp : List Addr), PTs (X.blk s H scope (compEnvC scope cl C X.env) fp) ifs (bM X.K Γ1 Γ2 c))
    (he : ∀ (s : Shared) (H : Hp) (C : Addr) (cl : List (Str × Addr)) (fp : List Addr), PE (X.blk s H scope (compEnvC scope cl C X.env) fp) elt (tM X.K Γ2 Γ3 t f)) (hno : noIx Γ' (own.map (·.2)) = true) (hw2 : wk Γ2 Γ' = true) (hw3 : wk Γ3 Γ' = true) (hl : i < Γ'.length) (hr : isNo er i = true) (hs : ∀ x, foldedSetIterable iter X.env x = pure x := by intro _; rfl) :
    PS X (.Assign [.Name y py] (.ListComp elt [⟨tg, iter, ifs, 0⟩] scope pos) spos) (tS X.K Γ ⟨Γ'.set i (.ol t), eb, ec, er, et⟩ (sSetM i (xCmpM src tgf c f))) :=
  (ps_setLc hc hN hy hyl hsw hi ok hg ht he hs).imp fun W σ H h => post_set (Γ' := Γ') (eb := eb) (ec := ec) (et := et) hl hr (fun Q q => lcM hno hw2 hw3 σ H Q q) h
end
end Pv

set_option Elab.async false
set_option linter.all false
set_option maxRecDepth 100000
/-! Pr: list(reversed(a list)). -/
namespace RT
open PySem PySem.Spec PyProof.Rows L2
section
variable {prog : Program} {w : World} {A : Around} {E : Value → Shared → Prop} {s : Shared}
theorem pv_list_init_rev {R : Result → Shared → Prop} {it l S : Addr} {items : Array Value} (hh : A.handled = none) (hit : s.heap.IsRevIter it l ((items.size : Int) - 1)) (hl : s.heap.IsList l items) (hne : l ≠ it) (hSit : S ≠ it) (hSl : S ≠ l) (hn : items.size ≤ sizeLine)
    (hS : s.heap.get? S = some { cls := .type "list", data := .seq #[] })
    (hR : ∀ h' tk acc' c', (∀ b o, b ≠ S → b ≠ it → s.heap.get? b = some o → h'.get? b = some o) → h'.get? S = some { cls := .type "list", dict := none, data := .seq acc' c', slots := #[] } →
      ItemsOf (fun i v => items[items.size - 1 - i]? = some v) acc' items.size → R (.ok (.ret .none)) { s with heap := h', toks := tk }) :
    wpAny (model prog w) A.in1 (Builtin.«list.__init__» ⟨[.ref S, .ref it], []⟩)
      (fun fin s' => match fin with | .done f => R (.ok f) s' | .again c' => c'.quiet = true ∧ codeAny (model prog w) A c' R s') (fun e s' => R (.error e) s') s := by
  show wpAny _ _ (do let old ← Builtin.List.listItems (.ref S); Builtin.List.listUpdate (.ref S) (fun _ => #[]); letGo old.toList.reverse; Builtin.List.listExtendWith (.ref S) (.ref it) .none) _ _ s
  refine wpAny_bind ?_
  unfold Builtin.List.listItems
  refine wpAny_bind (wpAny_seqItems hS rfl (wpAny_pure ?_))
  show wpAny _ _ (updateSeq S (fun _ => #[]) >>= fun _ => letGo (#[] : Array Value).toList.reverse >>= fun _ => Builtin.List.listExtendWith (.ref S) (.ref it) .none) _ _ s
  refine wpAny_bind (wpAny_updateSeq hS rfl ?_)
  have hS₂ := Heap.get?_update_self (Obj.mapSeq (fun _ => (#[] : Array Value))) hS rfl
  have oth : ∀ b o, b ≠ S → s.heap.get? b = some o → (s.heap.update S (Obj.mapSeq (fun _ => (#[] : Array Value)))).get? b = some o :=
    fun b o hb e => (Heap.get?_update_other _ _ (Ne.symm hb)).trans e
  refine wpAny_bind (wpAny_letGo ?_)
  have W := (Walks.listRev (prog := prog) (w := w) (A := A.in1) hh it l hne items).toS
  have hSf : S ∉ [it, l] := by simp only [List.mem_cons, List.not_mem_nil, or_false, not_or]; exact ⟨hSit, hSl⟩
  have hit1 : (s.heap.update S (Obj.mapSeq (fun _ => (#[] : Array Value)))).IsRevIter it l ((items.size : Int) - 1) := hit.at fun o e => oth it o (Ne.symm hSit) e
  have hl1 : (s.heap.update S (Obj.mapSeq (fun _ => (#[] : Array Value)))).IsList l items := by
    obtain ⟨o, e, r⟩ := hl
    exact ⟨o, oth l o (Ne.symm hSl) e, r⟩
  have hT : ({ s with heap := s.heap.update S (Obj.mapSeq (fun _ => (#[] : Array Value))) } : Shared).TypeIs (.ref it) "list_reverseiterator" := Heap.IsRevIter.typeIs (s := { s with heap := s.heap.update S (Obj.mapSeq (fun _ => (#[] : Array Value))) }) hit1
  have h1 : Builtin.List.listSameRef (.ref S) (.ref it) = false := by simp [Builtin.List.listSameRef, hSit]
  unfold Builtin.List.listExtendWith
  refine wpAny_bind (wpAny_typeOf hT ?_)
  rw [if_neg (by rw [h1]; decide)]
  refine wpAny_bind (wpAny_pyIter_revIter (s := { s with heap := s.heap.update S (Obj.mapSeq (fun _ => (#[] : Array Value))) }) hit1 ?_)
  refine wpAny_bind (wpAny_holding ?_)
  unfold Builtin.List.listLengthHint
  refine wpAny_bind (wpAny_specialOf hT nolen_lri ?_)
  show wpAny _ A.in1 (specialOf (Value.ref it) (Str.ofString "__length_hint__") >>= _) _ _ _
  refine wpAny_bind (wpAny_specialOf hT hint_lri ?_)
  generalize hid : ("list_reverseiterator.__length_hint__" : String) = id0
  wp_delta
  rw [show splitId id0 = some ("list_reverseiterator", "__length_hint__") from by subst hid; decide +kernel]
  subst hid
  refine wpAny_bind (wpAny_isInstance (b := true) hT (by rw [isSubtype_type]; kernel_rfl) ?_)
  refine wpAny_pure ?_
  rw [if_neg (by decide)]
  have e0 : ((items.size : Nat) : Int) - 1 - ((0 : Nat) : Int) = (items.size : Int) - 1 := by omega
  refine wpAny_pure ⟨plainId_quiet F.plain_extend_loop _, codeAny_extend_loopS W hn _ hSf _ items.size 0 _ _ _ rfl (Nat.zero_le _) ⟨Nat.zero_le _, by rw [e0]; exact hit1, hl1⟩ hS₂ (ItemsOf.nil _) fun s' acc' c' hm hS' hacc => ?_⟩
  rw [Moved.eq_with hm]
  refine hR s'.heap s'.toks acc' c' (fun b o hb hbi e => hm.heap b o (fun hmem => ?_) (oth b o hb e)) hS' hacc
  rcases List.mem_cons.mp hmem with e' | hmem
  · exact hb e'
  · exact hbi (List.mem_singleton.mp hmem)
theorem pv_call_list_rev {it l : Addr} {items : Array Value} {Q : Value → Shared → Prop} (hh : A.handled = none) (hit : s.heap.IsRevIter it l ((items.size : Int) - 1)) (hl : s.heap.IsList l items) (hne : l ≠ it) (hn : items.size ≤ sizeLine)
    (hQ : ∀ (h' : Heap) (tk : Nat) (acc : Array Value) (c' : Nat), (∀ b o, b ≠ it → s.heap.get? b = some o → h'.get? b = some o) → h'.get? s.heap.objs.size = some { cls := .type "list", dict := none, data := .seq acc c', slots := #[] } →
      ItemsOf (fun i v => items[items.size - 1 - i]? = some v) acc items.size → Q (.ref s.heap.objs.size) { s with heap := h', toks := tk }) :
    wpAny (model prog w) A (call (.type "list") [.ref it]) Q E s := by
  obtain ⟨oi, hoi, _⟩ := id hit
  obtain ⟨ol, hol, _⟩ := id hl
  have hSi : s.heap.objs.size ≠ it := Nat.ne_of_gt (Heap.lt_size hoi)
  have hSl : s.heap.objs.size ≠ l := Nat.ne_of_gt (Heap.lt_size hol)
  refine callType_codes (Q₁ := fun obj s₁ => obj = .ref s.heap.objs.size ∧ s₁ = { s with heap := s.heap.push { cls := .type "list", data := .seq #[] } }) F.called_list (F.typeCall_list_1 _) F.entry_list_init
    (code_list_new _ ⟨rfl, rfl⟩) fun obj s₁ h₁ => ?_
  obtain ⟨rfl, rfl⟩ := h₁
  have hS : (s.heap.push { cls := .type "list", data := .seq #[] }).get? s.heap.objs.size = some { cls := .type "list", data := .seq #[] } := Heap.get?_push_size _ rfl
  refine ⟨⟨_, hS, rfl⟩, F.args_list_init_2 _ _, pv_list_init_rev (A := A.in1) hh (hit.at fun o e => Heap.get?_push_of_some _ e) (hl.push _) hne hSi hSl hn hS fun h' tk acc' c' hk hS' hacc => ?_⟩
  exact ⟨rfl, hQ h' tk acc' c' (fun b o hb e => hk b o (Nat.ne_of_lt (Heap.lt_size e)) hb (Heap.get?_push_of_some _ e)) hS' hacc⟩
end
def tLstRev (K : PySem.W.Frag) (te : TE) : TE := fun σ H Q => te σ H fun v H1 => ∃ (a : Addr) (xs : List V), v = .ref a ∧ SqL K H1 a xs ∧ ∀ q, H1 q = none → Q (.ref q) (upd H1 q (.lst xs.reverse))
theorem pe_lstRev {X : Cx} {e : Expr} {te : TE} {p p2 pos pos2 : Pos} (hc : X.calm = true) (hg : Gl X "list") (hm : X.mg "list" = none) (hg2 : Gl X "reversed") (hm2 : X.mg "reversed" = none) (he : PE X e te)
    (hs : starEach [e] X.env = (false, eval e X.env) :: starEach [] X.env := by rfl)
    (hs2 : starEach [.Call (.Name "reversed" p2) [e] [] pos2] X.env = (false, eval (.Call (.Name "reversed" p2) [e] [] pos2) X.env) :: starEach [] X.env := by rfl) :
    PE X (.Call (.Name "list" p) [.Call (.Name "reversed" p2) [e] [] pos2] [] pos) (tLstRev X.K te) := by
  refine ⟨fun pins s σ H Q I h => ?_⟩
  refine Call_ (ld_blt I hg hm boot_list (PyProof.Rows.callWith_type1 (args_cons (Call_ (ld_blt I hg2 hm2 PyProof.Rows.boot_reversed (PyProof.Rows.callWith_type1 (args_cons (thn (he.run pins s σ H _ I h) fun u s1 ⟨v, H1, I1, r1, q1⟩ => args_nil ?_) hs) hs rfl))) hs2) hs2 rfl))
  obtain ⟨a, xs, ev, hq, q⟩ := q1
  subst ev
  obtain rfl : u = Value.ref a := r1
  obtain ⟨its, rv, p', hz⟩ := I1.list hq
  refine call_reversed_list p'.isList (args_nil ?_)
  have k0 : ∀ b o, s1.heap.get? b = some o → (s1.heap.push (revObj a ((its.toArray.size : Int) - 1))).get? b = some o := fun b o e => Heap.get?_push_of_some _ e
  have I2 : Inv X pins σ H1 { s1 with heap := s1.heap.push (revObj a ((its.toArray.size : Int) - 1)) } := I1.kept (t' := s1.toks) k0
  obtain ⟨f0, f1, f2, f3, f4, f5⟩ := I1.fpOk (H' := H1) (b := s1.heap.objs.size) (Nat.le_refl _) (I1.hok.fresh (Nat.le_refl _))
  have hl := p'.isList
  obtain ⟨ol, hol, _⟩ := id hl
  have hne : a ≠ s1.heap.objs.size := Nat.ne_of_lt (Heap.lt_size hol)
  have hn : its.toArray.size ≤ sizeLine := by rw [List.size_toArray, ← rv.length]; exact hz
  refine pv_call_list_rev (s := { s1 with heap := s1.heap.push (revObj a ((its.toArray.size : Int) - 1)) }) (I1.ok.hd hc) ⟨_, Heap.get?_push_size _ rfl, rfl, rfl⟩ (hl.push _) hne hn fun h' tk acc c' hk hS' hi => ?_
  have I3 : Inv X pins σ (upd H1 (s1.heap.push (revObj a ((its.toArray.size : Int) - 1))).objs.size (.lst xs.reverse)) { s1 with heap := h', toks := tk } := by
    refine I2.turnedNew (t' := tk) (ch := [s1.heap.objs.size]) (fun b o hb e => hk b o (fun z => hb (by simp [z])) e) (fun b hb => ?_) (Nat.le_refl _) ⟨by rw [List.length_reverse]; exact hz, acc.toList, c', vals_rev rv hi, by rw [Array.toArray_toList]; exact hS'⟩
    have eb : b = s1.heap.objs.size := by simpa using hb
    subst eb
    exact ⟨f0, f1, f2, f3, f4, f5⟩
  exact ⟨.ref _, _, I3, rfl, q _ (I2.hok.fresh (Nat.le_refl _))⟩
end RT

set_option Elab.async false
set_option linter.all false
set_option maxRecDepth 100000
/-! Pv10: the operators and built-ins by their data. -/
namespace Pv
open PySem PySem.Spec PyProof.Rows L2
def dI2 (g : Int → Int → Option D) : D → D → Option D
  | .int i, .int j => g i j
  | _, _ => none
def dAdd : D → D → Option D
  | .int i, .int j => some (.int (i + j))
  | .str a, .str b => if a.length + b.length ≤ sizeLine then some (.str (a ++ b)) else none
  | _, _ => none
def dSub : D → D → Option D := dI2 fun i j => some (.int (i - j))
def mulOk (i j : Int) : Bool := (decide (-(2 ^ 64) < i) && decide (i < 2 ^ 64)) || (decide (-(2 ^ 64) < j) && decide (j < 2 ^ 64)) || decide (i.natAbs.log2 + j.natAbs.log2 < 1000000)
def dMul : D → D → Option D := dI2 fun i j => if mulOk i j then some (.int (i * j)) else none
def dFd : D → D → Option D := dI2 fun i j => if 0 < j ∧ j.natAbs.log2 < 9000 then some (.int (i / j)) else none
def dMd : D → D → Option D := dI2 fun i j => if 0 < j then some (.int (i % j)) else none
def dPow : D → D → Option D := dI2 fun i j => if 0 ≤ j ∧ j ≤ 1000000 ∧ i.natAbs < 2 ^ 64 then some (.int (i ^ j.toNat)) else none
def dLt : D → D → Option D := dI2 fun i j => some (.bool (decide (i < j)))
def dLe : D → D → Option D := dI2 fun i j => some (.bool (decide (i ≤ j)))
def dGt : D → D → Option D := dI2 fun i j => some (.bool (decide (j < i)))
def dGe : D → D → Option D := dI2 fun i j => some (.bool (decide (j ≤ i)))
def dEq (x y : D) : Option D := if SeqAt.shaped x && SeqAt.shaped y then some (.bool (PyData.eqv x y)) else none
def dNe (x y : D) : Option D := if SeqAt.shaped x && SeqAt.shaped y then some (.bool (!PyData.eqv x y)) else none
def flatD : D → Bool
  | .none => true
  | .bool _ => true
  | .int _ => true
  | .str _ => true
  | _ => false
def dIn (x y : D) : Option D := match asSeq y with
  | some ds => if flatD x && ds.all flatD then some (.bool (ds.any fun z => PyData.eqv z x)) else none
  | none => none
def dNotIn (x y : D) : Option D := match asSeq y with
  | some ds => if flatD x && ds.all flatD then some (.bool (!ds.any fun z => PyData.eqv z x)) else none
  | none => none
def dIx (x y : D) : Option D := match x, y with
  | .list ds, .int j => atI ds j
  | .tuple ds, .int j => atI ds j
  | _, _ => none
section
variable {K : PySem.W.Frag} {X : Cx} {Γ Γ' Γ1 Γ2 Γ3 : List T} {H H' H1 H2 H3 : Hp} {Z Z' Z1 Z2 Z3 : FzT} {F F' F1 F2 : List Addr} {σ σ' σ1 : L2.St} {δ δ' : List D} {E : TyE} {W W' : Ends}
theorem Sh.strOf {v : V} {x : Str} (h : Sh K H Z v (.str x)) : v = .str x := by cases h; rfl
theorem Sh.blOf {v : V} {b : Bool} (h : Sh K H Z v (.bool b)) : v = .bl b := by cases h; rfl
theorem Sh.nonOf {v : V} (h : Sh K H Z v .none) : v = .non := by cases h; rfl
/-- int operators -/
theorem opsI {C : Int → Int → Prop} {g : Int → Int → V} {o : Int → Int → Option D} (h : ∀ i j d, o i j = some d → C i j ∧ ∀ K H Z, Sh K H Z (g i j) d) : OpS K (rI C g) .sh .sh .sh (dI2 o) := by
  intro H Z x y dx dy d f g' Q rx ry e k
  obtain ⟨sx, _⟩ := rx.shOf
  obtain ⟨sy, _⟩ := ry.shOf
  unfold dI2 at e
  split at e
  · obtain ⟨c, s⟩ := h _ _ _ e
    exact ⟨_, _, sx.intOf, sy.intOf, c, k _ H Z [] .refl (.sh (s K H Z))⟩
  · cases e
theorem opsI0 {g : Int → Int → V} {o : Int → Int → Option D} (h : ∀ i j d, o i j = some d → ∀ K H Z, Sh K H Z (g i j) d) : OpS K (rI0 g) .sh .sh .sh (dI2 o) := by
  intro H Z x y dx dy d f g' Q rx ry e k
  obtain ⟨sx, _⟩ := rx.shOf
  obtain ⟨sy, _⟩ := ry.shOf
  unfold dI2 at e
  split at e
  · exact ⟨_, _, sx.intOf, sy.intOf, k _ H Z [] .refl (.sh (h _ _ _ e K H Z))⟩
  · cases e
theorem sub_s : OpS K (rI0 fun i j => V.int (i - j)) .sh .sh .sh dSub := opsI0 fun i j d e K H Z => by cases e; exact .int _
theorem lt_s : OpS K (rI0 fun i j => V.bl (decide (i < j))) .sh .sh .sh dLt := opsI0 fun i j d e K H Z => by cases e; exact .bl _
theorem le_s : OpS K (rI0 fun i j => V.bl (decide (i ≤ j))) .sh .sh .sh dLe := opsI0 fun i j d e K H Z => by cases e; exact .bl _
theorem gt_s : OpS K (rI0 fun i j => V.bl (decide (j < i))) .sh .sh .sh dGt := opsI0 fun i j d e K H Z => by cases e; exact .bl _
theorem ge_s : OpS K (rI0 fun i j => V.bl (decide (j ≤ i))) .sh .sh .sh dGe := opsI0 fun i j d e K H Z => by cases e; exact .bl _
def CMul' (i j : Int) : Prop := CMul i j ∨ CMulW i j
theorem op_mul' : OpR X (binaryOp .Mult) (rI CMul' fun i j => V.int (i * j)) := opI fun _ _ _ _ _ _ _ hc q => mul_int q (hc.elim CMul.ok CMulW.ok)
theorem mul_s : OpS K (rI CMul' fun i j => V.int (i * j)) .sh .sh .sh dMul := opsI fun i j d e => by
  split at e
  · rename_i h
    cases e
    refine ⟨?_, fun K H Z => .int _⟩
    unfold mulOk at h
    simp only [Bool.or_eq_true, Bool.and_eq_true, decide_eq_true_eq] at h
    rcases h with (h | h) | h
    · exact .inl (.inl h)
    · exact .inl (.inr h)
    · exact .inr h
  · cases e
theorem fd_s : OpS K (rI CDivW fun i j => V.int (i / j)) .sh .sh .sh dFd := opsI fun i j d e => by
  split at e
  · rename_i h
    cases e
    exact ⟨h, fun K H Z => .int _⟩
  · cases e
theorem md_s : OpS K (rI (fun _ j => 0 < j) fun i j => V.int (i % j)) .sh .sh .sh dMd := opsI fun i j d e => by
  split at e
  · rename_i h
    cases e
    exact ⟨h, fun K H Z => .int _⟩
  · cases e
theorem pow_s : OpS K (rI CPow fun i j => V.int (i ^ j.toNat)) .sh .sh .sh dPow := opsI fun i j d e => by
  split at e
  · rename_i h
    cases e
    exact ⟨h, fun K H Z => .int _⟩
  · cases e
def rAdd' : R2 := fun x y H Q => (rI0 fun i j => V.int (i + j)) x y H Q ∨ ∃ i j, x = .str i ∧ y = .str j ∧ i.length + j.length ≤ sizeLine ∧ Q (.str (i ++ j)) H
theorem op_add' : OpR X (binaryOp .Add) rAdd' := op_add.or op_add_str
theorem iop_add' : OpR X (inplaceOp .Add) rAdd' := iop_add.or iop_add_str
theorem add_s : OpS K rAdd' .sh .sh .sh dAdd := by
  intro H Z x y dx dy d f g' Q rx ry e k
  obtain ⟨sx, _⟩ := rx.shOf
  obtain ⟨sy, _⟩ := ry.shOf
  unfold dAdd at e
  split at e
  · cases e
    exact .inl ⟨_, _, sx.intOf, sy.intOf, k _ H Z [] .refl (.sh (.int _))⟩
  · split at e
    · rename_i h
      cases e
      exact .inr ⟨_, _, sx.strOf, sy.strOf, h, k _ H Z [] .refl (.sh (.str _))⟩
    · cases e
  · cases e
mutual
theorem Sh.dp : ∀ {v : V} {d : D}, Sh K H Z v d → d.canLay0 = true → Dp K H v d
  | _, _, .non, _ => .non
  | _, _, .bl b, _ => .bl b
  | _, _, .int i, _ => .int i
  | _, _, .str x, _ => .str x
  | _, _, .lst z r, c => .lst z.sql (ShA.dp r (by simpa [PyData.canLay0] using c))
  | _, _, .tup h r, c => .tup (SqT.of h) (ShA.dp r (by simpa [PyData.canLay0] using c))
  | _, _, .dk _ _ _ _, c => by simp [PyData.canLay0] at c
  | _, _, .dt _ _ _ _, c => by simp [PyData.canLay0] at c
theorem ShA.dp : ∀ {v : List V} {d : List D}, ShA K H Z v d → PyData.canLayAll0 d = true → DpAll K H v d
  | _, _, .nil, _ => .nil
  | _, _, .cons h r, c => by
    simp only [PyData.canLayAll0, Bool.and_eq_true] at c
    exact .cons (Sh.dp h c.1) (ShA.dp r c.2)
end
mutual
theorem Rep.dp : ∀ {t : T} {v : V} {d : D} {f : List Addr}, Rep K H Z t v d f → t.full = true → d.canLay0 = true → Dp K H v d
  | _, _, _, _, .no, h, _ => by cases h
  | _, _, _, _, .sh h, _, c => h.dp c
  | _, _, _, _, .ol h r, hf, c => .lst (SqL.of h) (RepA.dp r hf (by simpa [PyData.canLay0] using c))
  | _, _, _, _, .dk _ _ _, _, c => by simp [PyData.canLay0] at c
  | _, _, _, _, .dt _ _ _, _, c => by simp [PyData.canLay0] at c
  | _, _, _, _, .pr h r1 r2, hf, c => by
    have hf' := (Bool.and_eq_true _ _).mp hf
    simp only [PyData.canLay0, PyData.canLayAll0, Bool.and_eq_true, and_true] at c
    exact .tup (SqT.of h) (.cons (Rep.dp r1 hf'.1 c.1) (.cons (Rep.dp r2 hf'.2 c.2) .nil))
theorem RepA.dp : ∀ {t : T} {v : List V} {d : List D} {f : List Addr}, RepA K H Z t v d f → t.full = true → PyData.canLayAll0 d = true → DpAll K H v d
  | _, _, _, _, .nil, _, _ => .nil
  | _, _, _, _, .cons h r, hf, c => by
    simp only [PyData.canLayAll0, Bool.and_eq_true] at c
    exact .cons (Rep.dp h hf c.1) (RepA.dp r hf c.2)
end
theorem eq_s {s t : T} (hs : s.full = true) (ht : t.full = true) : OpS K (rEqD K) s t .sh dEq := by
  intro H Z x y dx dy d f g' Q rx ry e k
  unfold dEq at e
  split at e
  · rename_i h
    cases e
    rw [Bool.and_eq_true] at h
    exact ⟨dx, dy, rx.dp hs (SeqAt.canLay_of_shaped h.1), ry.dp ht (SeqAt.canLay_of_shaped h.2), h.1, h.2, k _ H Z [] .refl (.sh (.bl _))⟩
  · cases e
theorem ne_s {s t : T} (hs : s.full = true) (ht : t.full = true) : OpS K (rNeD K) s t .sh dNe := by
  intro H Z x y dx dy d f g' Q rx ry e k
  unfold dNe at e
  split at e
  · rename_i h
    cases e
    rw [Bool.and_eq_true] at h
    exact ⟨dx, dy, rx.dp hs (SeqAt.canLay_of_shaped h.1), ry.dp ht (SeqAt.canLay_of_shaped h.2), h.1, h.2, k _ H Z [] .refl (.sh (.bl _))⟩
  · cases e
theorem flat_V {v : V} {d : D} (h : Sh K H Z v d) (f : flatD d = true) : flatV v = true := by cases h <;> first | rfl | cases f
theorem eqv_flat {v w : V} {d e : D} (h : Sh K H Z v d) (h' : Sh K H Z w e) (f : flatD d = true) (f' : flatD e = true) : eqV v w = PyData.eqv d e := by
  cases h <;> cases h' <;> first | (cases f; done) | (cases f'; done) | (simp only [PyData.eqv]; rfl) | skip
theorem all_flatV : ∀ {xs : List V} {ds : List D}, ShA K H Z xs ds → ds.all flatD = true → xs.all flatV = true
  | _, _, .nil, _ => rfl
  | _, _, .cons h r, f => by
    rw [List.all_cons, Bool.and_eq_true] at f ⊢
    exact ⟨flat_V h f.1, all_flatV r f.2⟩
theorem inV_eq {x : V} {dx : D} (hx : Sh K H Z x dx) (fx : flatD dx = true) : ∀ {xs : List V} {ds : List D}, ShA K H Z xs ds → ds.all flatD = true → inV x xs = ds.any fun z => PyData.eqv z dx
  | _, _, .nil, _ => rfl
  | _, _, .cons h r, f => by
    rw [List.all_cons, Bool.and_eq_true] at f
    have ih := inV_eq hx fx r f.2
    unfold inV at ih ⊢
    rw [List.any_cons, List.any_cons, ih, eqv_flat h hx f.1 fx]
/-- a list or tuple of shared items -/
def seqT : T → Bool
  | .sh => true
  | .ol .sh => true
  | _ => false
theorem seq_of {t : T} {y : V} {d : D} {ds : List D} {g : List Addr} (ht : seqT t = true) (r : Rep K H Z t y d g) (e : asSeq d = some ds) : ∃ p xs, y = .ref p ∧ (SqL K H p xs ∨ H p = some (.tup xs)) ∧ ShA K H Z xs ds := by
  cases r with
  | no => cases ht
  | sh h =>
    cases h with
    | lst z r => cases e; exact ⟨_, _, rfl, .inl z.sql, r⟩
    | tup h r => cases e; exact ⟨_, _, rfl, .inr h, r⟩
    | _ => cases e
  | @ol u _ _ _ _ h r =>
    cases e
    cases u with
    | sh => exact ⟨_, _, rfl, .inl (SqL.of h), r.shA.1⟩
    | _ => cases ht
  | pr => cases ht
  | dk => cases ht
  | dt => cases ht
theorem in_s {t : T} (ht : seqT t = true) : OpS K (rIn K false) .sh t .sh dIn := by
  intro H Z x y dx dy d f g' Q rx ry e k
  unfold dIn at e
  split at e
  · rename_i ds hds
    split at e
    · rename_i hf
      cases e
      rw [Bool.and_eq_true] at hf
      obtain ⟨p, xs, rfl, hq, sa⟩ := seq_of ht ry hds
      obtain ⟨sx, _⟩ := rx.shOf
      refine ⟨p, xs, rfl, hq.imp id SqT.of, flat_V sx hf.1, all_flatV sa hf.2, ?_⟩
      rw [if_neg Bool.false_ne_true, inV_eq sx hf.1 sa hf.2]
      exact k _ H Z [] .refl (.sh (.bl _))
    · cases e
  · cases e
theorem notin_s {t : T} (ht : seqT t = true) : OpS K (rIn K true) .sh t .sh dNotIn := by
  intro H Z x y dx dy d f g' Q rx ry e k
  unfold dNotIn at e
  split at e
  · rename_i ds hds
    split at e
    · rename_i hf
      cases e
      rw [Bool.and_eq_true] at hf
      obtain ⟨p, xs, rfl, hq, sa⟩ := seq_of ht ry hds
      obtain ⟨sx, _⟩ := rx.shOf
      refine ⟨p, xs, rfl, hq.imp id SqT.of, flat_V sx hf.1, all_flatV sa hf.2, ?_⟩
      rw [if_pos rfl, inV_eq sx hf.1 sa hf.2]
      exact k _ H Z [] .refl (.sh (.bl _))
    · cases e
  · cases e
theorem atI_sh {xs : List V} {ds : List D} {j : Int} {d : D} (r : ShA K H Z xs ds) (e : atI ds j = some d) : ∃ v, atI xs j = some v ∧ Sh K H Z v d := by
  unfold atI at e ⊢
  rw [r.len]
  obtain ⟨n, e1, e2⟩ := Option.bind_eq_some_iff.mp e
  obtain ⟨v, h1, h2⟩ := r.get e2
  exact ⟨v, by rw [e1]; exact h1, h2⟩
theorem atI_rep {t : T} {xs : List V} {ds : List D} {f : List Addr} {j : Int} {d : D} (r : RepA K H Z t xs ds f) (e : atI ds j = some d) : ∃ v g, atI xs j = some v ∧ Rep K H Z t v d g := by
  unfold atI at e ⊢
  rw [Rep.len r]
  obtain ⟨n, e1, e2⟩ := Option.bind_eq_some_iff.mp e
  obtain ⟨v, f1, g, f2, h1, _, _, h2, _⟩ := r.at e2
  exact ⟨v, g, by rw [e1]; exact h1, h2⟩
theorem ix_sh : OpS K (rIx K) .sh .sh .sh dIx := by
  intro H Z x y dx dy d f g' Q rx ry e k
  obtain ⟨sx, _⟩ := rx.shOf
  obtain ⟨sy, _⟩ := ry.shOf
  unfold dIx at e
  split at e
  · cases sx with
    | lst z r =>
      obtain ⟨v, hv, hs⟩ := atI_sh r e
      exact .inl ⟨_, _, _, v, rfl, sy.intOf, z.sql, hv, k _ H Z [] .refl (.sh hs)⟩
  · cases sx with
    | tup h r =>
      obtain ⟨v, hv, hs⟩ := atI_sh r e
      exact .inr (.inl ⟨_, _, _, v, rfl, sy.intOf, SqT.of h, hv, k _ H Z [] .refl (.sh hs)⟩)
  · cases e
theorem ix_ol {t : T} : OpS K (rIx K) (.ol t) .sh t dIx := by
  intro H Z x y dx dy d f g' Q rx ry e k
  obtain ⟨sy, _⟩ := ry.shOf
  obtain ⟨a, xs, ds, f', rfl, rfl, rfl, h, r⟩ := ofList rx
  unfold dIx at e
  split at e
  · rename_i he
    cases he
    obtain ⟨v, g, hv, hs⟩ := atI_rep r e
    exact .inl ⟨_, _, _, v, rfl, sy.intOf, SqL.of h, hv, k _ H Z g .refl hs⟩
  · rename_i he
    cases he
  · cases e
theorem cIx {s t : T} {fa fb : EF} {a b : Expr} {pos : Pos} (h : OpS X.K (rIx X.K) s .sh t dIx) (ha : PE X a (tP X.K Γ s fa)) (hb : PE X b (tP X.K Γ .sh fb)) (hs : PlainIx b) : PE X (.Subscript a b pos) (tP X.K Γ t (x2 dIx fa fb)) :=
  (pe_ix ix_seq ha hb hs).imp fun _ _ _ => p2 h

/-! ### built-ins -/
def oLen : List D → Option D
  | [.list ds] => some (.int ds.length)
  | [.tuple ds] => some (.int ds.length)
  | [.str z] => if z.length ≤ sizeLine then some (.int z.length) else none
  | _ => none
def rLen (K : PySem.W.Frag) : List V → Hp → VK → Prop := fun xs H Q => (∃ p ys, xs = [.ref p] ∧ (SqL K H p ys ∨ SqT K H p ys) ∧ Q (.int ys.length) H) ∨ ∃ z, xs = [.str z] ∧ z.length ≤ sizeLine ∧ Q (.int z.length) H
theorem call_len' : CallR X (.builtin "len") (rLen X.K) := call_len_seq.or call_len_str
theorem len_s {t : T} (ht : t.full = true) : CalS K (rLen K) [t] .sh oLen := by
  intro H Z vs ds d g Q en e k
  have l := en.len
  unfold oLen at e
  split at e
  · cases e
    match vs, l, en with
    | [v], _, .cons r _ =>
      cases r with
      | no => cases ht
      | sh h => cases h with | lst z r => exact .inl ⟨_, _, rfl, .inl z.sql, by rw [r.len]; exact k _ H Z [] .refl (.sh (.int _))⟩
      | ol h r => exact .inl ⟨_, _, rfl, .inl (SqL.of h), by rw [Rep.len r]; exact k _ H Z [] .refl (.sh (.int _))⟩
    | [v], _, .no _ => cases ht
  · cases e
    match vs, l, en with
    | [v], _, .cons r _ =>
      cases r with
      | no => cases ht
      | sh h => cases h with | tup h r => exact .inl ⟨_, _, rfl, .inr (SqT.of h), by rw [r.len]; exact k _ H Z [] .refl (.sh (.int _))⟩
      | pr h r1 r2 => exact .inl ⟨_, _, rfl, .inr (SqT.of h), k _ H Z [] .refl (.sh (.int _))⟩
    | [v], _, .no _ => cases ht
  · split at e
    · rename_i hz
      cases e
      match vs, l, en with
      | [v], _, .cons r _ =>
        cases r with
        | no => cases ht
        | sh h => have := h.strOf; subst this; exact .inr ⟨_, rfl, hz, k _ H Z [] .refl (.sh (.int _))⟩
      | [v], _, .no _ => cases ht
    · cases e
  · cases e
def oInt : List D → Option D
  | [.int i] => some (.int i)
  | [.bool b] => some (.int (if b then 1 else 0))
  | _ => none
theorem int_s : CalS K (fun xs H Q => (∃ i, xs = [V.int i] ∧ Q (.int i) H) ∨ ∃ k, xs = [V.bl k] ∧ Q (.int (if k then 1 else 0)) H) [.sh] .sh oInt := by
  intro H Z vs ds d g Q en e k
  unfold oInt at e
  split at e
  · cases e
    obtain ⟨v, rfl, s⟩ := vs1 en
    have := s.intOf; subst this
    exact .inl ⟨_, rfl, k _ H Z [] .refl (.sh (.int _))⟩
  · cases e
    obtain ⟨v, rfl, s⟩ := vs1 en
    have := s.blOf; subst this
    exact .inr ⟨_, rfl, k _ H Z [] .refl (.sh (.int _))⟩
  · cases e
def oAbs : List D → Option D
  | [.int i] => some (.int (if i < 0 then -i else i))
  | _ => none
theorem abs_s : CalS K (fun xs H Q => ∃ i, xs = [V.int i] ∧ Q (.int (if i < 0 then -i else i)) H) [.sh] .sh oAbs := by
  intro H Z vs ds d g Q en e k
  unfold oAbs at e
  split at e
  · cases e
    obtain ⟨v, rfl, s⟩ := vs1 en
    have := s.intOf; subst this
    exact ⟨_, rfl, k _ H Z [] .refl (.sh (.int _))⟩
  · cases e
theorem vs1t {t : T} {vs : List V} {d : D} {g : List Addr} (hn : t ≠ .no) (h : Env K H Z [t] (vs.map some) [d] g) : ∃ v g', vs = [v] ∧ Rep K H Z t v d g' := by
  have l := h.len.1
  match vs, l, h with
  | [v], _, .cons r _ => exact ⟨v, _, rfl, r⟩
  | [v], _, .no _ => exact absurd rfl hn
def oTup : List D → Option D
  | [d] => (asSeq d).map .tuple
  | _ => none
theorem tup_s {t : T} (ht : seqT t = true) : CalS K (fun xs H Q => ∃ p ys, xs = [V.ref p] ∧ ((SqL K H p ys ∧ ∀ l, H l = none → Q (.ref l) (upd H l (.tup ys))) ∨ (SqT K H p ys ∧ Q (.ref p) H))) [t] .sh oTup := by
  intro H Z vs ds d g Q en e k
  unfold oTup at e
  split at e
  · obtain ⟨es, e1, e2⟩ := Option.map_eq_some_iff.mp e
    cases e2
    obtain ⟨v, g', rfl, r⟩ := vs1t (fun z => by rw [z] at ht; cases ht) en
    obtain ⟨p, xs, rfl, hq, sa⟩ := seq_of ht r e1
    rcases hq with hq | hq
    · exact ⟨p, xs, rfl, .inl ⟨hq, fun l hl => k _ _ Z [] (Ext.new hl) (.sh (.tup upd_same (sa.ext (Ext.new hl))))⟩⟩
    · exact ⟨p, xs, rfl, .inr ⟨SqT.of hq, k _ H Z [] .refl (.sh (.tup hq sa))⟩⟩
  · cases e
def oLst : List D → Option D
  | [d] => (asSeq d).map .list
  | _ => none
def rLst (K : PySem.W.Frag) : List V → Hp → VK → Prop := fun xs H Q => ∃ p ys, xs = [V.ref p] ∧ (SqL K H p ys ∨ SqT K H p ys) ∧ ∀ l, H l = none → Q (.ref l) (upd H l (.lst ys))
theorem call_list' : CallR X (.type "list") (rLst X.K) := call_list_of
/-- list(x), frozen at once; a fresh one by lst_c -/
theorem lst_s {t : T} (ht : seqT t = true) : CalS K (rLst K) [t] .sh oLst := by
  intro H Z vs ds d g Q en e k
  unfold oLst at e
  split at e
  · obtain ⟨es, e1, e2⟩ := Option.map_eq_some_iff.mp e
    cases e2
    obtain ⟨v, g', rfl, r⟩ := vs1t (fun z => by rw [z] at ht; cases ht) en
    obtain ⟨p, xs, rfl, hq, sa⟩ := seq_of ht r e1
    exact ⟨p, xs, rfl, hq.imp id SqT.of, fun l hl => k _ _ _ [] (Ext.newZ hl) (.sh (.lst (.inl ⟨.inr rfl, .inl upd_same⟩) (sa.ext (Ext.newZ hl))))⟩
  · cases e
/-- list(x): needs to know that what is new is not frozen -/
theorem cListC {e : Expr} {t : T} {f : LF} {p pos : Pos} (hg : Gl X "list") (hm : X.mg "list" = none) (ht : seqT t = true) (ha : PA X [e] (aP X.K Γ [t] f)) (he : starEach [e] X.env = (false, eval e X.env) :: starEach [] X.env := by rfl) :
    PE X (.Call (.Name "list" p) [e] [] pos) (tC X.K Γ (.ol .sh) (xL oLst f)) :=
  (pe_callTy call_list' hg hm boot_list ha (by decide) (by decide) he (by rfl)).imp fun σ H Q ⟨δ, Z, F, d, ok, e, k⟩ => by
  obtain ⟨ds, e1, e2⟩ := Option.bind_eq_some_iff.mp e
  refine ⟨δ, Z, F, ds, ok, e1, fun vs H1 Z1 g s1 en => ?_⟩
  unfold oLst at e2
  split at e2
  · obtain ⟨es, e3, e4⟩ := Option.map_eq_some_iff.mp e2
    cases e4
    obtain ⟨v, g', rfl, r⟩ := vs1t (fun z => by rw [z] at ht; cases ht) en
    obtain ⟨p, xs, rfl, hq, sa⟩ := seq_of ht r e3
    refine ⟨p, xs, rfl, hq.imp id SqT.of, fun l hl => k _ _ Z1 [l] (s1.trans (Ext.new hl)) (.ol upd_same (sa.ext (Ext.new hl)).repA) (by simp) fun a h => ?_⟩
    have ea : a = l := by simpa using h
    subst ea
    exact ⟨Same.free s1.same hl, fun hz => (ok.ext s1).zs a hz hl⟩
  · cases e2
def oRev : D → Option D
  | .list ds => some (.list ds.reverse)
  | _ => none
theorem ShA.rev : ∀ {xs : List V} {ds : List D}, ShA K H Z xs ds → ShA K H Z xs.reverse ds.reverse
  | _, _, .nil => .nil
  | _, _, .cons h r => by
    rw [List.reverse_cons, List.reverse_cons]
    exact (ShA.rev r).app (.cons h .nil)
theorem cLstRev {e : Expr} {t : T} {f : EF} {p p2 pos pos2 : Pos} (hc : X.calm = true) (hg : Gl X "list") (hm : X.mg "list" = none) (hg2 : Gl X "reversed") (hm2 : X.mg "reversed" = none) (ht : seqT t = true) (he : PE X e (tP X.K Γ t f))
    (hs : starEach [e] X.env = (false, eval e X.env) :: starEach [] X.env := by rfl)
    (hs2 : starEach [.Call (.Name "reversed" p2) [e] [] pos2] X.env = (false, eval (.Call (.Name "reversed" p2) [e] [] pos2) X.env) :: starEach [] X.env := by rfl) :
    PE X (.Call (.Name "list" p) [.Call (.Name "reversed" p2) [e] [] pos2] [] pos) (tC X.K Γ (.ol .sh) (x1 oRev f)) := (RT.pe_lstRev hc hg hm hg2 hm2 he hs hs2).imp fun σ H Q ⟨δ, Z, F, d, ok, e, k⟩ => by
  obtain ⟨dl, e1, e2⟩ := Option.bind_eq_some_iff.mp e
  refine ⟨δ, Z, F, dl, ok, e1, fun v H1 Z1 g s1 r => ?_⟩
  cases dl with
  | list ds =>
    cases e2
    obtain ⟨a, xs, rfl, hq, sa⟩ : ∃ a xs, v = .ref a ∧ SqL X.K H1 a xs ∧ ShA X.K H1 Z1 xs ds := by
      cases r with
      | no => cases ht
      | sh h => cases h with | lst z r => exact ⟨_, _, rfl, z.sql, r⟩
      | @ol u _ _ _ _ h r =>
        cases u with
        | sh => exact ⟨_, _, rfl, SqL.of h, r.shA.1⟩
        | _ => cases ht
    refine ⟨a, xs, rfl, hq, fun q hq' => k _ _ Z1 [q] (s1.trans (Ext.new hq')) (.ol upd_same (sa.rev.ext (Ext.new hq')).repA) (by simp) fun b h => ?_⟩
    have eb : b = q := by simpa using h
    subst eb
    exact ⟨Same.free s1.same hq', fun hz => (ok.ext s1).zs b hz hq'⟩
  | _ => cases e2
/-- list(range(n)) -/
def oLstRng : D → Option D
  | .int j => if -(2 ^ 62) ≤ j ∧ j ≤ 2 ^ 24 then some (.list (rngD 0 j.toNat)) else none
  | _ => none
theorem sha_rng (a b : Int) : ShA K H Z (rgV a b) (rngD a (b - a).toNat) := by
  have : ∀ (n : Nat), ShA K H Z ((List.range n).map fun i => V.int (a + (i : Nat))) ((List.range n).map fun (k : Nat) => PyData.int (a + (k : Int))) := by
    intro n
    induction n with
    | zero => exact .nil
    | succ n ih =>
      rw [List.range_succ, List.map_append, List.map_append]
      exact ih.app (.cons (.int _) .nil)
  exact this _
theorem cLstRng {a : Expr} {f : EF} {p p2 pos pos2 : Pos} (hc : X.calm = true) (hg : Gl X "list") (hm : X.mg "list" = none) (hg2 : Gl X "range") (hm2 : X.mg "range" = none) (ha : PE X a (tP X.K Γ .sh f)) (na : starEach [a] X.env = (false, eval a X.env) :: starEach [] X.env := by rfl)
    (na2 : starEach [.Call (.Name "range" p2) [a] [] pos2] X.env = (false, eval (.Call (.Name "range" p2) [a] [] pos2) X.env) :: starEach [] X.env := by rfl) :
    PE X (.Call (.Name "list" p) [.Call (.Name "range" p2) [a] [] pos2] [] pos) (tC X.K Γ (.ol .sh) (x1 oLstRng f)) := (pe_listRg hc hg hm (prg_1 hg2 hm2 ha na) na2).imp fun σ H Q ⟨δ, Z, F, d, ok, e, k⟩ => by
  obtain ⟨jd, e1, e2⟩ := Option.bind_eq_some_iff.mp e
  refine ⟨δ, Z, F, jd, ok, e1, fun v H1 Z1 g s1 r => ?_⟩
  unfold oLstRng at e2
  split at e2
  · rename_i j
    split at e2
    · rename_i hj
      cases e2
      have ev := r.shOf.1.intOf
      refine ⟨j, ev, ⟨by decide, by decide, hj.1, by omega, by omega⟩, fun q hq => k _ _ Z1 [q] (s1.trans (Ext.new hq)) (.ol upd_same ?_) (by simp) fun b h => ?_⟩
      · have := (sha_rng (K := X.K) (H := upd H1 q (.lst (rgV 0 j))) (Z := Z1) 0 j).repA
        rw [Int.sub_zero] at this
        exact this
      · have eb : b = q := by simpa using h
        subst eb
        exact ⟨Same.free s1.same hq, fun hz => (ok.ext s1).zs b hz hq⟩
    · cases e2
  · cases e2
/-- all of a list of bools -/
def bools : List D → Option (List Bool)
  | [] => some []
  | d :: ds => (toB d).bind fun b => (bools ds).bind fun bs => some (b :: bs)
def oAll : List D → Option D
  | [.list ds] => (bools ds).map fun bs => .bool (bs.all id)
  | _ => none
theorem bools_V : ∀ {xs : List V} {ds : List D} {bs : List Bool}, ShA K H Z xs ds → bools ds = some bs → xs = bs.map V.bl
  | _, _, _, .nil, e => by cases e; rfl
  | _, _, _, .cons h r, e => by
    obtain ⟨b, e1, e2⟩ := Option.bind_eq_some_iff.mp e
    obtain ⟨bs, e3, e4⟩ := Option.bind_eq_some_iff.mp e2
    cases e4
    obtain ⟨rfl, rfl⟩ := toB_sh h e1
    rw [List.map_cons, bools_V r e3]
theorem all_s {t : T} (ht : seqT t = true) : CalS K (rAll K) [t] .sh oAll := by
  intro H Z vs ds d g Q en e k
  unfold oAll at e
  split at e
  · obtain ⟨bs, e1, e2⟩ := Option.map_eq_some_iff.mp e
    cases e2
    obtain ⟨v, g', rfl, r⟩ := vs1t (fun z => by rw [z] at ht; cases ht) en
    cases r with
    | no => cases ht
    | sh h => cases h with | lst z r => exact ⟨_, bs, rfl, by rw [← bools_V r e1]; exact z.sql, k _ H Z [] .refl (.sh (.bl _))⟩
    | @ol u _ _ _ _ h r =>
      cases u with
      | sh => exact ⟨_, bs, rfl, by rw [← bools_V r.shA.1 e1]; exact SqL.of h, k _ H Z [] .refl (.sh (.bl _))⟩
      | _ => cases ht
  · cases e
/-! ### isinstance -/
def tyD : D → String
  | .none => "NoneType"
  | .bool _ => "bool"
  | .int _ => "int"
  | .str _ => "str"
  | .list _ => "list"
  | .tuple _ => "tuple"
  | .dict _ => "dict"
def isiT (a b : String) : Bool := a == b || (a == "bool" && b == "int")
def dIsi (T : String) (d : D) : Option D := match d with
  | .dict _ => none
  | d => some (.bool (isiT (tyD d) T))
theorem tyx {v : V} {d : D} (h : Sh K H Z v d) (hd : ∀ k, d ≠ .dict k) : TyX K H v (.type (tyD d)) := by
  cases h with
  | non => exact .base .non
  | bl b => exact .base (.bl b)
  | int i => exact .base (.int i)
  | str x => exact .base (.str x)
  | lst z r =>
    rcases z.sql with (h | ⟨o, h⟩) | ⟨o, its, n, h, c, _⟩
    · exact .base (.lst h)
    · exact .base (.frz h)
    · exact .kList h c
  | tup h r => exact .base (.tup h)
  | dk => exact absurd rfl (hd _)
  | dt => exact absurd rfl (hd _)
def isiOk (T : String) : Prop := ∀ a ∈ ["NoneType", "bool", "int", "str", "list", "tuple"], kitB a T = some (isiT a T)
instance (T : String) : Decidable (isiOk T) := by unfold isiOk; infer_instance
theorem isi_int : isiOk "int" := by decide +kernel
theorem isi_bool : isiOk "bool" := by decide +kernel
theorem isi_tuple : isiOk "tuple" := by decide +kernel
theorem isi_str : isiOk "str" := by decide +kernel
theorem isi_list : isiOk "list" := by decide +kernel
theorem tyD_in {d : D} (hd : ∀ k, d ≠ .dict k) : tyD d ∈ ["NoneType", "bool", "int", "str", "list", "tuple"] := by
  cases d <;> first | (exact absurd rfl (hd _)) | (simp [tyD])
theorem cIsi {T : String} {x : Str} {e : Expr} {f : EF} {p p2 pos : Pos} (hT : isiOk T) (hg : Gl X "isinstance") (hm : X.mg "isinstance" = none) (hb : PE X (.Name x p2) (L2.tC (V.ty T))) (he : PE X e (tP X.K Γ .sh f))
    (hs : starEach [e, .Name x p2] X.env = (false, eval e X.env) :: starEach [.Name x p2] X.env := by rfl) (hs2 : starEach [.Name x p2] X.env = (false, eval (.Name x p2) X.env) :: starEach [] X.env := by rfl) :
    PE X (.Call (.Name "isinstance" p) [e, .Name x p2] [] pos) (tP X.K Γ .sh (x1 (dIsi T) f)) := (pe_callB call_isi hg hm (by decide +kernel) (pa_cons he (pa_cons hb pa_nil hs2) hs) (by decide) (by decide) hs (by rfl)).imp fun σ H Q ⟨δ, Z, F, d, ok, e, k⟩ => by
  obtain ⟨dx, e1, e2⟩ := Option.bind_eq_some_iff.mp e
  refine ⟨δ, Z, F, dx, ok, e1, fun v H1 Z1 g s1 r => ?_⟩
  unfold dIsi at e2
  split at e2
  · cases e2
  · rename_i hd
    cases e2
    have hd' : ∀ k, dx ≠ .dict k := fun k z => hd k z
    exact ⟨v, .ty T, _, _, _, rfl, .ty T, tyx r.shOf.1 hd', kit_ty (hT _ (tyD_in hd')), k _ H1 Z1 [] s1 (.sh (.bl _))⟩
end
end Pv

set_option Elab.async false
set_option linter.all false
set_option maxRecDepth 100000
/-! Pv11: unpacking, a name that takes a comprehension, keywords, the ends. -/
namespace Pv
open PySem PySem.Spec PyProof.Rows L2
def sUnpM (f : EM) (tg : D → List D → Option (List D)) : SF := fun δ => (f δ).bind fun p => (tg p.1 p.2).bind fun δ1 => some (.nx δ1)
def sUnp (f : EF) (tg : D → List D → Option (List D)) : SF := fun δ => (f δ).bind fun d => (tg d δ).bind fun δ1 => some (.nx δ1)
section
variable {K : PySem.W.Frag} {X : Cx} {Γ Γ' Γ1 Γ2 Γ3 : List T} {H H' H1 H2 H3 : Hp} {Z Z' Z1 Z2 Z3 : FzT} {F F' F1 F2 : List Addr} {σ σ' σ1 : L2.St} {δ δ' : List D} {en eb ec er : List T} {et : T} {W W' : Ends}
theorem zUnpM {tg e : Expr} {f : EM} {ix : List Nat} {tgf : D → List D → Option (List D)} {pos : Pos} (he : PE X e (tM X.K Γ Γ' .sh f)) (hg : PG X tg (tG X.K Γ' Γ1 ix tgf)) (hr : noIx er ix = true)
    (hs : swapsWithSole [tg] e pos.line X.env = pure false := by rfl) (hw : swappedStores [tg] e X.env = pure none := by rfl) (h1 : (assignEach [tg] X.env).map (·.2) = [assign tg X.env] := by rfl) :
    PS X (.Assign [tg] e pos) (tS X.K Γ ⟨Γ1, eb, ec, er, et⟩ (sUnpM f tgf)) := (ps_asg he hg hs hw h1).imp fun W σ H ⟨δ, Z, F, out, ok, e, p⟩ => by
  obtain ⟨⟨d, δ'⟩, e1, e2⟩ := Option.bind_eq_some_iff.mp e
  obtain ⟨δ1, e3, e4⟩ := Option.bind_eq_some_iff.mp e2
  cases e4
  refine ⟨δ, Z, F, d, δ', ok, e1, fun v H' Z' F' g s o r nd dz => ?_⟩
  obtain ⟨rs, rfl⟩ := r.shOf
  refine ⟨δ', Z', F', d, δ1, o, rs, e3, fun σ1 F1 ok1 sb1 l1 j1 => p σ1 H' Z' F1 (s.sub fun a h => List.mem_append_left _ (sb1 a h)) ok1 (fix_ix hr j1)⟩
theorem sUnp_eq (f : EF) (tg : D → List D → Option (List D)) : sUnp f tg = sUnpM (mOf f) tg := by
  funext δ
  unfold sUnp sUnpM mOf
  cases f δ <;> rfl
theorem zUnp {tg e : Expr} {f : EF} {ix : List Nat} {tgf : D → List D → Option (List D)} {pos : Pos} (he : PE X e (tP X.K Γ .sh f)) (hg : PG X tg (tG X.K Γ Γ1 ix tgf)) (hr : noIx er ix = true)
    (hs : swapsWithSole [tg] e pos.line X.env = pure false := by rfl) (hw : swappedStores [tg] e X.env = pure none := by rfl) (h1 : (assignEach [tg] X.env).map (·.2) = [assign tg X.env] := by rfl) :
    PS X (.Assign [tg] e pos) (tS X.K Γ ⟨Γ1, eb, ec, er, et⟩ (sUnp f tgf)) := by rw [sUnp_eq]; exact zUnpM (mOfP he) hg hr hs hw h1
/-- x[j] = v -/
theorem zSetIx' (i : Nat) {o j e : Expr} {f : EM} {g : EF} {pos tpos : Pos} (ho : PE X o (tVar i)) (hj : PE X j (tP X.K Γ' .sh g)) (he : PE X e (tM X.K Γ Γ' .sh f)) (ht' : Γ'[i]? = some (.ol .sh))
    (ha : ∀ v, assign (.Subscript o j tpos) X.env v = (do
      let ov ← holding [v] (eval o X.env)
      let iv ← holding [v, ov] (eval j X.env)
      standAt tpos
      holding [v, ov, iv] (setItem ov iv v)
      release [v, ov, iv] []) := by intro _; rfl)
    (hs : swapsWithSole [.Subscript o j tpos] e pos.line X.env = pure false := by rfl) (hw : swappedStores [.Subscript o j tpos] e X.env = pure none := by rfl)
    (h1 : (assignEach [.Subscript o j tpos] X.env).map (·.2) = [assign (.Subscript o j tpos) X.env] := by rfl) :
    PS X (.Assign [.Subscript o j tpos] e pos) (tS X.K Γ ⟨Γ', eb, ec, er, et⟩ (sSetIx i f g)) := zSetIx i (ps_asg he (pg_sub ho hj set_list ha) hs hw h1) ht'
/-- weaker types -/
theorem cWk {e : Expr} {t : T} {f : EF} (h : PE X e (tC X.K Γ' t f)) (hw : wk Γ Γ' = true) : PE X e (tC X.K Γ t f) := h.imp fun σ H Q ⟨δ, Z, F, d, ok, e, k⟩ => by
  obtain ⟨F2, o2, sb⟩ := ok.weak hw
  exact ⟨δ, Z, F2, d, o2, e, k⟩
theorem pWk {e : Expr} {t : T} {f : EF} (h : PE X e (tP X.K Γ' t f)) (hw : wk Γ Γ' = true) : PE X e (tP X.K Γ t f) := h.imp fun σ H Q ⟨δ, Z, F, d, ok, e, k⟩ => by
  obtain ⟨F2, o2, sb⟩ := ok.weak hw
  exact ⟨δ, Z, F2, d, o2, e, k⟩
theorem mWk {e : Expr} {t : T} {f : EM} (h : PE X e (tM X.K Γ' Γ1 t f)) (hw : wk Γ Γ' = true) : PE X e (tM X.K Γ Γ1 t f) := h.imp fun σ H Q ⟨δ, Z, F, d, δ', ok, e, k⟩ => by
  obtain ⟨F2, o2, sb⟩ := ok.weak hw
  exact ⟨δ, Z, F2, d, δ', o2, e, fun v H' Z' F' g s o r nd dz => k v H' Z' F' g (s.wide fun a h => sb.subset h) o r nd dz⟩
/-- slots forgotten ahead of a block -/
theorem zDrp {sts : List Stmt} {f : SF} (h : PSs X sts (tS X.K Γ' ⟨en, eb, ec, er, et⟩ f)) (hw : wk Γ Γ' = true) : PSs X sts (tS X.K Γ ⟨en, eb, ec, er, et⟩ f) := h.imp fun W σ H ⟨δ, Z, F, out, ok, e, p⟩ => by
  obtain ⟨F2, o2, sb⟩ := ok.weak hw
  exact ⟨δ, Z, F2, out, o2, e, p.later (Stp.refl.sub fun a h => sb.subset h) (.refl _ _)⟩
theorem zDrp1 {st : Stmt} {f : SF} (h : PS X st (tS X.K Γ' ⟨en, eb, ec, er, et⟩ f)) (hw : wk Γ Γ' = true) : PS X st (tS X.K Γ ⟨en, eb, ec, er, et⟩ f) := h.imp fun W σ H ⟨δ, Z, F, out, ok, e, p⟩ => by
  obtain ⟨F2, o2, sb⟩ := ok.weak hw
  exact ⟨δ, Z, F2, out, o2, e, p.later (Stp.refl.sub fun a h => sb.subset h) (.refl _ _)⟩
end
end Pv

set_option Elab.async false
set_option linter.all false
set_option maxRecDepth 100000
/-! Pv12: calls by keywords alone; the bottom of all calls; the law's own end. -/
namespace Pv
open PySem PySem.Spec PyProof.Rows L2
/-- xs in another order -/
def ro {α : Type} (pm : List Nat) (xs : List α) : List α := pm.filterMap fun i => xs[i]?
def KwB (K : PySem.W.Frag) (fd : FuncData) (ps ks : List Str) (pm : List Nat) : Prop := ∀ (s : Shared) (ws : List Value), K.In s.heap → ws.length = ks.length → BindsTo s fd ⟨[], ks.zip ws⟩ (ps.zip (ro pm ws))
theorem KwB.of {K : PySem.W.Frag} {fd : FuncData} {ps ks : List Str} {pm : List Nat} (h : ∀ ws : List Value, ws.length = ks.length → bindArgs fd ⟨[], ks.zip ws⟩ = pure (ps.zip (ro pm ws))) : KwB K fd ps ks pm := fun s ws _ hl => .of_eq (h ws hl)
def xRo (pm : List Nat) (f : LF) : LF := fun δ => (f δ).map (ro pm)
section
variable {K : PySem.W.Frag} {X : Cx} {Γ Γ' Γ1 Γ2 Γ3 : List T} {H H' H1 H2 H3 : Hp} {Z Z' Z1 Z2 Z3 : FzT} {F F' F1 F2 : List Addr} {σ σ' σ1 : L2.St} {δ δ' : List D} {en eb ec er : List T} {et : T} {W W' : Ends}
theorem _root_.L2.PK.imp {e : List Keyword} {t t' : TA} (h : PK X e t) (i : ∀ σ H Q, t' σ H Q → t σ H Q) : PK X e t' := ⟨fun p pins s σ H Q I q => h.run p pins s σ H Q I (i _ _ _ q)⟩
theorem wNil : PK X [] (aP X.K Γ [] xNil) := pk_nil.imp fun σ H Q ⟨δ, Z, F, d, ok, e, k⟩ => by cases e; exact k [] H Z [] .refl .nil
theorem wCons {nm : Option Str} {kpos : Pos} {t : T} {ts : List T} {f : EF} {r : LF} {e : Expr} {kws : List Keyword} (ha : PE X e (tP X.K Γ t f)) (hr : PK X kws (aP X.K Γ ts r)) :
    PK X (⟨nm, e, kpos⟩ :: kws) (aP X.K Γ (t :: ts) (xCons f r)) := (pk_cons ha hr).imp fun σ H Q ⟨δ, Z, F, d, ok, e, k⟩ => by
  obtain ⟨x, ex, e⟩ := Option.bind_eq_some_iff.mp e
  obtain ⟨xs, exs, e⟩ := Option.bind_eq_some_iff.mp e
  cases e
  exact ⟨δ, Z, F, x, ok, ex, fun v H1 Z1 g1 s1 r1 => ⟨δ, Z1, F, xs, ok.ext s1, exs, fun vs H2 Z2 g2 s2 r2 => k (v :: vs) H2 Z2 _ (s1.trans s2) (.cons (r1.ext s2) r2)⟩⟩
theorem vals_ro : ∀ (pm : List Nat) {vs : List V} {us : List Value}, Vals vs us → Vals (ro pm vs) (ro pm us)
  | [], _, _, _ => .nil
  | i :: pm, vs, us, r => by
    unfold ro
    rw [List.filterMap_cons, List.filterMap_cons]
    cases e : vs[i]? with
    | none => rw [r.none_of e]; exact vals_ro pm r
    | some v =>
      obtain ⟨u, e2, r2⟩ := r.get e
      rw [e2]
      exact .cons r2 (vals_ro pm r)
theorem sha_ro : ∀ (pm : List Nat) {vs : List V} {ds : List D}, ShA K H Z vs ds → ShA K H Z (ro pm vs) (ro pm ds)
  | [], _, _, _ => .nil
  | i :: pm, vs, ds, r => by
    unfold ro
    rw [List.filterMap_cons, List.filterMap_cons]
    cases e : ds[i]? with
    | none =>
      have : vs[i]? = none := by rw [List.getElem?_eq_none_iff, r.len]; exact List.getElem?_eq_none_iff.mp e
      rw [this]; exact sha_ro pm r
    | some d =>
      obtain ⟨v, e2, r2⟩ := r.get e
      rw [e2]
      exact .cons r2 (sha_ro pm r)
theorem env_sh : ∀ {ts : List T} {vs : List V} {ds : List D}, ShA K H Z vs ds → ts.all (· == .sh) = true → ts.length = ds.length → Env K H Z ts (vs.map some) ds []
  | [], _, _, .nil, _, _ => .nil
  | _ :: _, _, _, .nil, _, l => by simp at l
  | [], _, _, .cons _ _, _, l => by simp at l
  | t :: ts, _, _, .cons h r, q, l => by
    rw [List.all_cons, Bool.and_eq_true] at q
    have e : t = .sh := by simpa using q.1
    subst e
    exact Env.cons (f := []) (.sh h) (env_sh r q.2 (by simpa using l))
/-- f(k = e, ..), keywords alone; shared data -/
theorem cCallK {k : Nat} {f : Addr} {fd : FuncData} {ps ks : List Str} {pm : List Nat} {S : FS} {x : Str} {p pos : Pos} {kws : List Keyword} {ts : List T} {fa : LF} (Fn : FnOk X.prog X.w X.K X.mg X.base CX0 k f fd ps (spF X.K S)) (hr : Room k X.A) (hg : Gl X x) (hm : X.mg x = some (.ref f)) (hk : PySem.W.keepIn X.K (.ref f) = true)
    (hb : KwB X.K fd ps ks pm) (ha : PK X kws (aP X.K Γ ts fa)) (ht : ts.all (· == .sh) = true) (hl : ts.length = ks.length) (hpm : ∀ ds : List D, ds.length = ks.length → (ro pm ds).length = S.ps.length) (h1 : S.ps.all (· == .sh) = true) (h2 : S.io.all (· == .no) = true)
    (hks : (backToKw pos (keywordEach kws X.env)).filterMap (·.1) = ks := by rfl) (hall : (backToKw pos (keywordEach kws X.env)).all (·.1.isSome) = true := by rfl) (hdb : (x == ("__debug__" : Str)) = false := by decide)
    (hpl : ((backTo pos (starEach [] X.env)).any (·.1) || (backToKw pos (keywordEach kws X.env)).any (·.1.isNone)) = false := by rfl) :
    PE X (.Call (.Name x p) [] kws pos) (tC X.K Γ S.t (xCall S.f (xRo pm fa))) := by
  refine ⟨fun pins s σ H Q I ⟨δ, Z, F, d, ok, e, kk⟩ => ?_⟩
  obtain ⟨ds', e1, e2⟩ := Option.bind_eq_some_iff.mp e
  obtain ⟨ds, e0, rfl⟩ := Option.map_eq_some_iff.mp e1
  obtain ⟨⟨d', dd⟩, e3, e4⟩ := Option.map_eq_some_iff.mp e2
  cases e4
  refine wpAny_Call_Name_kw (ld_glob I hg hm ?_ hdb)
  refine PySem.W.callWith_KW0 (h₀ := X.base) I.ok.mod.kin hk hall (thn (ha.run pos pins s σ H (fun zs H1 => ∃ Z1, Ext H Z H1 Z1 ∧ ShA X.K H1 Z1 zs ds ∧ (∀ a, Z1 a → H1 a ≠ none) ∧ ds.length = ts.length) I ⟨δ, Z, F, ds, ok, e0, fun vs H1 Z1 g s1 r1 => ⟨Z1, s1, Env.shA r1 ht, (ok.ext s1).zs, r1.len.2⟩⟩) fun ws s2 ⟨zs, H2, I2, rz, Z2, st, sa, zs2, ld⟩ => ⟨I2.kIn, ?_⟩) hpl
  rw [hks]
  have ld : ds.length = ks.length := ld.trans hl
  have lw : ws.length = ks.length := by rw [← rz.length, sa.len, ld]
  have sa2 := sha_ro pm sa
  have en := env_sh sa2 h1 (hpm ds ld).symm
  have rz2 := vals_ro pm rz
  refine wpAny_call (codeAny_mono (Fn.run X.A X.stack s2 H2 ⟨[], ks.zip ws⟩ (ro pm ws) (ro pm zs) Q (fun _ _ _ => False) hr I2.env0 (hb s2 ws I2.kIn lw) rz2 ⟨_, Z2, [], d', dd, ⟨en, .nil, (fun _ q => nomatch q), zs2⟩, e3, fun v H' Z' F' g' s' o r nd dz => ?_⟩) fun r s' hq => ?_)
  · have eF := o.env.nos h2
    subst eF
    refine kk v H' Z' g' (st.trans (s'.sub fun a q => nomatch q)) r (by simpa using nd) fun a ha => ⟨?_, dz a ha⟩
    rcases s'.own a ha with z | z
    · cases z
    · exact Same.free st.same z
  · cases r with
    | error e => exact False.elim hq
    | ok fl =>
      cases fl with
      | ret u => exact I2.after hq
      | next => exact False.elim hq
      | brk => exact False.elim hq
      | cont => exact False.elim hq
end
end Pv

set_option Elab.async false
set_option linter.all false
set_option maxRecDepth 100000
/-! Pv13: dicts. -/
namespace Pv
open PySem PySem.Spec PyProof.Rows L2
/-! ### setdefault of tuple keys -/
section
variable {X : Cx} {pins : List (Addr × Obj)} {σ : L2.St} {H : Hp} {s : Shared} {a b : Addr} {r : Value} {d : V} {k : List Key} {A : Around} {E : Value → Shared → Prop}
theorem d_setdT {kvs : List (List Key × V)} {Q : Value → Shared → Prop} (hu : A.units + 1 < cLine) (I : Inv X pins σ H s) (e : H a = some (.dT kvs)) (eb : H b = some (.tup (k.map kV))) (rd : RelV d r) (hl : kvs.length < sizeLine)
    (h1 : ∀ v, valV kvs k = some v → ∀ (w' : Value) (s' : Shared), Inv X pins σ H s' → RelV v w' → Q w' s') (h2 : valV kvs k = none → ∀ (w' : Value) (s' : Shared), Inv X pins σ (upd H a (.dT (putK kvs k d))) s' → RelV d w' → Q w' s') :
    wpAny (model X.prog X.w) A (call (.builtin "dict.setdefault") [.ref a, .ref b, r]) Q E s := by
  obtain ⟨z, hd, xs, rel, dd⟩ := dt_of I.hok e
  have hz : xs.length ≤ sizeLine := by
    rw [← Paired.length rel]
    exact z
  refine call_meetsIn PySem.F.slot_dict_setdefault dd.typeIs PySem.F.entry_dict_setdefault (PySem.F.args_dict_setdefault_3 _ _ _) (meetsH_dict_setdefault (tupleKind (mixKind X.prog X.w)) a b hd r) ⟨tupleKind_room_in1 hu, k, xs, key_of I.hok eb, dd, hz, fun p hp => ?_, fun hn h' dd' hs => ?_⟩
  · have q := rel.val k
    rw [hp] at q
    cases q0 : valV kvs k with
    | none =>
      rw [q0] at q
      exact (show False from q).elim
    | some v0 =>
      rw [q0] at q
      exact h1 v0 q0 _ _ (I.tok _) q
  · have q := rel.val k
    rw [hn] at q
    cases q0 : valV kvs k with
    | some v0 =>
      rw [q0] at q
      exact (show False from q).elim
    | none =>
      have hl2 : (putK kvs k d).length ≤ sizeLine := by
        have := length_putK kvs k d
        omega
      obtain ⟨q, es, ep, hq, g2, g3, g4, _, g5⟩ := dd'
      refine h2 q0 _ _ (d_write I (by rw [e]; exact True.intro) hs ⟨q, hq⟩ ⟨hl2, hd, _, (rel.put k eb rd).keeps fun c ys ec => ?_, q, es, ep, hq, g2, g3, g4, g5⟩) rd
      rw [upd_ne (ne_of ec e (fun z => nomatch z))]
      exact ec
end
def tDSetdT (td ty tx : TE) : TE := fun σ H Q => td σ H fun x H1 => ∃ a, x = .ref a ∧ IsD H1 a ∧ ty σ H1 fun y H2 => tx σ H2 fun z H3 => ∃ (kvs : List (List Key × V)) (k : List Key) (b : Addr), H3 a = some (.dT kvs) ∧ y = .ref b ∧ H3 b = some (.tup (k.map kV)) ∧ kvs.length < sizeLine ∧
  (∀ v, valV kvs k = some v → Q v H3) ∧ (valV kvs k = none → Q z (upd H3 a (.dT (putK kvs k z))))
section
variable {X : Cx} {o e f : Expr} {td ty tx : TE} {apos cpos : Pos}
theorem pe_dsetdT (hu : X.A.units + 1 < cLine) (ho : PE X o td) (he : PE X e ty) (hf : PE X f tx) (m : M2 X o "setdefault" apos e f cpos) : PE X (.Call (.Attribute o "setdefault" apos) [e, f] [] cpos) (tDSetdT td ty tx) := by
  refine ⟨fun pins s σ H Q I h => ?_⟩
  refine wpAny_Call_method m.base m.few m.line PySem.F.plainAttrs_dict PySem.F.slot_dict_setdefault PySem.F.type_dict_setdefault (thn (ho.run pins s σ H _ I h) fun u s1 ⟨x, H1, I1, rx, a, ex, d, q1⟩ => ?_)
  subst ex
  obtain rfl : u = Value.ref a := rx
  obtain ⟨t1, t2, _⟩ := isD_at I1 d
  refine ⟨t1, t2, ?_⟩
  rw [m.trees]
  refine Calls.callWith_builtin rfl (Calls.evalArgs_plain (Calls.spliced_cons (thn (he.run pins s1 σ H1 _ I1 q1) fun iv s2 ⟨y, H2, I2, ry, q2⟩ =>
    Calls.spliced_cons (thn (hf.run pins s2 σ H2 _ I2 q2) fun fv s3 ⟨z, H3, I3, rz, kvs, k, b, ea, ey, eb, hl, q3, q4⟩ => Calls.spliced_nil ?_))))
  subst ey
  obtain rfl : iv = Value.ref b := ry
  exact d_setdT hu I3 ea eb rz hl (fun v hv w' s4 I4 rw' => ⟨v, _, I4, rw', q3 v hv⟩) fun hn w' s4 I4 rw' => ⟨z, _, I4, rw', q4 hn⟩
end
/-! ### keys by their data -/
def ikey : D → Option Key
  | .int i => some (.inl i)
  | .str x => some (.inr x)
  | _ => none
def ikeys : List D → Option (List Key)
  | [] => some []
  | d :: ds => (ikey d).bind fun k => (ikeys ds).map (k :: ·)
def tkey : D → Option (List Key)
  | .tuple ds => ikeys ds
  | _ => none
theorem ikey_eq {d : D} {k : Key} (h : ikey d = some k) : d = kD k := by
  unfold ikey at h
  split at h
  · cases h; rfl
  · cases h; rfl
  · cases h
theorem ikeys_eq : ∀ {ds : List D} {k : List Key}, ikeys ds = some k → ds = k.map kD
  | [], k, h => by cases h; rfl
  | d :: ds, k, h => by
    obtain ⟨a, ea, h⟩ := Option.bind_eq_some_iff.mp h
    obtain ⟨b, eb, h⟩ := Option.map_eq_some_iff.mp h
    cases h
    rw [ikey_eq ea, ikeys_eq eb]
    rfl
theorem tkey_eq {d : D} {k : List Key} (h : tkey d = some k) : d = kTD k := by
  unfold tkey at h
  split at h
  · rw [ikeys_eq h]; rfl
  · cases h
theorem eqv_kD (a b : Key) : PyData.eqv (kD a) (kD b) = decide (a = b) := by
  cases a <;> cases b <;> simp [kD, PyData.eqv]
  all_goals first | (rw [Bool.eq_iff_iff]; simp) | rfl
theorem eqv_kDs : ∀ (a b : List Key), PyData.eqvAll (a.map kD) (b.map kD) = decide (a = b)
  | [], [] => rfl
  | _ :: _, [] => rfl
  | [], _ :: _ => rfl
  | x :: xs, y :: ys => by
    rw [List.map_cons, List.map_cons, PyData.eqvAll, eqv_kD, eqv_kDs xs ys]
    simp
theorem eqv_kTD (a b : List Key) : PyData.eqv (kTD a) (kTD b) = decide (a = b) := eqv_kDs a b
/-- the place of a key -/
def posD (kvd : List (D × D)) (k : D) : Option Nat := kvd.findIdx? fun p => PyData.eqv p.1 k
def getD' (kvd : List (D × D)) (k : D) : Option D := (posD kvd k).bind fun n => (kvd[n]?).map (·.2)
section
variable {κ : Type} [DecidableEq κ] {c : κ → D}
theorem posD_cons {p : D × D} {kvd : List (D × D)} {k : D} : posD (p :: kvd) k = if PyData.eqv p.1 k then some 0 else (posD kvd k).map (· + 1) := by
  unfold posD
  rw [List.findIdx?_cons]
theorem pos_some (hc : ∀ a b, PyData.eqv (c a) (c b) = decide (a = b)) : ∀ {kvs : List (κ × V)} {kvd : List (D × D)} {k : κ} {n : Nat}, kvd.map Prod.fst = kvs.map (fun p => c p.1) → posD kvd (c k) = some n → ∃ v, kvs[n]? = some (k, v) ∧ valV kvs k = some v ∧ n < kvd.length
  | [], [], k, n, _, h => by cases h
  | [], p :: kvd, _, _, e, _ => by simp at e
  | p :: kvs, [], _, _, e, _ => by simp at e
  | p :: kvs, q :: kvd, k, n, e, h => by
    rw [List.map_cons, List.map_cons, List.cons.injEq] at e
    rw [posD_cons, e.1, hc] at h
    by_cases hk : p.1 = k
    · rw [decide_eq_true hk, if_pos rfl] at h
      cases h
      exact ⟨p.2, by simp [← hk], valV_pos hk, by simp⟩
    · rw [decide_eq_false hk] at h
      simp only [Bool.false_eq_true, if_false] at h
      obtain ⟨m, em, rfl⟩ := Option.map_eq_some_iff.mp h
      obtain ⟨v, h1, h2, h3⟩ := pos_some hc e.2 em
      exact ⟨v, by simpa using h1, by rw [valV_neg hk]; exact h2, by simpa using h3⟩
theorem pos_none (hc : ∀ a b, PyData.eqv (c a) (c b) = decide (a = b)) : ∀ {kvs : List (κ × V)} {kvd : List (D × D)} {k : κ}, kvd.map Prod.fst = kvs.map (fun p => c p.1) → posD kvd (c k) = none → valV kvs k = none
  | [], [], k, _, _ => rfl
  | [], p :: kvd, _, e, _ => by simp at e
  | p :: kvs, [], _, e, _ => by simp at e
  | p :: kvs, q :: kvd, k, e, h => by
    rw [List.map_cons, List.map_cons, List.cons.injEq] at e
    rw [posD_cons, e.1, hc] at h
    by_cases hk : p.1 = k
    · rw [decide_eq_true hk, if_pos rfl] at h
      cases h
    · rw [decide_eq_false hk] at h
      simp only [Bool.false_eq_true, if_false] at h
      rw [valV_neg hk]
      exact pos_none hc e.2 (by simpa using h)
end
section
variable {K : PySem.W.Frag} {X : Cx} {Γ Γ' Γ1 Γ2 Γ3 : List T} {H H' H1 H2 H3 : Hp} {Z Z' Z1 Z2 Z3 : FzT} {F F' F1 F2 : List Addr} {σ σ' σ1 : L2.St} {δ δ' : List D} {en eb ec er : List T} {et : T} {W W' : Ends}
theorem sha_kV : ∀ {k : List Key} {vs : List V}, ShA K H Z vs (k.map kD) → vs = k.map kV
  | [], _, .nil => rfl
  | .inl i :: k, _, .cons h r => by
    have e := h.intOf
    subst e
    rw [sha_kV r]; rfl
  | .inr x :: k, _, .cons h r => by
    have e := h.strOf
    subst e
    rw [sha_kV r]; rfl
theorem Sh.keyT {v : V} {k : List Key} (h : Sh K H Z v (kTD k)) : ∃ b, v = .ref b ∧ H b = some (.tup (k.map kV)) := by
  cases h with
  | tup h r => exact ⟨_, rfl, by rw [h, sha_kV r]⟩
theorem Sh.keyK {v : V} {k : Key} (h : Sh K H Z v (kD k)) : v = kV k := by
  cases k with
  | inl i => exact h.intOf
  | inr x => exact h.strOf
/-- {} -/
def xDict0 : EF := fun _ => some (.dict [])
theorem cDNewK {t : T} {pos : Pos} : PE X (.Dict [] [] pos) (tC X.K Γ (.dk t) xDict0) := pe_dnewK.imp fun σ H Q ⟨δ, Z, F, d, ok, e, k⟩ => by
  cases e
  exact fun p hp => k _ _ Z [p] (Ext.new hp) (.dk (kvs := []) upd_same rfl .nil) (by simp) fun a ha => by
    simp only [List.mem_singleton] at ha
    subst ha
    exact ⟨hp, fun z => ok.zs _ z hp⟩
def xDict0T : EF := fun _ => some (dtD [])
theorem cDNewT {t : T} {pos : Pos} : PE X (.Dict [] [] pos) (tC X.K Γ (.dt t) xDict0T) := pe_dnewT.imp fun σ H Q ⟨δ, Z, F, d, ok, e, k⟩ => by
  cases e
  exact fun p hp => k _ _ Z [p] (Ext.new hp) (.dt (kvs := []) upd_same rfl .nil) (by simp) fun a ha => by
    simp only [List.mem_singleton] at ha
    subst ha
    exact ⟨hp, fun z => ok.zs _ z hp⟩
end
end Pv

set_option Elab.async false
set_option linter.all false
set_option maxRecDepth 100000
/-! Pv14: dicts in slots: setdefault, d[k] = v, frozen dicts (printed by dicts.py). -/
namespace Pv
open PySem PySem.Spec PyProof.Rows L2
def getDctK (δ : List D) (i : Nat) : Option (List (D × D)) := match δ[i]? with | some (.dict ds) => some ds | _ => none
theorem getDctK_eq {δ : List D} {i : Nat} {ds : List (D × D)} (h : getDctK δ i = some ds) : δ[i]? = some (.dict ds) := by
  unfold getDctK at h
  split at h
  · cases h; assumption
  · cases h
def getDctT (δ : List D) (i : Nat) : Option (List (D × D)) := match δ[i]? with | some (.dict ((.bool true, .none) :: ds)) => some ds | _ => none
theorem getDctT_eq {δ : List D} {i : Nat} {ds : List (D × D)} (h : getDctT δ i = some ds) : δ[i]? = some (dtD ds) := by
  unfold getDctT at h
  split at h
  · cases h; assumption
  · cases h
def sdK (kvd : List (D × D)) (k : D) : Option (List (D × D) × Nat) := if kvd.length < sizeLine then match posD kvd k with | some n => some (kvd, n) | none => some (kvd ++ [(k, .list [])], kvd.length) else none
/-- x.setdefault(k, []).append(e) -/
def xSdApp (dec : D → Bool) (get : List D → Nat → Option (List (D × D))) (mk : List (D × D) → D) (i : Nat) (fk fv : EF) : EM := fun δ => (fk δ).bind fun k => if dec k then (get δ i).bind fun kvd => (sdK kvd k).bind fun q => (fv (δ.set i (mk q.1))).bind fun y => match q.1[q.2]? with
  | some (kk, .list es) => if es.length < sizeLine then some (.none, δ.set i (mk (q.1.set q.2 (kk, .list (es ++ [y]))))) else none
  | _ => none else none
def xSdK : Nat → EF → EF → EM := xSdApp (fun d => (ikey d).isSome) getDctK .dict
def xSdT : Nat → EF → EF → EM := xSdApp (fun d => (tkey d).isSome) getDctT dtD
theorem map_fst_set {kvd : List (D × D)} {n : Nat} {k v w : D} (h : kvd[n]? = some (k, w)) : (kvd.set n (k, v)).map Prod.fst = kvd.map Prod.fst := by
  refine List.ext_getElem? fun j => ?_
  rw [List.getElem?_map, List.getElem?_map]
  by_cases hj : n = j
  · subst hj
    rw [List.getElem?_set_self (List.getElem?_eq_some_iff.mp h).1, h]
    rfl
  · rw [List.getElem?_set_ne hj]
theorem map_snd_set {kvd : List (D × D)} {n : Nat} {k v : D} : (kvd.set n (k, v)).map Prod.snd = (kvd.map Prod.snd).set n v := by
  rw [List.map_set]
section
variable {K : PySem.W.Frag} {X : Cx} {Γ Γ' Γ1 Γ2 Γ3 : List T} {H H' H1 H2 H3 : Hp} {Z Z' Z1 Z2 Z3 : FzT} {F F' F1 F2 : List Addr} {σ σ' σ1 : L2.St} {δ δ' : List D} {en eb ec er : List T} {et : T} {W W' : Ends}
theorem Stp.newF {p : Addr} {o : HO} (hp : H p = none) : Stp H Z F (L2.upd H p o) Z (F ++ [p]) :=
  let s : Stp H Z F (L2.upd H p o) Z F := (Ext.new hp).stp
  ⟨s.keep, s.mono, fun a h => (List.mem_append.mp h).elim (fun h => .inl h) fun h => .inr (by simp only [List.mem_singleton] at h; rw [h]; exact hp), s.frz, s.live, s.zs⟩
theorem RepA.upAt {t : T} {xs : List V} {ds : List D} {f : List Addr} {n : Nat} {d : D} {b : Addr} {o : HO} (su : Stp H Z [b] H' Z [b]) (mu : Mu H [b]) (dzb : ∀ x ∈ [b], ¬ Z x) {d' : D} {v : V} (nd : f.Nodup) (r : RepA K H Z t xs ds f) (h : ds[n]? = some d) (hv : xs[n]? = some v) (hd : Rep K H Z t v d [b]) (hb : b ∈ f → True)
    (q : ∀ f1 g f2, f = f1 ++ g ++ f2 → Rep K H Z t v d g → g = [b]) (r' : Rep K H' Z t v d' [b]) : RepA K H' Z t xs (ds.set n d') f := by
  obtain ⟨u, f1, gg, f2, hu, rfl, q1, qv, q2⟩ := r.at h
  rw [hv] at hu
  cases hu
  have eg := q f1 gg f2 rfl qv
  subst eg
  have hnl : n < ds.length := (List.getElem?_eq_some_iff.mp h).1
  have nb : ∀ x, x ∈ f1 ∨ x ∈ f2 → x ∉ [b] := fun x hx hz => by
    simp only [List.mem_singleton] at hz
    subst hz
    simp only [List.nodup_append, List.mem_append, List.mem_singleton] at nd
    obtain ⟨⟨_, _, n2⟩, _, n3⟩ := nd
    rcases hx with h | h
    · exact n2 x h x rfl rfl
    · exact n3 x (.inr rfl) x h rfl
  have p1 := q1.step su mu dzb fun x hx => nb x (.inl hx)
  have p2 := q2.step su mu dzb fun x hx => nb x (.inr hx)
  have := (p1.app (RepA.one r')).app p2
  rw [set_split hnl, nth_split hv]
  simpa [List.append_assoc] using this

/-! ### keys: ints and texts -/
theorem dOpnK {i : Nat} {t : T} {ds : List (D × D)} (o : Ok K Γ σ δ H Z F) (ht : Γ[i]? = some (.dk t)) (e : δ[i]? = some (.dict ds)) :
    ∃ a kvs f F1, σ[i]? = some (some (.ref a)) ∧ H a = some (.dK kvs) ∧ ds.map Prod.fst = kvs.map (fun p => kD p.1) ∧ RepA K H Z t (kvs.map Prod.snd) (ds.map Prod.snd) f ∧ Ok K (Γ.set i .no) σ δ H Z F1 ∧ (F1 ++ (a :: f)).Nodup ∧ ∀ x ∈ F1 ++ (a :: f), x ∈ F := by
  obtain ⟨v, F1, g, h1, h2, h3, h4, h5⟩ := o.take ht (fun z => nomatch z) e
  cases h2 with
  | dk ha hk r => exact ⟨_, _, _, F1, h1, ha, hk, r, h3, h4, h5⟩
theorem dPutK {i : Nat} {t : T} {a : Addr} {kvs kvs' : List (Key × V)} {ds' : List (D × D)} {f' : List Addr} (o1 : Ok K (Γ.set i .no) σ δ H Z F1) (hi : Γ[i]? = some (.dk t)) (hv : σ[i]? = some (some (.ref a))) (ha : H a = some (.dK kvs))
    (nd : (F1 ++ (a :: f')).Nodup) (dz : ∀ x ∈ a :: f', ¬ Z x) (ek : ds'.map Prod.fst = kvs'.map (fun p => kD p.1)) (r : RepA K (upd H a (.dK kvs')) Z t (kvs'.map Prod.snd) (ds'.map Prod.snd) f') : ∃ F', Ok K Γ σ (δ.set i (.dict ds')) (upd H a (.dK kvs')) Z F' ∧ ∀ x ∈ F', x ∈ F1 ++ (a :: f') := by
  have s : Stp H Z [a] (upd H a (.dK kvs')) Z [a] := Stp.upd (by simp)
  have m : Mu H [a] := fun x hx => by simp only [List.mem_singleton] at hx; subst hx; exact ⟨_, ha, rfl⟩
  have dza : ∀ x ∈ [a], ¬ Z x := fun x hx => dz x (by simp only [List.mem_singleton] at hx; rw [hx]; exact List.mem_cons_self)
  have nf1 : ∀ x ∈ F1, x ∉ [a] := fun x hx hz => nd_apart nd x (by simp only [List.mem_singleton] at hz; rw [hz]; exact List.mem_cons_self) hx
  have o2 : Ok K (Γ.set i .no) σ δ (upd H a (.dK kvs')) Z F1 := ⟨o1.env.step s m dza nf1, o1.nd, o1.dz, fun x hx => upd_live (o1.zs x hx)⟩
  have rr : Rep K (upd H a (.dK kvs')) Z (.dk t) (.ref a) (.dict ds') (a :: f') := .dk upd_same ek r
  have hl : i < (Γ.set i .no).length := by rw [List.length_set]; exact (List.getElem?_eq_some_iff.mp hi).1
  obtain ⟨F', o3, sb⟩ := o2.set hl rr nd dz
  rw [set_self hv, List.set_set, set_self hi] at o3
  exact ⟨F', o3, sb⟩
/-- the list at a key gets one item more -/
theorem nestK {i n : Nat} {a : Addr} {kvs : List (Key × V)} {ds : List (D × D)} {kk : D} {es : List D} (o : Ok K Γ σ δ H Z F) (ht : Γ[i]? = some (.dk (.ol .sh))) (e : δ[i]? = some (.dict ds)) (en : ds[n]? = some (kk, .list es)) (hv : σ[i]? = some (some (.ref a))) (ha : H a = some (.dK kvs)) :
    ∃ b ys k, kvs[n]? = some (k, .ref b) ∧ H b = some (.lst ys) ∧ ys.length = es.length ∧ b ∈ F ∧ ∀ v y, Sh K H Z v y → ∃ F', Ok K Γ σ (δ.set i (.dict (ds.set n (kk, .list (es ++ [y]))))) (upd H b (.lst (ys ++ [v]))) Z F' ∧ ∀ x ∈ F', x ∈ F := by
  obtain ⟨a', kvs', fs, F2, hv', ha', ek, ra, o2, nd2, sb2⟩ := dOpnK o ht e
  rw [hv] at hv'
  have ea : a = a' := by simpa using hv'
  subst ea
  rw [ha] at ha'
  cases ha'
  have en' : (ds.map Prod.snd)[n]? = some (.list es) := by rw [List.getElem?_map, en]; rfl
  obtain ⟨u, f1, gg, f2, hu, rfl, q1, qv, q2⟩ := ra.at en'
  obtain ⟨b, ys, es', fb, rfl, ee, rfl, hb, rb⟩ := ofList qv
  cases ee
  obtain ⟨sb', rfl⟩ := rb.shA
  obtain ⟨⟨k, u'⟩, hk, hu'⟩ : ∃ p, kvs[n]? = some p ∧ p.2 = .ref b := by
    rw [List.getElem?_map] at hu
    exact Option.map_eq_some_iff.mp hu
  cases hu'
  have bF : b ∈ F := sb2 b (by simp)
  refine ⟨b, ys, k, hk, hb, sb'.len, bF, fun v y rv => ?_⟩
  have su : Stp H Z [b] (upd H b (.lst (ys ++ [v]))) Z [b] := Stp.upd (by simp)
  have mu : Mu H [b] := Mu.one hb
  have dzb : ∀ x ∈ [b], ¬ Z x := fun x hx => by simp only [List.mem_singleton] at hx; rw [hx]; exact o.dz b bF
  have nd3 := nd2
  have nb : ∀ x, x ∈ F2 ∨ x = a ∨ x ∈ f1 ∨ x ∈ f2 → x ∉ [b] := fun x hx hz => by
    simp only [List.mem_singleton] at hz
    subst hz
    simp only [List.nodup_append, List.nodup_cons, List.mem_append, List.mem_cons, List.mem_singleton, List.not_mem_nil, or_false] at nd3
    obtain ⟨_, ⟨n1, ⟨⟨_, _, n2⟩, _, n3⟩⟩, n4⟩ := nd3
    rcases hx with h | h | h | h
    · exact n4 x h x (.inr (.inl (.inr rfl))) rfl
    · exact n1 (.inl (.inr h.symm))
    · exact n2 x h x rfl rfl
    · exact n3 x (.inr rfl) x h rfl
  have o4 : Ok K (Γ.set i .no) σ δ (upd H b (.lst (ys ++ [v]))) Z F2 := ⟨o2.env.step su mu dzb fun x hx => nb x (.inl hx), o2.nd, o2.dz, fun x hx => upd_live (o2.zs x hx)⟩
  have ha3 : (upd H b (.lst (ys ++ [v]))) a = some (.dK kvs) := by rw [upd_ne (fun z => nb a (.inr (.inl rfl)) (by simp [z]))]; exact ha
  have rN : RepA K (upd H b (.lst (ys ++ [v]))) Z (.ol .sh) (kvs.map Prod.snd) ((ds.set n (kk, .list (es ++ [y]))).map Prod.snd) (f1 ++ [b] ++ f2) := by
    have p1 := q1.step su mu dzb fun x hx => nb x (.inr (.inr (.inl hx)))
    have p2 := q2.step su mu dzb fun x hx => nb x (.inr (.inr (.inr hx)))
    have pm : Rep K (upd H b (.lst (ys ++ [v]))) Z (.ol .sh) (.ref b) (.list (es ++ [y])) [b] := .ol upd_same (((sb'.app (.cons rv .nil)).step su mu dzb).repA)
    have := (p1.app (RepA.one pm)).app p2
    rw [map_snd_set, set_split (List.getElem?_eq_some_iff.mp en').1]
    rw [nth_split hu]
    simpa [List.append_assoc] using this
  have rA : Rep K (upd H b (.lst (ys ++ [v]))) Z (.dk (.ol .sh)) (.ref a) (.dict (ds.set n (kk, .list (es ++ [y])))) (a :: (f1 ++ [b] ++ f2)) := .dk ha3 (by rw [map_fst_set en]; exact ek) rN
  have hl : i < (Γ.set i .no).length := by rw [List.length_set]; exact (List.getElem?_eq_some_iff.mp ht).1
  obtain ⟨F3, o5, sb5⟩ := o4.set hl rA nd3 fun x hx => o.dz x (sb2 x (List.mem_append_right _ hx))
  rw [set_self hv, List.set_set, set_self ht] at o5
  exact ⟨F3, o5, fun x hx => sb2 x (sb5 x hx)⟩
/-- x.setdefault(k, []).append(e) -/
theorem mSdK (i : Nat) {c : Expr} {fk fv : EF} (h : PE X c (tBM X.K "list" rAppend (tDSetd (tVar i) (tP X.K Γ .sh fk) (tLst tNil)) (tCons (tP X.K Γ .sh fv) tNil))) (ht : Γ[i]? = some (.dk (.ol .sh))) : PE X c (tM X.K Γ Γ .sh (xSdK i fk fv)) :=
  h.imp fun σ H Q ⟨δ, Z, F, d, δ', ok, e, k⟩ => by
  obtain ⟨kd, e1, e2⟩ := Option.bind_eq_some_iff.mp e
  split at e2
  · rename_i hdec
    obtain ⟨ky, hky⟩ := Option.isSome_iff_exists.mp hdec
    have ekd := ikey_eq hky
    subst ekd
    obtain ⟨kvd, e3, e4⟩ := Option.bind_eq_some_iff.mp e2
    obtain ⟨⟨kvd1, n⟩, e5, e6⟩ := Option.bind_eq_some_iff.mp e4
    obtain ⟨y, e7, e8⟩ := Option.bind_eq_some_iff.mp e6
    simp only at e8 e7
    split at e8
    · rename_i kk es hes
      split at e8
      · rename_i hlt
        cases e8
        obtain ⟨a, kvs, fs, F2, hv, ha, ek, ra, o2, nd2, sb2⟩ := dOpnK ok ht (getDctK_eq e3)
        refine ⟨.ref a, hv, a, rfl, .inl ⟨kvs, .inl ha⟩, δ, Z, F, kD ky, ok, e1, fun kv H1 Z1 g1 s1 r1 => ⟨Nat.zero_le _, fun p hp => ?_⟩⟩
        have s2 : Ext H Z (upd H1 p (.lst [])) Z1 := s1.trans (Ext.new hp)
        have ok2 := ok.ext s2
        have ha2 := s2.keep a _ ha (by simp)
        have sk : Sh X.K (upd H1 p (.lst [])) Z1 kv (kD ky) := (r1.ext (Ext.new hp)).shOf.1
        unfold sdK at e5
        split at e5
        · rename_i hz
          have hzl : kvs.length < sizeLine := by
            have l1 := congrArg List.length ek
            rw [List.length_map, List.length_map] at l1
            rw [← l1]
            exact hz
          -- what follows from the heap with the list in its place
          have tail : ∀ (b : Addr) (H3 : Hp) (F3 : List Addr) (kvs1 : List (Key × V)), Ok X.K Γ σ (δ.set i (.dict kvd1)) H3 Z1 F3 → Stp H Z F H3 Z1 F3 → H3 a = some (.dK kvs1) → (∃ k, kvs1[n]? = some (k, .ref b)) →
              tyV X.K "list" (.ref b) H3 ∧ tCons (tP X.K Γ .sh fv) tNil σ H3 fun xs H2 => rAppend (.ref b) xs H2 Q := fun b H3 F3 kvs1 o3 st3 ha3 ⟨k0, hk0⟩ => by
            have hi : i < δ.length := (List.getElem?_eq_some_iff.mp (getDctK_eq e3)).1
            obtain ⟨b', ys, k', h1, h2, h3, h4, h5⟩ := nestK o3 ht (List.getElem?_set_self hi) hes hv ha3
            rw [hk0] at h1
            cases h1
            refine ⟨.inl ⟨rfl, ys, SqL.of h2⟩, δ.set i (.dict kvd1), Z1, F3, y, o3, e7, fun v H4 Z4 g4 s4 r4 => ?_⟩
            obtain ⟨b'', ys', k'', h1, h2', h3', h4', h5'⟩ := nestK (o3.ext s4) ht (List.getElem?_set_self hi) hes hv (s4.keep a _ ha3 (by simp))
            rw [hk0] at h1
            cases h1
            obtain ⟨F5, o5, sb5⟩ := h5' v y r4.shOf.1
            rw [List.set_set] at o5
            refine ⟨b, ys', v, rfl, rfl, h2', by rw [h3']; exact hlt, k .non _ Z4 F5 [] ?_ o5 (.sh .non) (by simpa using o5.nd) (fun _ q => nomatch q)⟩
            exact ((st3.trans s4.stp).trans (Stp.upd h4')).sub fun x hx => sb5 x (by simpa using hx)
          obtain rfl := sk.keyK
          refine ⟨kvs, ky, ha2, rfl, hzl, ?_, ?_⟩
          · intro v hv2
            cases ep : posD kvd (kD ky) with
            | none => rw [pos_none eqv_kD ek ep] at hv2; cases hv2
            | some m =>
              rw [ep] at e5
              cases e5
              obtain ⟨v', hn, hv3, _⟩ := pos_some eqv_kD ek ep
              rw [hv2] at hv3
              cases hv3
              have eδ := set_self (getDctK_eq e3)
              have o3 := ok2
              rw [← eδ] at o3
              obtain ⟨b, ys, k', h1, _⟩ := nestK (by rw [eδ] at o3; exact o3) ht (getDctK_eq e3) hes hv ha2
              rw [hn] at h1
              cases h1
              exact tail b _ F kvs o3 s2.stp ha2 ⟨_, hn⟩
          · intro hn2
            cases ep : posD kvd (kD ky) with
            | some m => obtain ⟨v', hn, hv3, _⟩ := pos_some eqv_kD ek ep; rw [hn2] at hv3; cases hv3
            | none =>
              rw [ep] at e5
              cases e5
              rw [putK_new _ hn2]
              have np : ∀ x ∈ F2 ++ a :: fs, x ≠ p := fun x hx z => by
                subst z
                exact ok.mu.some (sb2 x hx) (Same.free s1.same hp)
              have nap : a ≠ p := np a (by simp)
              have o2' := o2.ext s2
              have nd4 : (F2 ++ (a :: (fs ++ [p]))).Nodup := by
                have : ((F2 ++ a :: fs) ++ [p]).Nodup := nd_of nd2 (by simp) fun x hx hz => by
                  simp only [List.mem_singleton] at hx
                  exact np x hz hx
                simpa [List.append_assoc] using this
              have dz4 : ∀ x ∈ a :: (fs ++ [p]), ¬ Z1 x := fun x hx hz => by
                rcases List.mem_cons.mp hx with h | h
                · exact ok2.dz x (sb2 x (by simp [h])) hz
                · rcases List.mem_append.mp h with h | h
                  · exact ok2.dz x (sb2 x (by simp [h])) hz
                  · simp only [List.mem_singleton] at h
                    subst h
                    exact (ok.ext s1).zs x hz hp
              have su : Stp (upd H1 p (.lst [])) Z1 [a] (upd (upd H1 p (.lst [])) a (.dK (kvs ++ [(ky, .ref p)]))) Z1 [a] := Stp.upd (by simp)
              have mu : Mu (upd H1 p (.lst [])) [a] := fun x hx => by simp only [List.mem_singleton] at hx; subst hx; exact ⟨_, ha2, rfl⟩
              have dza : ∀ x ∈ [a], ¬ Z1 x := fun x hx => by simp only [List.mem_singleton] at hx; subst hx; exact dz4 x (by simp)
              have nda : a ∉ fs := (List.nodup_cons.mp (List.nodup_append.mp nd2).2.1).1
              have rOld := (ra.ext s2).step su mu dza fun x hx hz => nda (by simp only [List.mem_singleton] at hz; rw [hz] at hx; exact hx)
              have rp : Rep X.K (upd (upd H1 p (.lst [])) a (.dK (kvs ++ [(ky, .ref p)]))) Z1 (.ol .sh) (.ref p) (.list []) [p] := .ol (by rw [upd_ne nap.symm, upd_same]) .nil
              obtain ⟨F3, o3, sb3⟩ := dPutK (kvs' := kvs ++ [(ky, .ref p)]) (ds' := kvd ++ [(kD ky, .list [])]) o2' ht hv ha2 nd4 dz4 (by rw [List.map_append, List.map_append, ek]; rfl) (by rw [List.map_append, List.map_append]; exact rOld.app (RepA.one rp))
              refine tail p _ F3 _ o3 ?_ upd_same ⟨ky, ?_⟩
              · refine ((s1.stp.trans (Stp.newF hp)).trans (Stp.upd (F := F ++ [p]) (by simp [sb2 a (by simp)]))).sub fun x hx => ?_
                have := sb3 x hx
                simp only [List.mem_append, List.mem_cons, List.mem_singleton] at this ⊢
                rcases this with h | h | h | h
                · exact .inl (sb2 x (by simp [h]))
                · exact .inl (sb2 x (by simp [h]))
                · exact .inl (sb2 x (by simp [h]))
                · exact .inr (by simpa using h)
              · have l1 := congrArg List.length ek
                rw [List.length_map, List.length_map] at l1
                rw [l1, List.getElem?_append_right (Nat.le_refl _), Nat.sub_self]
                rfl
        · cases e5
      · cases e8
    · cases e8
  · cases e2

/-! ### keys: tuples of ints and texts -/
theorem dOpnT {i : Nat} {t : T} {ds : List (D × D)} (o : Ok K Γ σ δ H Z F) (ht : Γ[i]? = some (.dt t)) (e : δ[i]? = some (dtD ds)) :
    ∃ a kvs f F1, σ[i]? = some (some (.ref a)) ∧ H a = some (.dT kvs) ∧ ds.map Prod.fst = kvs.map (fun p => kTD p.1) ∧ RepA K H Z t (kvs.map Prod.snd) (ds.map Prod.snd) f ∧ Ok K (Γ.set i .no) σ δ H Z F1 ∧ (F1 ++ (a :: f)).Nodup ∧ ∀ x ∈ F1 ++ (a :: f), x ∈ F := by
  obtain ⟨v, F1, g, h1, h2, h3, h4, h5⟩ := o.take ht (fun z => nomatch z) e
  cases h2 with
  | dt ha hk r => exact ⟨_, _, _, F1, h1, ha, hk, r, h3, h4, h5⟩
theorem dPutT {i : Nat} {t : T} {a : Addr} {kvs kvs' : List (List Key × V)} {ds' : List (D × D)} {f' : List Addr} (o1 : Ok K (Γ.set i .no) σ δ H Z F1) (hi : Γ[i]? = some (.dt t)) (hv : σ[i]? = some (some (.ref a))) (ha : H a = some (.dT kvs))
    (nd : (F1 ++ (a :: f')).Nodup) (dz : ∀ x ∈ a :: f', ¬ Z x) (ek : ds'.map Prod.fst = kvs'.map (fun p => kTD p.1)) (r : RepA K (upd H a (.dT kvs')) Z t (kvs'.map Prod.snd) (ds'.map Prod.snd) f') : ∃ F', Ok K Γ σ (δ.set i (dtD ds')) (upd H a (.dT kvs')) Z F' ∧ ∀ x ∈ F', x ∈ F1 ++ (a :: f') := by
  have s : Stp H Z [a] (upd H a (.dT kvs')) Z [a] := Stp.upd (by simp)
  have m : Mu H [a] := fun x hx => by simp only [List.mem_singleton] at hx; subst hx; exact ⟨_, ha, rfl⟩
  have dza : ∀ x ∈ [a], ¬ Z x := fun x hx => dz x (by simp only [List.mem_singleton] at hx; rw [hx]; exact List.mem_cons_self)
  have nf1 : ∀ x ∈ F1, x ∉ [a] := fun x hx hz => nd_apart nd x (by simp only [List.mem_singleton] at hz; rw [hz]; exact List.mem_cons_self) hx
  have o2 : Ok K (Γ.set i .no) σ δ (upd H a (.dT kvs')) Z F1 := ⟨o1.env.step s m dza nf1, o1.nd, o1.dz, fun x hx => upd_live (o1.zs x hx)⟩
  have rr : Rep K (upd H a (.dT kvs')) Z (.dt t) (.ref a) (dtD ds') (a :: f') := .dt upd_same ek r
  have hl : i < (Γ.set i .no).length := by rw [List.length_set]; exact (List.getElem?_eq_some_iff.mp hi).1
  obtain ⟨F', o3, sb⟩ := o2.set hl rr nd dz
  rw [set_self hv, List.set_set, set_self hi] at o3
  exact ⟨F', o3, sb⟩
/-- the list at a key gets one item more -/
theorem nestT {i n : Nat} {a : Addr} {kvs : List (List Key × V)} {ds : List (D × D)} {kk : D} {es : List D} (o : Ok K Γ σ δ H Z F) (ht : Γ[i]? = some (.dt (.ol .sh))) (e : δ[i]? = some (dtD ds)) (en : ds[n]? = some (kk, .list es)) (hv : σ[i]? = some (some (.ref a))) (ha : H a = some (.dT kvs)) :
    ∃ b ys k, kvs[n]? = some (k, .ref b) ∧ H b = some (.lst ys) ∧ ys.length = es.length ∧ b ∈ F ∧ ∀ v y, Sh K H Z v y → ∃ F', Ok K Γ σ (δ.set i (dtD (ds.set n (kk, .list (es ++ [y]))))) (upd H b (.lst (ys ++ [v]))) Z F' ∧ ∀ x ∈ F', x ∈ F := by
  obtain ⟨a', kvs', fs, F2, hv', ha', ek, ra, o2, nd2, sb2⟩ := dOpnT o ht e
  rw [hv] at hv'
  have ea : a = a' := by simpa using hv'
  subst ea
  rw [ha] at ha'
  cases ha'
  have en' : (ds.map Prod.snd)[n]? = some (.list es) := by rw [List.getElem?_map, en]; rfl
  obtain ⟨u, f1, gg, f2, hu, rfl, q1, qv, q2⟩ := ra.at en'
  obtain ⟨b, ys, es', fb, rfl, ee, rfl, hb, rb⟩ := ofList qv
  cases ee
  obtain ⟨sb', rfl⟩ := rb.shA
  obtain ⟨⟨k, u'⟩, hk, hu'⟩ : ∃ p, kvs[n]? = some p ∧ p.2 = .ref b := by
    rw [List.getElem?_map] at hu
    exact Option.map_eq_some_iff.mp hu
  cases hu'
  have bF : b ∈ F := sb2 b (by simp)
  refine ⟨b, ys, k, hk, hb, sb'.len, bF, fun v y rv => ?_⟩
  have su : Stp H Z [b] (upd H b (.lst (ys ++ [v]))) Z [b] := Stp.upd (by simp)
  have mu : Mu H [b] := Mu.one hb
  have dzb : ∀ x ∈ [b], ¬ Z x := fun x hx => by simp only [List.mem_singleton] at hx; rw [hx]; exact o.dz b bF
  have nd3 := nd2
  have nb : ∀ x, x ∈ F2 ∨ x = a ∨ x ∈ f1 ∨ x ∈ f2 → x ∉ [b] := fun x hx hz => by
    simp only [List.mem_singleton] at hz
    subst hz
    simp only [List.nodup_append, List.nodup_cons, List.mem_append, List.mem_cons, List.mem_singleton, List.not_mem_nil, or_false] at nd3
    obtain ⟨_, ⟨n1, ⟨⟨_, _, n2⟩, _, n3⟩⟩, n4⟩ := nd3
    rcases hx with h | h | h | h
    · exact n4 x h x (.inr (.inl (.inr rfl))) rfl
    · exact n1 (.inl (.inr h.symm))
    · exact n2 x h x rfl rfl
    · exact n3 x (.inr rfl) x h rfl
  have o4 : Ok K (Γ.set i .no) σ δ (upd H b (.lst (ys ++ [v]))) Z F2 := ⟨o2.env.step su mu dzb fun x hx => nb x (.inl hx), o2.nd, o2.dz, fun x hx => upd_live (o2.zs x hx)⟩
  have ha3 : (upd H b (.lst (ys ++ [v]))) a = some (.dT kvs) := by rw [upd_ne (fun z => nb a (.inr (.inl rfl)) (by simp [z]))]; exact ha
  have rN : RepA K (upd H b (.lst (ys ++ [v]))) Z (.ol .sh) (kvs.map Prod.snd) ((ds.set n (kk, .list (es ++ [y]))).map Prod.snd) (f1 ++ [b] ++ f2) := by
    have p1 := q1.step su mu dzb fun x hx => nb x (.inr (.inr (.inl hx)))
    have p2 := q2.step su mu dzb fun x hx => nb x (.inr (.inr (.inr hx)))
    have pm : Rep K (upd H b (.lst (ys ++ [v]))) Z (.ol .sh) (.ref b) (.list (es ++ [y])) [b] := .ol upd_same (((sb'.app (.cons rv .nil)).step su mu dzb).repA)
    have := (p1.app (RepA.one pm)).app p2
    rw [map_snd_set, set_split (List.getElem?_eq_some_iff.mp en').1]
    rw [nth_split hu]
    simpa [List.append_assoc] using this
  have rA : Rep K (upd H b (.lst (ys ++ [v]))) Z (.dt (.ol .sh)) (.ref a) (dtD (ds.set n (kk, .list (es ++ [y])))) (a :: (f1 ++ [b] ++ f2)) := .dt ha3 (by rw [map_fst_set en]; exact ek) rN
  have hl : i < (Γ.set i .no).length := by rw [List.length_set]; exact (List.getElem?_eq_some_iff.mp ht).1
  obtain ⟨F3, o5, sb5⟩ := o4.set hl rA nd3 fun x hx => o.dz x (sb2 x (List.mem_append_right _ hx))
  rw [set_self hv, List.set_set, set_self ht] at o5
  exact ⟨F3, o5, fun x hx => sb2 x (sb5 x hx)⟩
/-- x.setdefault(k, []).append(e) -/
theorem mSdT (i : Nat) {c : Expr} {fk fv : EF} (h : PE X c (tBM X.K "list" rAppend (tDSetdT (tVar i) (tP X.K Γ .sh fk) (tLst tNil)) (tCons (tP X.K Γ .sh fv) tNil))) (ht : Γ[i]? = some (.dt (.ol .sh))) : PE X c (tM X.K Γ Γ .sh (xSdT i fk fv)) :=
  h.imp fun σ H Q ⟨δ, Z, F, d, δ', ok, e, k⟩ => by
  obtain ⟨kd, e1, e2⟩ := Option.bind_eq_some_iff.mp e
  split at e2
  · rename_i hdec
    obtain ⟨ky, hky⟩ := Option.isSome_iff_exists.mp hdec
    have ekd := tkey_eq hky
    subst ekd
    obtain ⟨kvd, e3, e4⟩ := Option.bind_eq_some_iff.mp e2
    obtain ⟨⟨kvd1, n⟩, e5, e6⟩ := Option.bind_eq_some_iff.mp e4
    obtain ⟨y, e7, e8⟩ := Option.bind_eq_some_iff.mp e6
    simp only at e8 e7
    split at e8
    · rename_i kk es hes
      split at e8
      · rename_i hlt
        cases e8
        obtain ⟨a, kvs, fs, F2, hv, ha, ek, ra, o2, nd2, sb2⟩ := dOpnT ok ht (getDctT_eq e3)
        refine ⟨.ref a, hv, a, rfl, .inr ⟨kvs, .inl ha⟩, δ, Z, F, kTD ky, ok, e1, fun kv H1 Z1 g1 s1 r1 => ⟨Nat.zero_le _, fun p hp => ?_⟩⟩
        have s2 : Ext H Z (upd H1 p (.lst [])) Z1 := s1.trans (Ext.new hp)
        have ok2 := ok.ext s2
        have ha2 := s2.keep a _ ha (by simp)
        have sk : Sh X.K (upd H1 p (.lst [])) Z1 kv (kTD ky) := (r1.ext (Ext.new hp)).shOf.1
        unfold sdK at e5
        split at e5
        · rename_i hz
          have hzl : kvs.length < sizeLine := by
            have l1 := congrArg List.length ek
            rw [List.length_map, List.length_map] at l1
            rw [← l1]
            exact hz
          -- what follows from the heap with the list in its place
          have tail : ∀ (b : Addr) (H3 : Hp) (F3 : List Addr) (kvs1 : List (List Key × V)), Ok X.K Γ σ (δ.set i (dtD kvd1)) H3 Z1 F3 → Stp H Z F H3 Z1 F3 → H3 a = some (.dT kvs1) → (∃ k, kvs1[n]? = some (k, .ref b)) →
              tyV X.K "list" (.ref b) H3 ∧ tCons (tP X.K Γ .sh fv) tNil σ H3 fun xs H2 => rAppend (.ref b) xs H2 Q := fun b H3 F3 kvs1 o3 st3 ha3 ⟨k0, hk0⟩ => by
            have hi : i < δ.length := (List.getElem?_eq_some_iff.mp (getDctT_eq e3)).1
            obtain ⟨b', ys, k', h1, h2, h3, h4, h5⟩ := nestT o3 ht (List.getElem?_set_self hi) hes hv ha3
            rw [hk0] at h1
            cases h1
            refine ⟨.inl ⟨rfl, ys, SqL.of h2⟩, δ.set i (dtD kvd1), Z1, F3, y, o3, e7, fun v H4 Z4 g4 s4 r4 => ?_⟩
            obtain ⟨b'', ys', k'', h1, h2', h3', h4', h5'⟩ := nestT (o3.ext s4) ht (List.getElem?_set_self hi) hes hv (s4.keep a _ ha3 (by simp))
            rw [hk0] at h1
            cases h1
            obtain ⟨F5, o5, sb5⟩ := h5' v y r4.shOf.1
            rw [List.set_set] at o5
            refine ⟨b, ys', v, rfl, rfl, h2', by rw [h3']; exact hlt, k .non _ Z4 F5 [] ?_ o5 (.sh .non) (by simpa using o5.nd) (fun _ q => nomatch q)⟩
            exact ((st3.trans s4.stp).trans (Stp.upd h4')).sub fun x hx => sb5 x (by simpa using hx)
          obtain ⟨bk, rfl, hbk⟩ := sk.keyT
          refine ⟨kvs, ky, bk, ha2, rfl, hbk, hzl, ?_, ?_⟩
          · intro v hv2
            cases ep : posD kvd (kTD ky) with
            | none => rw [pos_none eqv_kTD ek ep] at hv2; cases hv2
            | some m =>
              rw [ep] at e5
              cases e5
              obtain ⟨v', hn, hv3, _⟩ := pos_some eqv_kTD ek ep
              rw [hv2] at hv3
              cases hv3
              have eδ := set_self (getDctT_eq e3)
              have o3 := ok2
              rw [← eδ] at o3
              obtain ⟨b, ys, k', h1, _⟩ := nestT (by rw [eδ] at o3; exact o3) ht (getDctT_eq e3) hes hv ha2
              rw [hn] at h1
              cases h1
              exact tail b _ F kvs o3 s2.stp ha2 ⟨_, hn⟩
          · intro hn2
            cases ep : posD kvd (kTD ky) with
            | some m => obtain ⟨v', hn, hv3, _⟩ := pos_some eqv_kTD ek ep; rw [hn2] at hv3; cases hv3
            | none =>
              rw [ep] at e5
              cases e5
              rw [putK_new _ hn2]
              have np : ∀ x ∈ F2 ++ a :: fs, x ≠ p := fun x hx z => by
                subst z
                exact ok.mu.some (sb2 x hx) (Same.free s1.same hp)
              have nap : a ≠ p := np a (by simp)
              have o2' := o2.ext s2
              have nd4 : (F2 ++ (a :: (fs ++ [p]))).Nodup := by
                have : ((F2 ++ a :: fs) ++ [p]).Nodup := nd_of nd2 (by simp) fun x hx hz => by
                  simp only [List.mem_singleton] at hx
                  exact np x hz hx
                simpa [List.append_assoc] using this
              have dz4 : ∀ x ∈ a :: (fs ++ [p]), ¬ Z1 x := fun x hx hz => by
                rcases List.mem_cons.mp hx with h | h
                · exact ok2.dz x (sb2 x (by simp [h])) hz
                · rcases List.mem_append.mp h with h | h
                  · exact ok2.dz x (sb2 x (by simp [h])) hz
                  · simp only [List.mem_singleton] at h
                    subst h
                    exact (ok.ext s1).zs x hz hp
              have su : Stp (upd H1 p (.lst [])) Z1 [a] (upd (upd H1 p (.lst [])) a (.dT (kvs ++ [(ky, .ref p)]))) Z1 [a] := Stp.upd (by simp)
              have mu : Mu (upd H1 p (.lst [])) [a] := fun x hx => by simp only [List.mem_singleton] at hx; subst hx; exact ⟨_, ha2, rfl⟩
              have dza : ∀ x ∈ [a], ¬ Z1 x := fun x hx => by simp only [List.mem_singleton] at hx; subst hx; exact dz4 x (by simp)
              have nda : a ∉ fs := (List.nodup_cons.mp (List.nodup_append.mp nd2).2.1).1
              have rOld := (ra.ext s2).step su mu dza fun x hx hz => nda (by simp only [List.mem_singleton] at hz; rw [hz] at hx; exact hx)
              have rp : Rep X.K (upd (upd H1 p (.lst [])) a (.dT (kvs ++ [(ky, .ref p)]))) Z1 (.ol .sh) (.ref p) (.list []) [p] := .ol (by rw [upd_ne nap.symm, upd_same]) .nil
              obtain ⟨F3, o3, sb3⟩ := dPutT (kvs' := kvs ++ [(ky, .ref p)]) (ds' := kvd ++ [(kTD ky, .list [])]) o2' ht hv ha2 nd4 dz4 (by rw [List.map_append, List.map_append, ek]; rfl) (by rw [List.map_append, List.map_append]; exact rOld.app (RepA.one rp))
              refine tail p _ F3 _ o3 ?_ upd_same ⟨ky, ?_⟩
              · refine ((s1.stp.trans (Stp.newF hp)).trans (Stp.upd (F := F ++ [p]) (by simp [sb2 a (by simp)]))).sub fun x hx => ?_
                have := sb3 x hx
                simp only [List.mem_append, List.mem_cons, List.mem_singleton] at this ⊢
                rcases this with h | h | h | h
                · exact .inl (sb2 x (by simp [h]))
                · exact .inl (sb2 x (by simp [h]))
                · exact .inl (sb2 x (by simp [h]))
                · exact .inr (by simpa using h)
              · have l1 := congrArg List.length ek
                rw [List.length_map, List.length_map] at l1
                rw [l1, List.getElem?_append_right (Nat.le_refl _), Nat.sub_self]
                rfl
        · cases e5
      · cases e8
    · cases e8
  · cases e2

end
end Pv

set_option Elab.async false
set_option linter.all false
set_option maxRecDepth 100000
/-! Pv15: dicts frozen; what is read in them; d[k] = v (printed by dicts2.py). -/
namespace Pv
open PySem PySem.Spec PyProof.Rows L2
def rDIn : R2 := fun y x H Q => ∃ a o, x = .ref a ∧ DGet H a y o ∧ Q (.bl o.isSome) H
def rDNotIn : R2 := fun y x H Q => ∃ a o, x = .ref a ∧ DGet H a y o ∧ Q (.bl (!o.isSome)) H
def rDGet : R2 := fun x y H Q => ∃ a v, x = .ref a ∧ DGet H a y (some v) ∧ Q v H
def dictOf : D → Option (Bool × List (D × D))
  | .dict ((.bool true, .none) :: ds) => some (true, ds)
  | .dict ds => some (false, ds)
  | _ => none
def keyOk (b : Bool) (k : D) : Bool := if b then (tkey k).isSome else (ikey k).isSome
def dDIn (x y : D) : Option D := (dictOf y).bind fun p => if keyOk p.1 x then some (.bool (posD p.2 x).isSome) else none
def dDNotIn (x y : D) : Option D := (dictOf y).bind fun p => if keyOk p.1 x then some (.bool (!(posD p.2 x).isSome)) else none
def dDGet (x y : D) : Option D := (dictOf x).bind fun p => if keyOk p.1 y then getD' p.2 y else none
/-- in its place, or at the end -/
def putD (kvd : List (D × D)) (k v : D) : List (D × D) := if (posD kvd k).isSome then kvd.map (fun p => if PyData.eqv p.1 k then (p.1, v) else p) else kvd ++ [(k, v)]
/-- x[k] = v -/
def sPutK (i : Nat) (f : EM) (g : EF) : SF := fun δ => (f δ).bind fun p => (g p.2).bind fun k => if (ikey k).isSome then (getDctK p.2 i).bind fun kvd => if kvd.length < sizeLine then some (.nx (p.2.set i (.dict (putD kvd k p.1)))) else none else none
def sPutT (i : Nat) (f : EM) (g : EF) : SF := fun δ => (f δ).bind fun p => (g p.2).bind fun k => if (tkey k).isSome then (getDctT p.2 i).bind fun kvd => if kvd.length < sizeLine then some (.nx (p.2.set i (dtD (putD kvd k p.1)))) else none else none
section
variable {K : PySem.W.Frag} {X : Cx} {Γ Γ' Γ1 Γ2 Γ3 : List T} {H H' H1 H2 H3 : Hp} {Z Z' Z1 Z2 Z3 : FzT} {F F' F1 F2 : List Addr} {σ σ' σ1 : L2.St} {δ δ' : List D} {en eb ec er : List T} {et : T} {W W' : Ends}
theorem op_din (hu : X.A.units + 1 < cLine) : OpR X (compareOp .In) rDIn := fun pins s σ H x y v u Q I rx ry ⟨a, o, ey, g, q⟩ => by
  subst ey
  obtain rfl : u = Value.ref a := ry
  exact d_in hu I g rx fun s3 I3 => ⟨.bl o.isSome, H, I3, rfl, q⟩
theorem op_dnotin (hu : X.A.units + 1 < cLine) : OpR X (compareOp .NotIn) rDNotIn := fun pins s σ H x y v u Q I rx ry ⟨a, o, ey, g, q⟩ => by
  subst ey
  obtain rfl : u = Value.ref a := ry
  exact d_notIn hu I g rx fun s3 I3 => ⟨.bl (!o.isSome), H, I3, rfl, q⟩
theorem pss_lockF {sts : List Stmt} {t : TS} (h : PSs X sts t) : PSs X sts (fun D σ H => ∃ d u, H d = some u ∧ Mut (some u) ∧ ∀ od, t D σ (upd H d (.frz od u))) := ⟨fun pins s σ H D I ⟨d, u, hd, mu, hw⟩ => by
  obtain ⟨od, I1⟩ := I.lock hd mu
  exact h.run pins s σ _ D I1 (hw od)⟩
theorem Stp.frzG {g : List Addr} (s : Stp H Z F H' Z' (F' ++ g)) (m : ∀ a ∈ g, H' a ≠ none) : Stp H Z F H' (zu Z' g) F' :=
  ⟨s.keep, fun a h => .inl (s.mono a h), fun a h => s.own a (List.mem_append_left _ h), fun a h => Or.elim h (s.frz a) fun h => .inr (s.own a (List.mem_append_right _ h)), s.live, fun a h => Or.elim h (s.zs a) fun h => .inr (m a h)⟩
theorem Ok.frzG {g : List Addr} (o : Ok K Γ σ δ H Z F) (nd : (F ++ g).Nodup) (m : ∀ a ∈ g, H a ≠ none) : Ok K Γ σ δ H (zu Z g) F :=
  ⟨o.env.zmono fun _ => .inl, o.nd, fun a ha h => Or.elim h (o.dz a ha) fun h => (List.nodup_append.mp nd).2.2 a ha a h rfl, fun a h => Or.elim h (o.zs a) fun h => m a h⟩
theorem _root_.L2.PE.or {e : Expr} {t t' : TE} (h : PE X e t) (h' : PE X e t') : PE X e (fun σ H Q => t σ H Q ∨ t' σ H Q) := ⟨fun pins s σ H Q I q => q.elim (fun q => h.run pins s σ H Q I q) fun q => h'.run pins s σ H Q I q⟩
theorem ShA.set1 : ∀ {vs : List V} {ds : List D} {v : V} {d : D} {n : Nat}, ShA K H Z vs ds → Sh K H Z v d → ShA K H Z (vs.set n v) (ds.set n d)
  | _, _, _, _, _, .nil, _ => .nil
  | _, _, _, _, 0, .cons h r, s => .cons s r
  | _, _, _, _, n + 1, .cons h r, s => .cons h (ShA.set1 r s)
theorem put_rel {κ : Type} [DecidableEq κ] {c : κ → D} (hc : ∀ a b, PyData.eqv (c a) (c b) = decide (a = b)) {kvs : List (κ × V)} {kvd : List (D × D)} {k : κ} {v : V} {d : D} (ek : kvd.map Prod.fst = kvs.map (fun p => c p.1))
    (r : ShA K H Z (kvs.map Prod.snd) (kvd.map Prod.snd)) (s : Sh K H Z v d) : (putD kvd (c k) d).map Prod.fst = (putK kvs k v).map (fun p => c p.1) ∧ ShA K H Z ((putK kvs k v).map Prod.snd) ((putD kvd (c k) d).map Prod.snd) := by
  unfold putD putK
  rw [valV_any]
  have e : (posD kvd (c k)).isSome = (valV kvs k).isSome := by
    cases ep : posD kvd (c k) with
    | none => rw [pos_none hc ek ep]; rfl
    | some n => obtain ⟨v, _, h2, _⟩ := pos_some hc ek ep; rw [h2]; rfl
  rw [e]
  cases (valV kvs k).isSome with
  | true =>
    rw [if_pos rfl, if_pos rfl]
    clear e
    induction kvd generalizing kvs with
    | nil => cases kvs with | nil => exact ⟨rfl, .nil⟩ | cons => simp at ek
    | cons p kvd ih =>
      cases kvs with
      | nil => simp at ek
      | cons q kvs =>
        rw [List.map_cons, List.map_cons, List.cons.injEq] at ek
        cases r with
        | cons h r =>
          obtain ⟨i1, i2⟩ := ih ek.2 r
          rw [List.map_cons, List.map_cons, List.map_cons, List.map_cons, List.map_cons, List.map_cons, ek.1, hc]
          by_cases hk : q.1 = k
          · rw [if_pos (decide_eq_true hk), if_pos hk]
            exact ⟨by rw [i1], .cons s i2⟩
          · rw [if_neg (by simp [hk]), if_neg hk]
            exact ⟨by rw [i1, ek.1], .cons h i2⟩
  | false =>
    rw [if_neg (by decide), if_neg (by decide), List.map_append, List.map_append, List.map_append, List.map_append, ek]
    exact ⟨rfl, r.app (.cons s .nil)⟩

/-! ### keys: ints and texts -/
/-- the slot i's dict is frozen ahead of a block -/
theorem zFrzDK (i : Nat) {t : T} {sts : List Stmt} {f : SF} (ht : Γ[i]? = some (.dk t)) (hf : t.full = true) (h : PSs X sts (tS X.K (Γ.set i .sh) ⟨en, eb, ec, er, et⟩ f)) : PSs X sts (tS X.K Γ ⟨en, eb, ec, er, et⟩ f) := (pss_lockF h).imp fun W σ H ⟨δ, Z, F, out, ok, e, p⟩ => by
  have hn : (T.dk t) ≠ .no := fun z => nomatch z
  have hi : i < Γ.length := (List.getElem?_eq_some_iff.mp ht).1
  obtain ⟨d, hd⟩ : ∃ d, δ[i]? = some d := ⟨δ[i]'(by rw [ok.env.len.2]; exact hi), by simp [ok.env.len.2, hi]⟩
  obtain ⟨v, F', g, h1, h2, h3, h4, h5⟩ := ok.take ht hn hd
  cases h2 with
  | @dk _ a kvs kvd fs ha ek ra =>
    refine ⟨a, .dK kvs, ha, trivial, fun od => ?_⟩
    have nda : a ∉ fs := (List.nodup_cons.mp (List.nodup_append.mp h4).2.1).1
    have ndF : a ∉ F' := fun z => nd_apart h4 a (by simp) z
    have dza : ∀ x ∈ [a], ¬ Z x := fun x hx => by simp only [List.mem_singleton] at hx; rw [hx]; exact ok.dz a (h5 a (by simp))
    have mu : Mu H [a] := fun x hx => by simp only [List.mem_singleton] at hx; subst hx; exact ⟨_, ha, rfl⟩
    have su : Stp H Z [a] (upd H a (.frz od (.dK kvs))) Z [a] := Stp.upd (by simp)
    have r2 := ra.step su mu dza fun x hx hz => nda (by simp only [List.mem_singleton] at hz; rw [hz] at hx; exact hx)
    have lv : ∀ x ∈ a :: fs, (upd H a (.frz od (.dK kvs))) x ≠ none := fun x hx => by
      rcases List.mem_cons.mp hx with h | h
      · rw [h, upd_same]; exact fun z => nomatch z
      · exact r2.mu.some h
    have sh : Sh X.K (upd H a (.frz od (.dK kvs))) (zu Z (a :: fs)) (.ref a) (.dict kvd) := .dk (.inr (by simp)) upd_same ek (RepA.frz (fun _ => .inl) r2 hf fun x hx => .inr (by simp [hx]))
    have s1 : Stp H Z F (upd H a (.frz od (.dK kvs))) Z (F' ++ a :: fs) := (Stp.upd (h5 a (by simp))).sub fun x hx => h5 x hx
    have o0 : Ok X.K (Γ.set i .no) σ δ (upd H a (.frz od (.dK kvs))) Z F' := ⟨h3.env.step su mu dza fun x hx hz => ndF (by simp only [List.mem_singleton] at hz; rw [hz] at hx; exact hx), h3.nd, h3.dz, fun x hx => upd_live (h3.zs x hx)⟩
    have o1 := o0.frzG h4 lv
    obtain ⟨F2, o2, sb⟩ := o1.set (i := i) (t := .sh) (v := .ref a) (d := .dict kvd) (g := []) (by simpa using hi) (.sh sh) (by simpa using o1.nd) (fun _ q => nomatch q)
    rw [set_self h1, set_self hd, List.set_set] at o2
    exact ⟨δ, _, F2, out, o2, e, p.later ((s1.frzG lv).sub fun x hx => by simpa using sb x hx) (.refl _ _)⟩
theorem fz_dgetK {a : Addr} {kvs : List (Key × V)} {kvd : List (D × D)} {y : V} {d : D} (h : Rd H a (.dK kvs)) (ek : kvd.map Prod.fst = kvs.map (fun p => kD p.1)) (hk : (ikey d).isSome = true) (sy : Sh K H Z y d) (r : ShA K H Z (kvs.map Prod.snd) (kvd.map Prod.snd)) :
    ∃ o, DGet H a y o ∧ ((posD kvd d = none ∧ o = none) ∨ ∃ n v e, posD kvd d = some n ∧ o = some v ∧ kvd[n]?.map (·.2) = some e ∧ Sh K H Z v e) := by
  obtain ⟨k, hk⟩ := Option.isSome_iff_exists.mp hk
  have e := ikey_eq hk
  subst e
  refine ⟨valV kvs k, by rw [sy.keyK]; exact .inl ⟨kvs, k, h, rfl, rfl⟩, ?_⟩
  cases ep : posD kvd (kD k) with
  | none => exact .inl ⟨rfl, pos_none eqv_kD ek ep⟩
  | some n =>
    obtain ⟨v, h1, h2, h3⟩ := pos_some eqv_kD ek ep
    have hn : (kvd.map Prod.snd)[n]? = some (kvd[n]'h3).2 := by rw [List.getElem?_map, List.getElem?_eq_getElem h3]; rfl
    obtain ⟨v', e1, e2⟩ := r.get hn
    rw [List.getElem?_map, h1] at e1
    cases e1
    exact .inr ⟨n, v, (kvd[n]'h3).2, rfl, h2, by rw [List.getElem?_eq_getElem h3]; rfl, e2⟩
theorem zPutK (i : Nat) {st : Stmt} {f : EM} {g : EF} (h : PS X st (sDPut (tVar i) (tP X.K Γ' .sh g) (tM X.K Γ Γ' .sh f))) (ht' : Γ'[i]? = some (.dk .sh)) : PS X st (tS X.K Γ ⟨Γ', eb, ec, er, et⟩ (sPutK i f g)) :=
  h.imp fun W σ H ⟨δ, Z, F, out, ok, e, p⟩ => by
  obtain ⟨⟨y, δ1⟩, e1, e2⟩ := Option.bind_eq_some_iff.mp e
  obtain ⟨kd, e3, e4⟩ := Option.bind_eq_some_iff.mp e2
  split at e4
  · rename_i hdec
    obtain ⟨kvd, e5, e6⟩ := Option.bind_eq_some_iff.mp e4
    split at e6
    · rename_i hz
      cases e6
      obtain ⟨ky, hky⟩ := Option.isSome_iff_exists.mp hdec
      have ekd := ikey_eq hky
      subst ekd
      refine ⟨δ, Z, F, y, δ1, ok, e1, fun v H1 Z1 F1 g1 s1 ok1 r1 nd1 dz1 => ?_⟩
      obtain ⟨rs, rfl⟩ := r1.shOf
      obtain ⟨a, kvs, fs, F2, hv, ha, ek, ra, o2, nd2, sb2⟩ := dOpnK ok1 ht' (getDctK_eq e5)
      refine ⟨.ref a, hv, δ1, Z1, F1, kD ky, ok1, e3, fun w H2 Z2 g2 s2 r2 => ?_⟩
      have hzl : kvs.length < sizeLine := by
        have l1 := congrArg List.length ek
        rw [List.length_map, List.length_map] at l1
        rw [← l1]
        exact hz
      have ha2 := s2.keep a _ ha (by simp)
      obtain ⟨sa, rfl⟩ := ra.shA
      have su : Stp H2 Z2 [a] (upd H2 a (.dK (putK kvs ky v))) Z2 [a] := Stp.upd (by simp)
      have mu : Mu H2 [a] := fun x hx => by simp only [List.mem_singleton] at hx; subst hx; exact ⟨_, ha2, rfl⟩
      have ok2 := ok1.ext s2
      have dza : ∀ x ∈ [a], ¬ Z2 x := fun x hx => by simp only [List.mem_singleton] at hx; rw [hx]; exact ok2.dz a (sb2 a (by simp))
      obtain ⟨p1, p2⟩ := put_rel (k := ky) eqv_kD ek ((sa.ext s2).step su mu dza) ((rs.ext s2).step su mu dza)
      obtain ⟨F3, o3, sb3⟩ := dPutK (o2.ext s2) ht' hv ha2 nd2 (fun x hx => ok2.dz x (sb2 x (List.mem_append_right _ hx))) p1 p2.repA
      have st : Stp H Z F (upd H2 a (.dK (putK kvs ky v))) Z2 F3 := (((by simpa using s1 : Stp H Z F H1 Z1 F1).trans s2.stp).trans (Stp.upd (sb2 a (by simp)))).sub fun x hx => sb2 x (sb3 x hx)
      refine ⟨a, upd H2 a (.dK (putK kvs ky v)), rfl, ?_, p σ _ Z2 F3 st o3 (.refl _ _)⟩
      obtain rfl := r2.shOf.1.keyK
      exact .inl ⟨kvs, ky, ha2, rfl, hzl, rfl⟩
    · cases e6
  · cases e4

/-! ### keys: tuples of ints and texts -/
/-- the slot i's dict is frozen ahead of a block -/
theorem zFrzDT (i : Nat) {t : T} {sts : List Stmt} {f : SF} (ht : Γ[i]? = some (.dt t)) (hf : t.full = true) (h : PSs X sts (tS X.K (Γ.set i .sh) ⟨en, eb, ec, er, et⟩ f)) : PSs X sts (tS X.K Γ ⟨en, eb, ec, er, et⟩ f) := (pss_lockF h).imp fun W σ H ⟨δ, Z, F, out, ok, e, p⟩ => by
  have hn : (T.dt t) ≠ .no := fun z => nomatch z
  have hi : i < Γ.length := (List.getElem?_eq_some_iff.mp ht).1
  obtain ⟨d, hd⟩ : ∃ d, δ[i]? = some d := ⟨δ[i]'(by rw [ok.env.len.2]; exact hi), by simp [ok.env.len.2, hi]⟩
  obtain ⟨v, F', g, h1, h2, h3, h4, h5⟩ := ok.take ht hn hd
  cases h2 with
  | @dt _ a kvs kvd fs ha ek ra =>
    refine ⟨a, .dT kvs, ha, trivial, fun od => ?_⟩
    have nda : a ∉ fs := (List.nodup_cons.mp (List.nodup_append.mp h4).2.1).1
    have ndF : a ∉ F' := fun z => nd_apart h4 a (by simp) z
    have dza : ∀ x ∈ [a], ¬ Z x := fun x hx => by simp only [List.mem_singleton] at hx; rw [hx]; exact ok.dz a (h5 a (by simp))
    have mu : Mu H [a] := fun x hx => by simp only [List.mem_singleton] at hx; subst hx; exact ⟨_, ha, rfl⟩
    have su : Stp H Z [a] (upd H a (.frz od (.dT kvs))) Z [a] := Stp.upd (by simp)
    have r2 := ra.step su mu dza fun x hx hz => nda (by simp only [List.mem_singleton] at hz; rw [hz] at hx; exact hx)
    have lv : ∀ x ∈ a :: fs, (upd H a (.frz od (.dT kvs))) x ≠ none := fun x hx => by
      rcases List.mem_cons.mp hx with h | h
      · rw [h, upd_same]; exact fun z => nomatch z
      · exact r2.mu.some h
    have sh : Sh X.K (upd H a (.frz od (.dT kvs))) (zu Z (a :: fs)) (.ref a) (dtD kvd) := .dt (.inr (by simp)) upd_same ek (RepA.frz (fun _ => .inl) r2 hf fun x hx => .inr (by simp [hx]))
    have s1 : Stp H Z F (upd H a (.frz od (.dT kvs))) Z (F' ++ a :: fs) := (Stp.upd (h5 a (by simp))).sub fun x hx => h5 x hx
    have o0 : Ok X.K (Γ.set i .no) σ δ (upd H a (.frz od (.dT kvs))) Z F' := ⟨h3.env.step su mu dza fun x hx hz => ndF (by simp only [List.mem_singleton] at hz; rw [hz] at hx; exact hx), h3.nd, h3.dz, fun x hx => upd_live (h3.zs x hx)⟩
    have o1 := o0.frzG h4 lv
    obtain ⟨F2, o2, sb⟩ := o1.set (i := i) (t := .sh) (v := .ref a) (d := dtD kvd) (g := []) (by simpa using hi) (.sh sh) (by simpa using o1.nd) (fun _ q => nomatch q)
    rw [set_self h1, set_self hd, List.set_set] at o2
    exact ⟨δ, _, F2, out, o2, e, p.later ((s1.frzG lv).sub fun x hx => by simpa using sb x hx) (.refl _ _)⟩
theorem fz_dgetT {a : Addr} {kvs : List (List Key × V)} {kvd : List (D × D)} {y : V} {d : D} (h : Rd H a (.dT kvs)) (ek : kvd.map Prod.fst = kvs.map (fun p => kTD p.1)) (hk : (tkey d).isSome = true) (sy : Sh K H Z y d) (r : ShA K H Z (kvs.map Prod.snd) (kvd.map Prod.snd)) :
    ∃ o, DGet H a y o ∧ ((posD kvd d = none ∧ o = none) ∨ ∃ n v e, posD kvd d = some n ∧ o = some v ∧ kvd[n]?.map (·.2) = some e ∧ Sh K H Z v e) := by
  obtain ⟨k, hk⟩ := Option.isSome_iff_exists.mp hk
  have e := tkey_eq hk
  subst e
  refine ⟨valV kvs k, by obtain ⟨b, rfl, hb⟩ := sy.keyT; exact .inr ⟨kvs, k, b, h, rfl, hb, rfl⟩, ?_⟩
  cases ep : posD kvd (kTD k) with
  | none => exact .inl ⟨rfl, pos_none eqv_kTD ek ep⟩
  | some n =>
    obtain ⟨v, h1, h2, h3⟩ := pos_some eqv_kTD ek ep
    have hn : (kvd.map Prod.snd)[n]? = some (kvd[n]'h3).2 := by rw [List.getElem?_map, List.getElem?_eq_getElem h3]; rfl
    obtain ⟨v', e1, e2⟩ := r.get hn
    rw [List.getElem?_map, h1] at e1
    cases e1
    exact .inr ⟨n, v, (kvd[n]'h3).2, rfl, h2, by rw [List.getElem?_eq_getElem h3]; rfl, e2⟩
theorem zPutT (i : Nat) {st : Stmt} {f : EM} {g : EF} (h : PS X st (sDPut (tVar i) (tP X.K Γ' .sh g) (tM X.K Γ Γ' .sh f))) (ht' : Γ'[i]? = some (.dt .sh)) : PS X st (tS X.K Γ ⟨Γ', eb, ec, er, et⟩ (sPutT i f g)) :=
  h.imp fun W σ H ⟨δ, Z, F, out, ok, e, p⟩ => by
  obtain ⟨⟨y, δ1⟩, e1, e2⟩ := Option.bind_eq_some_iff.mp e
  obtain ⟨kd, e3, e4⟩ := Option.bind_eq_some_iff.mp e2
  split at e4
  · rename_i hdec
    obtain ⟨kvd, e5, e6⟩ := Option.bind_eq_some_iff.mp e4
    split at e6
    · rename_i hz
      cases e6
      obtain ⟨ky, hky⟩ := Option.isSome_iff_exists.mp hdec
      have ekd := tkey_eq hky
      subst ekd
      refine ⟨δ, Z, F, y, δ1, ok, e1, fun v H1 Z1 F1 g1 s1 ok1 r1 nd1 dz1 => ?_⟩
      obtain ⟨rs, rfl⟩ := r1.shOf
      obtain ⟨a, kvs, fs, F2, hv, ha, ek, ra, o2, nd2, sb2⟩ := dOpnT ok1 ht' (getDctT_eq e5)
      refine ⟨.ref a, hv, δ1, Z1, F1, kTD ky, ok1, e3, fun w H2 Z2 g2 s2 r2 => ?_⟩
      have hzl : kvs.length < sizeLine := by
        have l1 := congrArg List.length ek
        rw [List.length_map, List.length_map] at l1
        rw [← l1]
        exact hz
      have ha2 := s2.keep a _ ha (by simp)
      obtain ⟨sa, rfl⟩ := ra.shA
      have su : Stp H2 Z2 [a] (upd H2 a (.dT (putK kvs ky v))) Z2 [a] := Stp.upd (by simp)
      have mu : Mu H2 [a] := fun x hx => by simp only [List.mem_singleton] at hx; subst hx; exact ⟨_, ha2, rfl⟩
      have ok2 := ok1.ext s2
      have dza : ∀ x ∈ [a], ¬ Z2 x := fun x hx => by simp only [List.mem_singleton] at hx; rw [hx]; exact ok2.dz a (sb2 a (by simp))
      obtain ⟨p1, p2⟩ := put_rel (k := ky) eqv_kTD ek ((sa.ext s2).step su mu dza) ((rs.ext s2).step su mu dza)
      obtain ⟨F3, o3, sb3⟩ := dPutT (o2.ext s2) ht' hv ha2 nd2 (fun x hx => ok2.dz x (sb2 x (List.mem_append_right _ hx))) p1 p2.repA
      have st : Stp H Z F (upd H2 a (.dT (putK kvs ky v))) Z2 F3 := (((by simpa using s1 : Stp H Z F H1 Z1 F1).trans s2.stp).trans (Stp.upd (sb2 a (by simp)))).sub fun x hx => sb2 x (sb3 x hx)
      refine ⟨a, upd H2 a (.dT (putK kvs ky v)), rfl, ?_, p σ _ Z2 F3 st o3 (.refl _ _)⟩
      obtain ⟨bk, rfl, hbk⟩ := r2.shOf.1.keyT
      exact .inr ⟨kvs, ky, bk, ha2, rfl, hbk, hzl, rfl⟩
    · cases e6
  · cases e4

/-! ### dicts read -/
theorem dictOf_dk {kvs : List (Key × V)} {kvd : List (D × D)} {b : Bool} {l : List (D × D)} (ek : kvd.map Prod.fst = kvs.map (fun p => kD p.1)) (h : dictOf (.dict kvd) = some (b, l)) : b = false ∧ l = kvd := by
  unfold dictOf at h
  split at h
  · rename_i ds e
    cases e
    cases kvs with
    | nil => simp at ek
    | cons q r =>
      rw [List.map_cons, List.map_cons, List.cons.injEq] at ek
      obtain ⟨e1, _⟩ := ek
      cases hq : q.1 <;> (rw [hq] at e1; cases e1)
  · rename_i e
    cases e
    cases h
    exact ⟨rfl, rfl⟩
  · rename_i e1 e2
    exact absurd rfl (e2 _)
theorem dictOf_dt {kvd : List (D × D)} : dictOf (dtD kvd) = some (true, kvd) := rfl
def isDct : T → Bool
  | .sh => true
  | .dk .sh => true
  | .dt .sh => true
  | _ => false
theorem rd_dict {t : T} {v : V} {dx d : D} {y : V} {b : Bool} {kvd : List (D × D)} {f : List Addr} (ht : isDct t = true) (r : Rep K H Z t v dx f) (e : dictOf dx = some (b, kvd)) (hk : keyOk b d = true) (sy : Sh K H Z y d) :
    ∃ a o, v = .ref a ∧ DGet H a y o ∧ ((posD kvd d = none ∧ o = none) ∨ ∃ n v e, posD kvd d = some n ∧ o = some v ∧ kvd[n]?.map (·.2) = some e ∧ Sh K H Z v e) := by
  unfold isDct at ht
  split at ht
  · obtain ⟨r', _⟩ := r.shOf
    cases r' with
    | @dk a od kvs kvd' z h ek r' =>
      obtain ⟨rfl, rfl⟩ := dictOf_dk ek e
      obtain ⟨o, h1, h2⟩ := fz_dgetK (.inr ⟨od, h⟩) ek hk sy r'
      exact ⟨a, o, rfl, h1, h2⟩
    | @dt a od kvs kvd' z h ek r' =>
      cases e
      obtain ⟨o, h1, h2⟩ := fz_dgetT (.inr ⟨od, h⟩) ek hk sy r'
      exact ⟨a, o, rfl, h1, h2⟩
    | _ => cases e
  · cases r with
    | @dk _ a kvs kvd' f h ek r =>
      obtain ⟨rfl, rfl⟩ := dictOf_dk ek e
      obtain ⟨o, h1, h2⟩ := fz_dgetK (.inl h) ek hk sy r.shA.1
      exact ⟨a, o, rfl, h1, h2⟩
  · cases r with
    | @dt _ a kvs kvd' f h ek r =>
      cases e
      obtain ⟨o, h1, h2⟩ := fz_dgetT (.inl h) ek hk sy r.shA.1
      exact ⟨a, o, rfl, h1, h2⟩
  · cases ht
theorem din_s {t : T} (ht : isDct t = true) : OpS K rDIn .sh t .sh dDIn := by
  intro H Z x y dx dy d f g Q rx ry e k
  obtain ⟨⟨b, kvd⟩, e1, e2⟩ := Option.bind_eq_some_iff.mp e
  split at e2
  · rename_i hk
    cases e2
    obtain ⟨a, o, rfl, h1, h2⟩ := rd_dict ht ry e1 hk rx.shOf.1
    refine ⟨a, o, rfl, h1, ?_⟩
    have : o.isSome = (posD kvd dx).isSome := by rcases h2 with ⟨p, q⟩ | ⟨n, v, e, p, q, _⟩ <;> rw [p, q] <;> rfl
    rw [this]
    exact k _ H Z [] .refl (.sh (.bl _))
  · cases e2
theorem dnotin_s {t : T} (ht : isDct t = true) : OpS K rDNotIn .sh t .sh dDNotIn := by
  intro H Z x y dx dy d f g Q rx ry e k
  obtain ⟨⟨b, kvd⟩, e1, e2⟩ := Option.bind_eq_some_iff.mp e
  split at e2
  · rename_i hk
    cases e2
    obtain ⟨a, o, rfl, h1, h2⟩ := rd_dict ht ry e1 hk rx.shOf.1
    refine ⟨a, o, rfl, h1, ?_⟩
    have : o.isSome = (posD kvd dx).isSome := by rcases h2 with ⟨p, q⟩ | ⟨n, v, e, p, q, _⟩ <;> rw [p, q] <;> rfl
    rw [this]
    exact k _ H Z [] .refl (.sh (.bl _))
  · cases e2
theorem dget_s {t : T} (ht : isDct t = true) : OpS K rDGet t .sh .sh dDGet := by
  intro H Z x y dx dy d f g Q rx ry e k
  obtain ⟨⟨b, kvd⟩, e1, e2⟩ := Option.bind_eq_some_iff.mp e
  split at e2
  · rename_i hk
    obtain ⟨a, o, rfl, h1, h2⟩ := rd_dict ht rx e1 hk ry.shOf.1
    unfold getD' at e2
    rcases h2 with ⟨p, q⟩ | ⟨n, v, e, p, q, p2, sv⟩
    · simp only at e2; rw [p] at e2; cases e2
    · simp only at e2; rw [p] at e2
      rw [Option.bind_some, p2] at e2
      cases e2
      subst q
      exact ⟨a, v, rfl, h1, k v H Z [] .refl (.sh sv)⟩
  · cases e2
/-- x[k] of a dict -/
theorem cDGet {t : T} {fa fb : EF} {a b : Expr} {pos : Pos} (hu : X.A.units + 1 < cLine) (ht : isDct t = true) (ha : PE X a (tP X.K Γ t fa)) (hb : PE X b (tP X.K Γ .sh fb)) (hs : NoSl b) : PE X (.Subscript a b pos) (tP X.K Γ .sh (x2 dDGet fa fb)) :=
  (pe_dget hu ha hb hs).imp fun _ _ _ h => p2 (r := rDGet) (dget_s ht) h
/-- x.get(k, e) -/
def xDGet2 (fa fb fc : EF) : EF := fun δ => (fa δ).bind fun x => (fb δ).bind fun y => (fc δ).bind fun z => (dictOf x).bind fun p => if keyOk p.1 y then some ((getD' p.2 y).getD z) else none
theorem Rep.isd {t : T} {v : V} {dx : D} {b : Bool} {kvd : List (D × D)} {f : List Addr} (ht : isDct t = true) (r : Rep K H Z t v dx f) (e : dictOf dx = some (b, kvd)) : ∃ a, v = .ref a ∧ IsD H a := by
  unfold isDct at ht
  split at ht
  · obtain ⟨r, _⟩ := r.shOf
    cases r with
    | @dk a od kvs kvd' z h ek r => exact ⟨a, rfl, .inl ⟨_, .inr ⟨_, h⟩⟩⟩
    | @dt a od kvs kvd' z h ek r => exact ⟨a, rfl, .inr ⟨_, .inr ⟨_, h⟩⟩⟩
    | _ => cases e
  · cases r with
    | @dk _ a kvs kvd' f h ek r => exact ⟨a, rfl, .inl ⟨_, .inl h⟩⟩
  · cases r with
    | @dt _ a kvs kvd' f h ek r => exact ⟨a, rfl, .inr ⟨_, .inl h⟩⟩
  · cases ht
theorem cDGet2 {t : T} {fa fb fc : EF} {o e f : Expr} {apos cpos : Pos} (hu : X.A.units + 1 < cLine) (ht : isDct t = true) (ho : PE X o (tP X.K Γ t fa)) (he : PE X e (tP X.K Γ .sh fb)) (hf : PE X f (tP X.K Γ .sh fc)) (m : M2 X o "get" apos e f cpos) :
    PE X (.Call (.Attribute o "get" apos) [e, f] [] cpos) (tP X.K Γ .sh (xDGet2 fa fb fc)) := (pe_dget2 hu ho he hf m).imp fun σ H Q ⟨δ, Z, F, d, ok, e, k⟩ => by
  obtain ⟨x, ex, e⟩ := Option.bind_eq_some_iff.mp e
  obtain ⟨y, ey, e⟩ := Option.bind_eq_some_iff.mp e
  obtain ⟨z, ez, e⟩ := Option.bind_eq_some_iff.mp e
  obtain ⟨⟨b, kvd⟩, e1, e2⟩ := Option.bind_eq_some_iff.mp e
  split at e2
  · rename_i hk
    cases e2
    refine ⟨δ, Z, F, x, ok, ex, fun v H1 Z1 g1 s1 r1 => ?_⟩
    obtain ⟨a, rfl, hd⟩ := r1.isd ht e1
    refine ⟨a, rfl, hd, δ, Z1, F, y, ok.ext s1, ey, fun w H2 Z2 g2 s2 r2 => ⟨δ, Z2, F, z, (ok.ext s1).ext s2, ez, fun u H3 Z3 g3 s3 r3 => ?_⟩⟩
    obtain ⟨a', o, e, h1, h2⟩ := rd_dict ht (r1.ext (s2.trans s3)) e1 hk (r2.ext s3).shOf.1
    cases e
    refine ⟨o, h1, ?_⟩
    simp only at k
    unfold getD' at k
    rcases h2 with ⟨p, q⟩ | ⟨n, v, e, p, q, p2, sv⟩
    · subst q
      rw [p] at k
      exact k u H3 Z3 _ ((s1.trans s2).trans s3) r3
    · subst q
      rw [p, Option.bind_some, p2] at k
      exact k v H3 Z3 [] ((s1.trans s2).trans s3) (.sh sv)
  · cases e2
/-! ### a frozen dict, key by key; a list, a tuple or a dict -/
def asIt : D → Option (List D)
  | .tuple ds => some ds
  | .list ds => some ds
  | .dict ds => (dictOf (.dict ds)).map (·.2.map Prod.fst)
  | _ => none
def lIt (f : EF) : LF := fun δ => (f δ).bind asIt
theorem sh_kD {k : Key} : Sh K H Z (kV k) (kD k) := by
  cases k
  · exact .int _
  · exact .str _
theorem sha_kD : ∀ {k : List Key}, ShA K H Z (k.map kV) (k.map kD)
  | [] => .nil
  | _ :: _ => .cons sh_kD sha_kD
theorem Lat.frz {d : Addr} {o : Obj} {u : HO} (l : Lat H Z H2 Z2) (z : Z d) (h : H d = some (.frz o u)) : H2 d = some (.frz o u) := let ⟨_, _, s, m, dz⟩ := l; s.keep _ _ h fun q => dz _ q z
theorem wks_keysK {d : Addr} {o : Obj} {kvs : List (Key × V)} {kvd : List (D × D)} (z : Z d) (h : H d = some (.frz o (.dK kvs))) (ek : kvd.map Prod.fst = kvs.map (fun p => kD p.1)) : Wks K (Itk d o kvs) (kvd.map Prod.fst) H Z := by
  refine ⟨_, _, by rw [ek, List.length_map]; exact walk_keys, fun H2 Z2 l => l.frz z h, fun i H2 Z2 x H3 e l y he => ?_⟩
  obtain ⟨rfl, k, v, h1, rfl⟩ := y
  rw [ek, List.getElem?_map, h1] at he
  cases he
  exact ⟨Z2, .refl, sh_kD⟩
theorem wks_keysT {d : Addr} {o : Obj} {kvs : List (List Key × V)} {kvd : List (D × D)} (z : Z d) (h : H d = some (.frz o (.dT kvs))) (ek : kvd.map Prod.fst = kvs.map (fun p => kTD p.1)) : Wks K (Itkt d o kvs) (kvd.map Prod.fst) H Z := by
  refine ⟨_, _, by rw [ek, List.length_map]; exact walk_keysT, fun H2 Z2 l => l.frz z h, fun i H2 Z2 x H3 e l y he => ?_⟩
  obtain ⟨rfl, k, v, q, h1, rfl, hq⟩ := y
  rw [ek, List.getElem?_map, h1] at he
  cases he
  exact ⟨Z2, .refl, .tup hq sha_kD⟩
theorem iIt {tg e : Expr} {f : EF} (h : PE X e (tP X.K Γ .sh f)) : PI X tg e (tIP X.K Γ (lIt f)) := (((pi_list h).or (pi_tup h)).or (pi_keys h)).imp fun σ H R ⟨δ, Z, F, ds, ok, e, k⟩ => by
  obtain ⟨d, e1, e3⟩ := Option.bind_eq_some_iff.mp e
  cases d with
  | list es =>
    cases e3
    refine .inl (.inl ⟨δ, Z, F, .list _, ok, e1, fun v H1 Z1 g s1 r1 => ?_⟩)
    obtain ⟨r, rfl⟩ := r1.shOf
    cases r with
    | lst z r => exact ⟨_, rfl, ⟨_, z.sql⟩, k _ H1 Z1 s1 (wks_list z r)⟩
  | tuple es =>
    cases e3
    refine .inl (.inr ⟨δ, Z, F, .tuple _, ok, e1, fun v H1 Z1 g s1 r1 => ?_⟩)
    obtain ⟨r, rfl⟩ := r1.shOf
    cases r with
    | tup h r => exact ⟨_, rfl, ⟨_, SqT.of h⟩, k _ H1 Z1 s1 (wks_tup (SqT.of h) r)⟩
  | dict es =>
    obtain ⟨⟨b, kvd⟩, e4, e5⟩ := Option.map_eq_some_iff.mp e3
    cases e5
    refine .inr ⟨δ, Z, F, .dict es, ok, e1, fun v H1 Z1 g s1 r1 => ?_⟩
    obtain ⟨r, rfl⟩ := r1.shOf
    cases r with
    | dk z h ek r =>
      obtain ⟨rfl, rfl⟩ := dictOf_dk ek e4
      exact ⟨_, _, rfl, .inl ⟨_, h, k _ H1 Z1 s1 (wks_keysK z h ek)⟩⟩
    | dt z h ek r =>
      cases e4
      exact ⟨_, _, rfl, .inr ⟨_, h, k _ H1 Z1 s1 (wks_keysT z h ek)⟩⟩
  | _ => cases e3
end
end Pv

set_option Elab.async false
set_option linter.all false
set_option maxRecDepth 100000
/-! Pv16: sorted of ints, of tuples of ints of any lengths. -/
namespace SrtO
open PySem PyProof.Rows Srt HT
theorem lex_asym : ∀ (x y : List Int), lexLt x y = true → lexLt y x = false
  | [], [], h => by cases h
  | [], _ :: _, _ => rfl
  | _ :: _, [], h => by cases h
  | a :: x, b :: y, h => by
    rw [lexLt_cons] at h ⊢
    by_cases e : a = b
    · rw [if_pos e] at h; rw [if_pos e.symm]; exact lex_asym x y h
    · rw [if_neg e] at h; rw [if_neg (fun z => e z.symm)]
      have := of_decide_eq_true h
      exact decide_eq_false (by omega)
theorem lex_tr : ∀ (x y z : List Int), lexLt y x = false → lexLt z y = false → lexLt z x = false
  | [], [], [], _, _ => rfl
  | [], [], _ :: _, _, _ => rfl
  | [], _ :: _, [], _, h => by cases h
  | [], _ :: _, _ :: _, _, _ => rfl
  | _ :: _, [], _, h, _ => by cases h
  | _ :: _, _ :: _, [], _, h => by cases h
  | a :: x, b :: y, c :: z, h, k => by
    rw [lexLt_cons] at h k ⊢
    by_cases e : b = a
    · rw [if_pos e] at h
      subst e
      by_cases e2 : c = b
      · rw [if_pos e2] at k ⊢; exact lex_tr x y z h k
      · rw [if_neg e2] at k ⊢; exact k
    · rw [if_neg e] at h
      have h1 := of_decide_eq_false h
      by_cases e2 : c = b
      · subst e2
        rw [if_neg e]; exact h
      · rw [if_neg e2] at k
        have h2 := of_decide_eq_false k
        rw [if_neg (by omega)]
        exact decide_eq_false (by omega)
theorem lex_eq : ∀ (x y : List Int), lexLt x y = false → lexLt y x = false → x = y
  | [], [], _, _ => rfl
  | [], _ :: _, h, _ => by cases h
  | _ :: _, [], _, h => by cases h
  | a :: x, b :: y, h, k => by
    rw [lexLt_cons] at h k
    by_cases e : a = b
    · rw [if_pos e] at h; rw [if_pos e.symm] at k
      rw [e, lex_eq x y h k]
    · rw [if_neg e] at h; rw [if_neg (fun z => e z.symm)] at k
      have := of_decide_eq_false h
      have := of_decide_eq_false k
      omega
theorem swo_lexL {α : Type} (k : α → List Int) : Swo fun v u => lexLt (k v) (k u) := ⟨fun x y h => lex_asym _ _ h, fun x y z h1 h2 => lex_tr _ _ _ h1 h2⟩
/-- a tuple of ints -/
def IsTupI (h : Heap) (v : Value) (ns : List Int) : Prop := ∃ a o xs n, v = .ref a ∧ h.get? a = some o ∧ o.cls = .type "tuple" ∧ o.data = .seq xs n ∧ IntsAre xs.toList ns
theorem IsTupI.keeps {h h' : Heap} {v : Value} {ns : List Int} (p : IsTupI h v ns) (k : ∀ b o, h.get? b = some o → o.cls = .type "tuple" → h'.get? b = some o) : IsTupI h' v ns := by
  obtain ⟨a, o, xs, n, e, ho, hc, r⟩ := p
  exact ⟨a, o, xs, n, e, k _ _ ho hc, hc, r⟩
section
variable {prog : Program} {w : World} {A : Around} {E : Value → Shared → Prop} {s : Shared}
theorem kat_ints {Q : Bool → Shared → Prop} {fin : Bool} : ∀ (xs ys : List Value) (ns ms : List Int) (i : Nat), IntsAre xs ns → IntsAre ys ms → fin = decide (ns.length < ms.length) → Q (lexLt ns ms) s → PySem.W.KatLex prog w A true fin Q (xs.zip ys) i s
  | _, _, _, _, i, .nil, .nil, hf, h => by
    have : fin = false := hf
    subst this
    exact PySem.W.kat_nil h
  | _, _, _, _, i, .nil, .cons _ _ r, hf, h => by
    have : fin = true := by rw [hf]; simp
    subst this
    exact PySem.W.kat_nil h
  | _, _, _, _, i, .cons _ _ r, .nil, hf, h => by
    have : fin = false := by rw [hf]; simp
    subst this
    exact PySem.W.kat_nil h
  | _, _, _, _, i, .cons (vs := xs) (ns := ns) a t r, .cons (vs := ys) (ns := ms) b u r2, hf, h => by
    refine PySem.W.kat_cons (SeqAt.EqAt.int_int a t b u prog w _ _ ?_)
    refine PySem.W.kat_go (fun e1 => ?_) (fun e1 => ?_)
    · have ex : a = b := by simpa using e1
      refine PySem.W.kat_yes (kat_ints xs ys ns ms (i + 1) r r2 (by rw [hf]; simp) ?_)
      rw [lexLt_cons, if_pos ex] at h
      exact h
    · have ex : ¬ a = b := by simpa using e1
      rw [lexLt_cons, if_neg ex] at h
      exact PySem.W.kat_no (TS.oneLt_ints _ h)
theorem tupI_cmp {vs : List Value} {k : Value → List Int} (hp : ∀ v ∈ vs, IsTupI s.heap v (k v)) : Cmp prog w A s (tuples' true) (fun p => p.1 ∈ vs) (lt2 fun v u => lexLt (k v) (k u)) := by
  intro p q hm hm'
  have h1 := hp _ hm
  have h2 := hp _ hm'
  show wpAny (model prog w) A (keyLt' (tuples' true) p.1 q.1) (fun r s' => s' = s ∧ r = lexLt (k p.1) (k q.1)) (fun _ _ => False) s
  obtain ⟨a, o, xs, n, e, ho, hc, hd, r⟩ := h1
  obtain ⟨a', o', xs', n', e', ho', hc', hd', r'⟩ := h2
  rw [e, e'] at *
  refine PySem.W.kat_lt ho hd ho' hd' ?_
  refine kat_ints _ _ _ _ 0 r r' ?_ ⟨rfl, rfl⟩
  have l1 := r.length
  have l2 := r'.length
  rw [Array.length_toList] at l1 l2
  rw [l1, l2]
theorem firstsI {h : Heap} {k : Value → List Int} : ∀ {vs : List Value}, (∀ v ∈ vs, IsTupI h v (k v) ∧ k v ≠ []) → ∃ fs : List Value, PySem.W.KatTups h vs fs ∧ fs.length = vs.length ∧ ∀ f ∈ fs, ∃ x t, f = Value.int x t
  | [], _ => ⟨[], PySem.W.KatTups.nil, rfl, fun _ hm => by simp at hm⟩
  | v :: vs, hp => by
    obtain ⟨fs, h1, h2, h3⟩ := firstsI (vs := vs) fun v' hm => hp v' (List.mem_cons_of_mem _ hm)
    obtain ⟨⟨a, o, xs, n, e, ho, hc, hd, r⟩, ne⟩ := hp v (List.mem_cons_self ..)
    subst e
    cases hl : k (.ref a) with
    | nil => exact absurd hl ne
    | cons x xs' =>
      rw [hl] at r
      obtain ⟨y, t, l', e⟩ : ∃ y t l', xs.toList = Value.int y t :: l' := by
        generalize hx : xs.toList = l at r
        cases r with
        | cons n t r => exact ⟨_, _, _, rfl⟩
      refine ⟨.int y t :: fs, PySem.W.KatTups.cons ho hc hd (by rw [← Array.getElem?_toList, e]; rfl) h1, by rw [List.length_cons, List.length_cons, h2], fun f hm => ?_⟩
      rcases List.mem_cons.mp hm with rfl | hm
      · exact ⟨y, t, rfl⟩
      · exact h3 f hm
theorem tupI_sortableO {a : Addr} {vs : List Value} {k : Value → List Int} (h0 : 0 < vs.length) (hp : ∀ v ∈ vs, IsTupI s.heap v (k v) ∧ k v ≠ []) (ha : ∀ o, s.heap.get? a = some o → o.cls ≠ .type "tuple") : SortableO prog w A s a vs fun v u => lexLt (k v) (k u) := by
  intro h' keep
  have hp' : ∀ v ∈ vs, IsTupI h' v (k v) := fun v hm => (hp v hm).1.keeps fun b o e c => keep b o (fun z => by subst z; exact ha o e c) e
  obtain ⟨fs, h1, h2, h3⟩ := firstsI fun v hm => ⟨hp' v hm, (hp v hm).2⟩
  refine ⟨tuples' true, fun Q E hq => ?_, tupI_cmp hp'⟩
  refine PySem.W.kat_kind (T := .type "int") h1 (by omega) (fun f hm => ?_) (by rfl) ?_
  · obtain ⟨x, t, rfl⟩ := h3 f hm
    exact PySem.W.Looks.now
  · have e : (Value.type "int" != Value.type "tuple") = true := by first | decide +kernel | rfl | decide
    rw [e]
    exact hq
theorem sorted_tupI {l : Addr} {vs : List Value} {k : Value → List Int} {Q : Value → Shared → Prop} (hl : s.heap.IsList l vs.toArray) (hz : vs.length ≤ sizeLine) (hp : ∀ v ∈ vs, IsTupI s.heap v (k v) ∧ k v ≠ [])
    (h : ∀ (h' : Heap) (d : Addr) (out : List Value), Srtd (fun v u => lexLt (k v) (k u)) out → Stb (fun v u => lexLt (k v) (k u)) out vs → (∀ b o, s.heap.get? b = some o → h'.get? b = some o) → s.heap.objs.size ≤ d → (∃ n, h'.get? d = some (seqObj "list" out.toArray n)) → Q (.ref d) { s with heap := h' }) :
    wpAny (model prog w) A (call (.builtin "sorted") [.ref l]) Q E s := by
  refine sorted_ord (swo_lexL k) hl hz (fun h2 h₁ a ha kk => ?_) fun out hs hb => ?_
  · refine tupI_sortableO (s := { s with heap := h₁ }) (by omega) (fun v hm => ⟨(hp v hm).1.keeps fun b o e _ => (kk b o e).2, (hp v hm).2⟩) fun o e => ?_
    have e' : some o = some (seqObj "list" vs.toArray 0) := e.symm.trans ha
    cases e'
    intro c
    exact absurd (Value.type.inj c) (by decide)
  · exact h _ _ out hs hb (fun b o e => sortedAll_old e) (Nat.le_succ _) (sortedAll_at s.heap vs out.toArray)
end
/-- a sorted list of things told apart by their order is the only one of its items -/
theorem srt_uniq {α : Type} {lt : α → α → Bool} (O : Swo lt) : ∀ {l m : List α}, Srtd lt l → Srtd lt m → l.Perm m → (∀ x ∈ l, ∀ y ∈ l, lt x y = false → lt y x = false → x = y) → l = m
  | [], m, _, _, h, _ => (List.Perm.eq_nil h.symm).symm
  | x :: l, [], _, _, h, _ => absurd h.length_eq (by simp)
  | x :: l, y :: m, hl, hm, h, u => by
    have hx : x ∈ y :: m := h.mem_iff.mp List.mem_cons_self
    have hy : y ∈ x :: l := h.mem_iff.mpr List.mem_cons_self
    have h1 : lt x y = false := by
      rcases List.mem_cons.mp hx with e | hx
      · rw [e]; exact O.refl y
      · exact srtd_head hm x hx
    have h2 : lt y x = false := by
      rcases List.mem_cons.mp hy with e | hy
      · rw [e]; exact O.refl x
      · exact srtd_head hl y hy
    have e := u x List.mem_cons_self y hy h1 h2
    subst e
    rw [srt_uniq O (List.pairwise_cons.mp hl).2 (List.pairwise_cons.mp hm).2 h.cons_inv fun a ha b hb => u a (List.mem_cons_of_mem _ ha) b (List.mem_cons_of_mem _ hb)]
end SrtO
namespace L2
open PySem PySem.Spec PyProof.Rows
/-- sorted(xs), xs a list of tuples of ints (k says which), none of them empty -/
def rSortedTI (K : PySem.W.Frag) : List V → Hp → VK → Prop := fun vs H Q => ∃ (a : Addr) (xs : List V) (k : V → List Int), vs = [V.ref a] ∧ SqL K H a xs ∧ (∀ x ∈ xs, ∃ t, x = V.ref t ∧ H t = some (.tup ((k x).map V.int)) ∧ k x ≠ []) ∧
  ∀ ys p, SrtO.Srtd (fun v u => HT.lexLt (k v) (k u)) ys → ys.Perm xs → H p = none → Q (.ref p) (upd H p (.lst ys))
section
variable {X : Cx}
theorem cr_sortedTI : CallR X (.builtin "sorted") (rSortedTI X.K) := by
  intro pins s σ H vs us Q I r h
  obtain ⟨a, xs, k, rfl, hs, hx, q⟩ := h
  obtain ⟨its, rv, hl, hz⟩ := I.list hs
  obtain ⟨u, rfl, ru⟩ := vals1 r
  obtain rfl : u = Value.ref a := ru
  obtain ⟨e1, e2⟩ := refs_back rv fun x m => by
    obtain ⟨t, e, _⟩ := hx x m
    exact ⟨t, e⟩
  refine SrtO.sorted_tupI (k := fun u => k (backV u)) hl.isList (by rw [← rv.length]; exact hz) (fun v hv => ?_) fun h' d out h1 h2 kp hd hn => ?_
  · obtain ⟨t, rfl⟩ := e2 v hv
    have hm : V.ref t ∈ xs := by rw [e1]; exact List.mem_map.mpr ⟨_, hv, rfl⟩
    obtain ⟨t', e, ht, ne⟩ := hx _ hm
    cases e
    obtain ⟨_, its2, r2, o, ho, hc, n, hd⟩ := I.hok _ _ ht
    exact ⟨⟨t, o, _, n, rfl, ho, hc, hd, by have := r2.ints; rw [show (its2.toArray).toList = its2 by simp]; exact this⟩, ne⟩
  · have h3 : ∀ u ∈ out, ∃ a, u = Value.ref a := fun u hu => e2 u (h2.perm.mem_iff.mp hu)
    obtain ⟨n, hn⟩ := hn
    have hb : (out.map backV).Perm xs := by
      rw [e1]
      exact h2.perm.map backV
    refine ⟨.ref d, upd H d (.lst (out.map backV)), I.laid (t' := s.toks) kp hd ⟨?_, out, n, vals_back h3, hn⟩, rfl, q _ d (SrtO.srtd_map (lt := fun v u => HT.lexLt (k v) (k u)) h1) hb (I.hok.fresh hd)⟩
    rw [hb.length_eq]
    exact hz
end
end L2
namespace Pv
open PySem PySem.Spec PyProof.Rows L2
/-- what is compared when things are sorted -/
def intD : D → Int
  | .int i => i
  | _ => 0
def codD : D → List Int
  | .int i => [i]
  | .tuple ds => ds.map intD
  | _ => []
def isI : D → Bool
  | .int _ => true
  | _ => false
def isTI : D → Bool
  | .tuple ds => ds.all isI && !ds.isEmpty
  | _ => false
def ltD (x y : D) : Bool := HT.lexLt (codD x) (codD y)
def insD (x : D) : List D → List D
  | [] => [x]
  | y :: ys => if ltD y x then y :: insD x ys else x :: y :: ys
def srtD : List D → List D
  | [] => []
  | x :: xs => insD x (srtD xs)
theorem insD_perm (x : D) : ∀ l, (insD x l).Perm (x :: l)
  | [] => .refl _
  | y :: ys => by
    unfold insD
    split
    · exact ((insD_perm x ys).cons y).trans (.swap x y ys)
    · exact .refl _
theorem srtD_perm : ∀ l, (srtD l).Perm l
  | [] => .refl _
  | x :: xs => (insD_perm x _).trans ((srtD_perm xs).cons x)
theorem ltD_swo : SrtO.Swo ltD := SrtO.swo_lexL codD
theorem insD_srt (x : D) : ∀ l, SrtO.Srtd ltD l → SrtO.Srtd ltD (insD x l)
  | [], _ => SrtO.srtd_one x
  | y :: ys, h => by
    unfold insD
    split
    · rename_i hl
      refine List.pairwise_cons.mpr ⟨fun z hz => ?_, insD_srt x ys (List.pairwise_cons.mp h).2⟩
      rcases List.mem_cons.mp ((insD_perm x ys).mem_iff.mp hz) with e | e
      · rw [e]; exact ltD_swo.asym _ _ hl
      · exact SrtO.srtd_head h z e
    · rename_i hl
      have hl : ltD y x = false := by simpa using hl
      refine List.pairwise_cons.mpr ⟨fun z hz => ?_, h⟩
      rcases List.mem_cons.mp hz with e | e
      · rw [e]; exact hl
      · exact ltD_swo.tr _ _ _ hl (SrtO.srtd_head h z e)
theorem srtD_srt : ∀ l, SrtO.Srtd ltD (srtD l)
  | [] => List.Pairwise.nil
  | x :: xs => insD_srt x _ (srtD_srt xs)
theorem codD_inj {x y : D} (hx : isI x = true ∧ isI y = true ∨ isTI x = true ∧ isTI y = true) (h : codD x = codD y) : x = y := by
  rcases hx with ⟨h1, h2⟩ | ⟨h1, h2⟩
  · cases x <;> cases h1
    cases y <;> cases h2
    simp only [codD, List.cons.injEq, and_true] at h
    rw [h]
  · unfold isTI at h1 h2
    split at h1
    · rename_i ds
      split at h2
      · rename_i es
        simp only [codD] at h
        simp only [Bool.and_eq_true] at h1 h2
        have : ∀ (ds es : List D), ds.all isI = true → es.all isI = true → ds.map intD = es.map intD → ds = es := by
          intro ds
          induction ds with
          | nil => intro es _ _ h; cases es with | nil => rfl | cons => simp at h
          | cons d ds ih =>
            intro es h1 h2 h
            cases es with
            | nil => simp at h
            | cons e es =>
              rw [List.all_cons, Bool.and_eq_true] at h1 h2
              rw [List.map_cons, List.map_cons, List.cons.injEq] at h
              have hd : d = e := by
                cases d <;> cases h1.1
                cases e <;> cases h2.1
                have := h.1
                simp only [intD] at this
                rw [this]
              rw [hd, ih es h1.2 h2.2 h.2]
        rw [this _ _ h1.1 h2.1 h]
      · cases h2
    · cases h1
def oSorted : D → Option D
  | .list ds => if ds.all isI || ds.all isTI then some (.list (srtD ds)) else none
  | _ => none
section
variable {K : PySem.W.Frag} {X : Cx} {Γ Γ' Γ1 Γ2 Γ3 : List T} {H H' H1 H2 H3 : Hp} {Z Z' Z1 Z2 Z3 : FzT} {F F' F1 F2 : List Addr} {σ σ' σ1 : L2.St} {δ δ' : List D} {en eb ec er : List T} {et : T} {W W' : Ends}
theorem sha_ints : ∀ {xs : List V} {ds : List D}, ShA K H Z xs ds → ds.all isI = true → ∃ ns : List Int, xs = ns.map V.int ∧ ds = ns.map PyData.int
  | _, _, .nil, _ => ⟨[], rfl, rfl⟩
  | _, _, .cons (d := d) h r, q => by
    rw [List.all_cons, Bool.and_eq_true] at q
    obtain ⟨ns, rfl, rfl⟩ := sha_ints r q.2
    cases d with
    | int i => rw [h.intOf]; exact ⟨i :: ns, rfl, rfl⟩
    | _ => cases q.1
theorem ints_sha : ∀ (ns : List Int), ShA K H Z (ns.map V.int) (ns.map PyData.int)
  | [] => .nil
  | n :: ns => .cons (.int n) (ints_sha ns)
/-- the ints of a tuple -/
def codO : Option HO → List Int
  | some (.tup ys) => ys.map fun y => match y with | .int i => i | _ => 0
  | _ => []
def codV (H : Hp) : V → List Int
  | .ref b => codO (H b)
  | _ => []
theorem codV_int (ns : List Int) : ((ns.map V.int).map fun y => match y with | V.int i => i | _ => 0) = ns := by
  induction ns with
  | nil => rfl
  | cons n ns ih => rw [List.map_cons, List.map_cons, ih]
theorem sha_tups : ∀ {xs : List V} {ds : List D}, ShA K H Z xs ds → ds.all isTI = true → ds = xs.map (fun x => PyData.tuple ((codV H x).map .int)) ∧ ∀ x ∈ xs, ∃ t, x = V.ref t ∧ H t = some (.tup ((codV H x).map V.int)) ∧ codV H x ≠ []
  | _, _, .nil, _ => ⟨rfl, fun _ h => nomatch h⟩
  | _, _, .cons (v := v) (d := d) h r, q => by
    rw [List.all_cons, Bool.and_eq_true] at q
    obtain ⟨i1, i2⟩ := sha_tups r q.2
    have q1 := q.1
    unfold isTI at q1
    split at q1
    · rename_i es
      rw [Bool.and_eq_true] at q1
      cases h with
      | @tup a ys _ ha ra =>
        obtain ⟨ns, rfl, rfl⟩ := sha_ints ra q1.1
        have e : codV H (.ref a) = ns := by
          have : codV H (.ref a) = codO (H a) := rfl
          rw [this, ha]
          exact codV_int ns
        have ne : ns ≠ [] := fun z => by subst z; simp at q1
        refine ⟨by rw [List.map_cons, e, i1], fun x hx => ?_⟩
        rcases List.mem_cons.mp hx with rfl | hx
        · exact ⟨a, rfl, by rw [e]; exact ha, by rw [e]; exact ne⟩
        · exact i2 x hx
    · cases q1
theorem cSorted {e : Expr} {t : T} {f : EF} {x : Str} {p pos : Pos} (hg : Gl X x) (hm : X.mg x = none) (hv : bootBuiltins x = some (.builtin "sorted")) (ht : seqT t = true) (he : PE X e (tP X.K Γ t f)) (hn : x ≠ "__name__" := by decide) (hdb : (x == ("__debug__" : Str)) = false := by decide)
    (hs : starEach [e] X.env = (false, eval e X.env) :: starEach [] X.env := by rfl) :
    PE X (.Call (.Name x p) [e] [] pos) (tC X.K Γ (.ol .sh) (x1 oSorted f)) := (pe_callB (cr_sortedI.or cr_sortedTI) hg hm hv (pa_cons he pa_nil hs) hn hdb hs rfl).imp fun σ H Q ⟨δ, Z, F, d, ok, e, k⟩ => by
  obtain ⟨dl, e1, e2⟩ := Option.bind_eq_some_iff.mp e
  refine ⟨δ, Z, F, dl, ok, e1, fun v H1 Z1 g s1 r => ?_⟩
  cases dl with
  | list ds =>
    replace e2 : (if ds.all isI || ds.all isTI then some (PyData.list (srtD ds)) else none) = some d := e2
    split at e2
    · rename_i hall
      cases e2
      obtain ⟨a, xs, rfl, hq, sa⟩ : ∃ a xs, v = .ref a ∧ SqL X.K H1 a xs ∧ ShA X.K H1 Z1 xs ds := by
        cases r with
        | no => cases ht
        | sh h => cases h with | lst z r => exact ⟨_, _, rfl, z.sql, r⟩
        | @ol u _ _ _ _ h r =>
          cases u with
          | sh => exact ⟨_, _, rfl, SqL.of h, r.shA.1⟩
          | _ => cases ht
      have fin : ∀ (zs : List V) (p : Addr), ShA X.K H1 Z1 zs (srtD ds) → H1 p = none → Q (.ref p) (upd H1 p (.lst zs)) := fun zs p sz hp => k _ _ Z1 [p] (s1.trans (Ext.new hp)) (.ol upd_same (sz.ext (Ext.new hp)).repA) (by simp) fun b h => by
        have eb : b = p := by simpa using h
        subst eb
        exact ⟨Same.free s1.same hp, fun hz => (ok.ext s1).zs b hz hp⟩
      rw [Bool.or_eq_true] at hall
      rcases hall with hI | hT
      · obtain ⟨ns, rfl, rfl⟩ := sha_ints sa hI
        refine .inl ⟨a, ns, rfl, hq, fun ns' p h1 h2 hp => fin _ p ?_ hp⟩
        have e : srtD (ns.map PyData.int) = ns'.map PyData.int := by
          refine SrtO.srt_uniq ltD_swo (srtD_srt _) ?_ ((srtD_perm _).trans (h1.symm.map _)) fun x hx y hy l1 l2 => codD_inj (.inl ⟨?_, ?_⟩) (SrtO.lex_eq _ _ l1 l2)
          · refine List.pairwise_map.mpr (h2.imp fun {a b} h => ?_)
            show HT.lexLt [b] [a] = false
            rw [HT.lexLt_cons]
            split
            · rfl
            · exact decide_eq_false (by omega)
          · have := (srtD_perm _).mem_iff.mp hx
            obtain ⟨i, _, rfl⟩ := List.mem_map.mp this
            rfl
          · have := (srtD_perm _).mem_iff.mp hy
            obtain ⟨i, _, rfl⟩ := List.mem_map.mp this
            rfl
        rw [e]
        exact ints_sha ns'
      · obtain ⟨ed, hx⟩ := sha_tups sa hT
        refine .inr ⟨a, xs, codV H1, rfl, hq, hx, fun zs p h1 h2 hp => fin _ p ?_ hp⟩
        have hmem : ∀ z ∈ zs, ∃ d ∈ ds, Sh X.K H1 Z1 z d ∧ d = PyData.tuple ((codV H1 z).map .int) := fun z hz => by
          obtain ⟨n, hn⟩ := List.mem_iff_getElem?.mp (h2.mem_iff.mp hz)
          have hd : ds[n]? = some (PyData.tuple ((codV H1 z).map .int)) := by rw [ed, List.getElem?_map, hn]; rfl
          obtain ⟨v, e1, e2⟩ := sa.get hd
          rw [hn] at e1
          cases e1
          exact ⟨_, List.mem_of_getElem? hd, e2, rfl⟩
        have e : srtD ds = zs.map (fun x => PyData.tuple ((codV H1 x).map .int)) := by
          have hcod : ∀ z, codD (PyData.tuple ((codV H1 z).map .int)) = codV H1 z := fun z => by
            simp only [codD, List.map_map]
            have : (intD ∘ PyData.int) = id := rfl
            rw [this, List.map_id]
          refine SrtO.srt_uniq ltD_swo (srtD_srt _) ?_ ?_ fun x hx y hy l1 l2 => codD_inj (.inr ⟨?_, ?_⟩) (SrtO.lex_eq _ _ l1 l2)
          · refine List.pairwise_map.mpr (h1.imp fun {a b} h => ?_)
            show HT.lexLt (codD _) (codD _) = false
            rw [hcod, hcod]
            exact h
          · refine (srtD_perm _).trans ?_
            rw [ed]
            exact h2.symm.map _
          · exact List.all_eq_true.mp hT x ((srtD_perm _).mem_iff.mp hx)
          · exact List.all_eq_true.mp hT y ((srtD_perm _).mem_iff.mp hy)
        rw [e]
        have : ∀ (l : List V), (∀ z ∈ l, z ∈ zs) → ShA X.K H1 Z1 l (l.map (fun x => PyData.tuple ((codV H1 x).map .int))) := by
          intro l
          induction l with
          | nil => intro _; exact .nil
          | cons z l ih =>
            intro h
            obtain ⟨d, _, h1, h2⟩ := hmem z (h z List.mem_cons_self)
            rw [h2] at h1
            exact .cons h1 (ih fun y hy => h y (List.mem_cons_of_mem _ hy))
        exact this zs fun _ h => h
    · cases e2
  | _ => cases e2
end
end Pv

set_option Elab.async false
set_option linter.all false
set_option maxRecDepth 100000
/-! Pv17: the bottom of all calls; minus; the law itself. -/
namespace Pv
open PySem PySem.Spec PyProof.Rows L2
def f0 : List D → Option (D × List D) := fun _ => none
theorem fn_zero {P : Program} {w : World} {K : PySem.W.Frag} {mg : Str → Option Value} {base : Heap} {f : Addr} {fd : FuncData} {ps : List Str} {S : FS} {k : Nat} (h : S.f = f0) : FnOk P w K mg base CX0 k f fd ps (spF K S) := by
  refine ⟨fun vs H Q E q => ?_, fun A outer s H args us vs Q E _ _ _ _ q => ?_⟩
  · obtain ⟨ds, Z, F, d, ds', _, e, _⟩ := q
    rw [h] at e
    cases e
  · obtain ⟨ds, Z, F, d, ds', _, e, _⟩ := q
    rw [h] at e
    cases e
def dNeg : D → Option D
  | .int i => some (.int (-i))
  | _ => none
section
variable {K : PySem.W.Frag} {X : Cx} {Γ Γ' Γ1 Γ2 Γ3 : List T} {H H' H1 H2 H3 : Hp} {Z Z' Z1 Z2 Z3 : FzT} {F F' F1 F2 : List Addr} {σ σ' σ1 : L2.St} {δ δ' : List D} {en eb ec er : List T} {et : T} {W W' : Ends}
theorem cNeg {a : Expr} {f : EF} {pos : Pos} (ha : PE X a (tP X.K Γ .sh f)) : PE X (.UnaryOp .USub a pos) (tP X.K Γ .sh (x1 dNeg f)) := (pe_un un_neg ha).imp fun σ H Q ⟨δ, Z, F, d, ok, e, k⟩ => by
  obtain ⟨y, e1, e2⟩ := Option.bind_eq_some_iff.mp e
  unfold dNeg at e2
  split at e2
  · rename_i i
    cases e2
    refine ⟨δ, Z, F, _, ok, e1, fun v H1 Z1 g s1 r => ?_⟩
    exact ⟨_, r.shOf.1.intOf, k _ H1 Z1 [] s1 (.sh (.int _))⟩
  · cases e2
end
/-! ### the law: a list of ints comes in, True is to come out -/
theorem kl_of {K : PySem.W.Frag} {H : Hp} {a : Addr} {xs : List V} (h : SqL K H a xs) : Rd H a (.lst xs) ∨ KL K a xs := h
theorem spF_law {K : PySem.W.Frag} {f : List D → Option (D × List D)} (h : ∀ ns : List Int, ns.length ≤ 63 → ∃ ds', f [.list (ns.map .int)] = some (.bool true, ds')) (H : Hp) (a : Addr) (ns : List Int) (E : XK) (hl : ns.length ≤ 63) (hs : SqL K H a (ns.map V.int)) :
    spF K ⟨[.sh], [.no], .sh, f⟩ [.ref a] H (fun v _ => v = .bl true) E := by
  obtain ⟨ds', e⟩ := h ns hl
  have fin : ∀ Z : FzT, (∀ x, Z x → H x ≠ none) → FzL K H Z a (ns.map V.int) → spF K ⟨[.sh], [.no], .sh, f⟩ [.ref a] H (fun v _ => v = .bl true) E := fun Z hz hf => by
    refine ⟨[.list (ns.map .int)], Z, [], _, ds', ⟨?_, .nil, (fun _ q => nomatch q), hz⟩, e, fun v H' Z' F' g s o r nd dz => ?_⟩
    · exact Env.cons (f := []) (.sh (.lst hf (ints_sha ns))) .nil
    · exact r.shOf.1.blOf
  rcases kl_of hs with hs | hs
  · refine fin (fun x => x = a) (fun x hx => ?_) (.inl ⟨rfl, hs⟩)
    subst hx
    rcases hs with hs | ⟨o, hs⟩ <;> rw [hs] <;> exact fun z => nomatch z
  · exact fin (fun _ => False) (fun _ q => q.elim) (.inr hs)
end Pv

set_option Elab.async false
set_option linter.all false
set_option maxRecDepth 100000
/-! Pv18: odds and ends. -/
namespace Pv
open PySem PySem.Spec PyProof.Rows L2
def xmIoL (i : Nat) (r : LM) : LM := fun δ => (r δ).bind fun q => (q.2[i]?).map fun d => (d :: q.1, q.2)
theorem ro_len {α : Type} (pm : List Nat) (n : Nat) (h : pm.all (fun i => decide (i < n)) = true) : ∀ ds : List α, ds.length = n → (ro pm ds).length = pm.length := fun ds l => by
  induction pm with
  | nil => rfl
  | cons i pm ih =>
    rw [List.all_cons, Bool.and_eq_true] at h
    have hi : i < ds.length := by rw [l]; exact of_decide_eq_true h.1
    unfold ro at ih ⊢
    rw [List.filterMap_cons, List.getElem?_eq_getElem hi, List.length_cons, List.length_cons, ih h.2]
section
variable {K : PySem.W.Frag} {X : Cx} {Γ Γ' Γ1 Γ2 Γ3 : List T} {H H' H1 H2 H3 : Hp} {Z Z' Z1 Z2 Z3 : FzT} {F F' F1 F2 : List Addr} {σ σ' σ1 : L2.St} {δ δ' : List D} {en eb ec er : List T} {et : T} {W W' : Ends}
theorem zNevers {sts : List Stmt} : PSs X sts (tS X.K Γ ⟨en, eb, ec, er, et⟩ sNo) := pss_never.imp fun W σ H ⟨δ, Z, F, out, ok, e, p⟩ => nomatch e
theorem zWkn {n' : List T} {st : List Stmt} {f : SF} (h : PSs X st (tS X.K Γ ⟨n', eb, ec, er, et⟩ f)) (hn : wk n' en = true) : PSs X st (tS X.K Γ ⟨en, eb, ec, er, et⟩ f) :=
  h.imp fun W σ H ⟨δ, Z, F, out, ok, e, p⟩ => by
    refine ⟨δ, Z, F, out, ok, e, ?_⟩
    cases out with
    | nx δ' =>
      intro σ' H' Z' F' s o fx
      obtain ⟨F2, o2, sb⟩ := o.weak hn
      exact p σ' H' Z' F2 (s.sub fun x hx => sb.subset hx) o2 fx
    | bk δ' => exact p
    | ct δ' => exact p
    | rt d δ' => exact p
/-- an argument that is a slot's own list, which the arguments behind it change -/
theorem aMIoL (i : Nat) {x : Str} {pos : Pos} {t : T} {ts : List T} {gb : List (Option Nat)} {r : LM} {es : List Expr} (ht1 : Γ[i]? = some t) (ht : Γ2[i]? = some t) (hn : t ≠ .no) (h : PE X (.Name x pos) (tVar i)) (hr : PA X es (aM X.K Γ Γ2 ts gb r))
    (hs : starEach (.Name x pos :: es) X.env = (false, eval (.Name x pos) X.env) :: starEach es X.env := by rfl) :
    PA X (.Name x pos :: es) (aM X.K Γ (Γ2.set i .no) (t :: ts) (some i :: gb) (xmIoL i r)) := (pa_cons h hr hs).imp fun σ H Q ⟨δ, Z, F, ds, δ', ok, e, k⟩ => by
  obtain ⟨⟨ds', δ2⟩, e3, e4⟩ := Option.bind_eq_some_iff.mp e
  obtain ⟨d, e5, e6⟩ := Option.map_eq_some_iff.mp e4
  cases e6
  have hi : i < Γ.length := (List.getElem?_eq_some_iff.mp ht1).1
  obtain ⟨d0, hd0⟩ : ∃ d, δ[i]? = some d := ⟨δ[i]'(by rw [ok.env.len.2]; exact hi), by simp [ok.env.len.2, hi]⟩
  obtain ⟨v, g0, h1, _⟩ := ok.env.get ht1 hn hd0
  refine ⟨v, h1, δ, Z, F, ds', δ2, ok, e3, fun vs H2 Z2 F2 g2 s2 ok2 r2 nd2 dz2 gv => ?_⟩
  obtain ⟨v', F1, g1, h1', h2', h3', h4', h5'⟩ := ok2.take ht hn e5
  rw [h1] at h1'
  cases h1'
  have nd3 : (F1 ++ (g1 ++ g2)).Nodup := by
    have := nd_set nd2 h4' h5'
    rw [List.append_assoc] at this
    exact this
  refine k (v :: vs) H2 Z2 F1 (g1 ++ g2) (s2.sub fun a ha => ?_) h3' (.cons h2' r2) nd3 (fun a ha => (List.mem_append.mp ha).elim (fun h => ok2.dz a (h5' a (List.mem_append_right _ h))) (dz2 a)) ⟨h1, gv⟩
  simp only [List.mem_append] at ha ⊢
  rcases ha with h | h | h
  · exact .inl (h5' a (List.mem_append_left _ h))
  · exact .inl (h5' a (List.mem_append_right _ h))
  · exact .inr h
theorem mCallB {x : Str} {p pos : Pos} {e : Expr} {es : List Expr} {id : String} {r : List V → Hp → VK → Prop} {ts : List T} {gb : List (Option Nat)} {o : List D → Option D} {f : LM} (hc : CallR X (.builtin id) r) (hs : CalS X.K r ts .sh o) (ht : ts.all (· == .sh) = true) (hg : Gl X x) (hm : X.mg x = none) (hv : bootBuiltins x = some (.builtin id))
    (ha : PA X (e :: es) (aM X.K Γ Γ' ts gb f)) (hn : x ≠ "__name__" := by decide) (hdb : (x == ("__debug__" : Str)) = false := by decide)
    (he : starEach (e :: es) X.env = (false, eval e X.env) :: starEach es X.env := by rfl) (hpl : (backTo pos (starEach es X.env)).any (·.1) = false := by rfl) : PE X (.Call (.Name x p) (e :: es) [] pos) (tM X.K Γ Γ' .sh (xLM o f)) :=
  (pe_callB hc hg hm hv ha hn hdb he hpl).imp fun _ _ _ => pLM hs ht
end
end Pv

set_option Elab.async false
set_option linter.all false
set_option maxRecDepth 100000
/-! Pv19: while; truth; own lists read by a pure part; a dict of one key; list(d), extend, sum, is; pairs with a part of one's own. -/
namespace Pv
open PySem PySem.Spec PyProof.Rows L2
/-! ### while -/
def whileL (c : BF) (b : SF) : Nat → List D → Option Out
  | 0, _ => none
  | n + 1, δ => (c δ).bind fun k => if k then (b δ).bind fun o => match o with
    | .nx δ' => whileL c b n δ'
    | .ct δ' => whileL c b n δ'
    | .bk δ' => some (.nx δ')
    | .rt d δ' => some (.rt d δ') else some (.nx δ)
def fuelD : Nat := 1000000000
def sWhile (c : BF) (b : SF) : SF := whileL c b fuelD
/-! ### truth -/
def truD : D → Option Bool
  | .none => some false
  | .bool b => some b
  | .int i => some (i != 0)
  | .list ds => some (!ds.isEmpty)
  | .tuple ds => some (!ds.isEmpty)
  | _ => none
def bTr (f : EF) : BF := fun δ => (f δ).bind truD
def xFlat (f : EF) : EF := fun δ => (f δ).bind fun d => if flatD d then some d else none
def xDict1 (fk fv : EF) : EF := fun δ => (fk δ).bind fun k => (fv δ).bind fun v => if (ikey k).isSome then some (.dict [(k, v)]) else none
def oLstD : List D → Option D
  | [d] => (dictOf d).bind fun p => if p.1 then none else some (.list (p.2.map Prod.fst))
  | _ => none
def xExt (i : Nat) (f : EM) : EM := fun δ => (f δ).bind fun p => match p.1 with
  | .list ys => (getL p.2 i).bind fun ds => if ds.length + ys.length ≤ sizeLine then some (.none, p.2.set i (.list (ds ++ ys))) else none
  | _ => none
def intsD : List D → Option (List Int)
  | [] => some []
  | .int i :: ds => (intsD ds).map (i :: ·)
  | _ :: _ => none
def oSum : List D → Option D
  | [.list ds] => (intsD ds).map fun ns => .int ns.sum
  | _ => none
def dIsB : D → D → Option D
  | .bool a, .bool b => some (.bool (decide (a = b)))
  | _, _ => none
def dNotB : D → D → Option D
  | .bool a, .bool b => some (.bool (!decide (a = b)))
  | _, _ => none
def mkPr : List D → Option D
  | [a, b] => some (.tuple [a, b])
  | _ => none
def sUnpPr (i j : Nat) (f : EM) : SF := fun δ => (f δ).bind fun p => match p.1 with
  | .tuple [a, b] => some (.nx ((p.2.set i a).set j b))
  | _ => none
section
variable {K : PySem.W.Frag} {X : Cx} {Γ Γ' Γ1 Γ2 Γ3 : List T} {H H' H1 H2 H3 : Hp} {Z Z' Z1 Z2 Z3 : FzT} {F F' F1 F2 : List Addr} {σ σ' σ1 : L2.St} {δ δ' : List D} {en eb ec er : List T} {et : T} {W W' : Ends}
theorem zWhile {c : Expr} {body : List Stmt} {pos : Pos} {cf : BF} {b : SF} (hp : PassesOwn (model X.prog X.w) X.A X.env X.xe) (hc : PT X c (bP X.K Γ cf)) (hb : PSs X body (tS X.K Γ ⟨Γ, Γ, Γ, er, et⟩ b)) :
    PS X (.While c body [] pos) (tS X.K Γ ⟨Γ, eb, ec, er, et⟩ (sWhile cf b)) := (ps_while hp hc hb).imp fun W σ H ⟨δ, Z, F, out, ok, e, p⟩ => by
  refine ⟨fun m σi Hi => ∃ δi Zi Fi, Ok X.K Γ σi δi Hi Zi Fi ∧ whileL cf b m δi = some out ∧ Stp H Z F Hi Zi Fi ∧ Fix er σ σi, ⟨fuelD, δ, Z, F, ok, e, .refl, .refl _ _⟩, fun m σi Hi ⟨δi, Zi, Fi, oki, ei, si, fi⟩ => ?_⟩
  cases m with
  | zero => cases ei
  | succ m =>
    obtain ⟨k, ek, e2⟩ := Option.bind_eq_some_iff.mp ei
    refine ⟨δi, Zi, Fi, k, oki, ek, fun H1 Z1 s1 => ?_⟩
    cases k with
    | true =>
      rw [if_pos rfl] at e2
      rw [if_pos rfl]
      obtain ⟨o, eo, e3⟩ := Option.bind_eq_some_iff.mp e2
      refine ⟨fun σ' H' => ∃ δ' Z' F', Ok X.K Γ σ' δ' H' Z' F' ∧ whileL cf b m δ' = some out ∧ Stp H Z F H' Z' F' ∧ Fix er σ σ', fun σ' H' q => ⟨m, Nat.lt_succ_self m, q⟩, δi, Z1, Fi, o, oki.ext s1, eo, ?_⟩
      have s4 : Stp H Z F H1 Z1 Fi := si.trans s1.stp
      cases o with
      | nx δ' => exact fun σ' H' Z' F' s' o' fx => ⟨δ', Z', F', o', e3, s4.trans s', fi.trans fx⟩
      | ct δ' => exact fun σ' H' Z' F' s' o' fx => ⟨δ', Z', F', o', e3, s4.trans s', fi.trans fx⟩
      | bk δ' => cases e3; exact fun σ' H' Z' F' s' o' fx => p σ' H' Z' F' (s4.trans s') o' (fi.trans fx)
      | rt d δ' => cases e3; exact fun v σ' H' Z' F' g s' o' fx r nd dz => p v σ' H' Z' F' g (s4.trans s') o' (fi.trans fx) r nd dz
    | false =>
      rw [if_neg Bool.false_ne_true] at e2
      rw [if_neg Bool.false_ne_true]
      cases e2
      exact p σi H1 Z1 Fi (si.trans s1.stp) (oki.ext s1) fi
def truT : T → Bool
  | .sh => true
  | .ol .sh => true
  | _ => false
theorem len_empty {α β : Type} {xs : List α} {ds : List β} (h : xs.length = ds.length) : xs.isEmpty = ds.isEmpty := by
  cases xs <;> cases ds <;> simp_all
theorem tru_rep {t : T} {v : V} {d : D} {g : List Addr} {k : Bool} (ht : truT t = true) (r : Rep K H Z t v d g) (e : truD d = some k) : TruV K v H k := by
  have fin : ∀ {d : D}, Sh K H Z v d → truD d = some k → TruV K v H k := fun {d} s e => by
    cases s with
    | non => cases e; exact rfl
    | bl b => cases e; exact rfl
    | int i => cases e; exact rfl
    | lst z r0 => cases e; exact .inl ⟨_, z.sql, by rw [len_empty r0.len]⟩
    | tup h r0 => cases e; exact .inr (.inl ⟨_, SqT.of h, by rw [len_empty r0.len]⟩)
    | _ => cases e
  cases r with
  | no => cases ht
  | sh s => exact fin s e
  | @ol u _ _ _ _ h r => cases e; exact .inl ⟨_, SqL.of h, by rw [len_empty (Rep.len r)]⟩
  | _ => cases ht
theorem qTruth {t : T} {f : EF} {a : Expr} (ht : truT t = true) (ha : PE X a (tP X.K Γ t f)) (he : ∀ whole, isTrue a X.env whole = (do let v ← whole; standAt a.pos; holding [v] (truthy v)) := by intro _; rfl) : PT X a (bP X.K Γ (bTr f)) :=
  (pt_truth ha he).imp fun σ H Q ⟨δ, Z, F, b, ok, e, k⟩ => by
  obtain ⟨d, e1, e2⟩ := Option.bind_eq_some_iff.mp e
  exact ⟨δ, Z, F, d, ok, e1, fun v H1 Z1 g s1 r1 => ⟨b, tru_rep ht r1 e2, k H1 Z1 s1⟩⟩
/-! ### a list of one's own, seen as if it stayed -/
theorem Ok.frzAt {i : Nat} {t : T} (ok : Ok K Γ σ δ H Z F) (ht : Γ[i]? = some t) (hf : t.full = true) : ∃ Z2 F2, Ok K (Γ.set i .sh) σ δ H Z2 F2 := by
  have hn : t ≠ .no := fun z => by rw [z] at hf; cases hf
  have hi : i < Γ.length := (List.getElem?_eq_some_iff.mp ht).1
  obtain ⟨d, hd⟩ : ∃ d, δ[i]? = some d := ⟨δ[i]'(by rw [ok.env.len.2]; exact hi), by simp [ok.env.len.2, hi]⟩
  obtain ⟨v, F', g, h1, h2, h3, h4, h5⟩ := ok.take ht hn hd
  have o1 := h3.freeze h4 h2.mu
  have sh : Sh K H (zu Z g) v d := h2.frz (fun _ => .inl) hf fun _ => .inr
  obtain ⟨F2, o2, sb⟩ := o1.set (i := i) (t := .sh) (v := v) (d := d) (g := []) (by simpa using hi) (.sh sh) (by simpa using o1.nd) (fun _ q => nomatch q)
  rw [set_self h1, set_self hd, List.set_set] at o2
  exact ⟨_, F2, o2⟩
theorem Ext.back (ok : Ok K Γ σ δ H Z F) (s : Ext H Z1 H' Z1') : Ext H Z H' Z :=
  ⟨s.keep, fun _ h => h, (fun _ q => nomatch q), fun _ h => .inl h, s.live, fun _ h => .inl h⟩
theorem qBorrow (i : Nat) {t : T} {f : BF} {c : Expr} (ht : Γ[i]? = some t) (hf : t.full = true) (h : PT X c (bP X.K (Γ.set i .sh) f)) : PT X c (bP X.K Γ f) := h.imp fun σ H Q ⟨δ, Z, F, b, ok, e, k⟩ => by
  obtain ⟨Z2, F2, o2⟩ := ok.frzAt ht hf
  exact ⟨δ, Z2, F2, b, o2, e, fun H' Z' s => k H' Z (s.back ok)⟩
theorem Sh.flat {v : V} {d : D} (h : Sh K H Z v d) (f : flatD d = true) : Sh K H' Z' v d := by
  cases h with
  | non => exact .non
  | bl b => exact .bl b
  | int i => exact .int i
  | str x => exact .str x
  | _ => cases f
theorem cBorrow (i : Nat) {t : T} {f : EF} {c : Expr} (ht : Γ[i]? = some t) (hf : t.full = true) (h : PE X c (tP X.K (Γ.set i .sh) .sh f)) : PE X c (tP X.K Γ .sh (xFlat f)) := h.imp fun σ H Q ⟨δ, Z, F, d, ok, e, k⟩ => by
  obtain ⟨Z2, F2, o2⟩ := ok.frzAt ht hf
  obtain ⟨d', e1, e2⟩ := Option.bind_eq_some_iff.mp e
  split at e2
  · rename_i hfl
    cases e2
    exact ⟨δ, Z2, F2, d, o2, e1, fun v H' Z' g s r => k v H' Z [] (s.back ok) (.sh (r.shOf.1.flat hfl))⟩
  · cases e2
/-! ### {k: v} -/
theorem cDict1 {a b : Expr} {pos : Pos} {fk fv : EF} (ha : PE X a (tP X.K Γ .sh fk)) (hb : PE X b (tP X.K Γ .sh fv)) : PE X (.Dict [some a] [b] pos) (tC X.K Γ (.dk .sh) (xDict1 fk fv)) :=
  (pe_disp (pps_cons ha hb pps_nil) rfl rfl (fun z => nomatch z) (by simp)).imp fun σ H Q ⟨δ, Z, F, d, ok, e, kq⟩ => by
  obtain ⟨x, ex, e⟩ := Option.bind_eq_some_iff.mp e
  obtain ⟨y, ey, e⟩ := Option.bind_eq_some_iff.mp e
  split at e
  · rename_i hk
    cases e
    obtain ⟨ky, hky⟩ := Option.isSome_iff_exists.mp hk
    have ek := ikey_eq hky
    subst ek
    intro p hp
    have s0 : Ext H Z (upd H p (.dK [])) Z := Ext.new hp
    have ok0 := ok.ext s0
    refine ⟨δ, Z, F, kD ky, ok0, ex, fun v H1 Z1 g1 s1 r1 => ⟨δ, Z1, F, y, ok0.ext s1, ey, fun w H2 Z2 g2 s2 r2 => ?_⟩⟩
    obtain ⟨rs, rfl⟩ := r2.shOf
    obtain rfl := r1.shOf.1.keyK
    have s12 : Ext (upd H p (.dK [])) Z H2 Z2 := s1.trans s2
    have hp2 : H2 p = some (.dK []) := s12.keep p _ upd_same (by simp)
    have nz : ¬ Z2 p := fun z => by
      rcases s12.frz p z with h | h | h
      · exact ok.zs p h hp
      · exact nomatch h
      · rw [upd_same] at h; cases h
    have su : Stp H2 Z2 [p] (upd H2 p (.dK [(ky, w)])) Z2 [p] := Stp.upd (by simp)
    have mu : Mu H2 [p] := fun x hx => by simp only [List.mem_singleton] at hx; subst hx; exact ⟨_, hp2, rfl⟩
    have dz : ∀ x ∈ [p], ¬ Z2 x := fun x hx => by simp only [List.mem_singleton] at hx; rw [hx]; exact nz
    have rs' := rs.step su mu dz
    show H2 p = some (.dK []) ∧ _
    refine ⟨hp2, [(ky, w)], rfl, by simp, ?_⟩
    have em : mergeK [] [(ky, w)] = [(ky, w)] := rfl
    rw [em]
    refine kq (.ref p) _ Z2 [p] ((s0.trans s12).updNew hp) (.dk (kvs := [(ky, w)]) upd_same rfl (ShA.repA (.cons rs' .nil))) (by simp) fun a ha => ?_
    have ea : a = p := by simpa using ha
    subst ea
    exact ⟨hp, nz⟩
  · cases e
/-! ### list(d) -/
theorem cLstD {e : Expr} {t : T} {f : LF} {p pos : Pos} (hc : X.calm = true) (hg : Gl X "list") (hm : X.mg "list" = none) (ht : isDct t = true) (ha : PA X [e] (aP X.K Γ [t] f)) (he : starEach [e] X.env = (false, eval e X.env) :: starEach [] X.env := by rfl) :
    PE X (.Call (.Name "list" p) [e] [] pos) (tC X.K Γ (.ol .sh) (xL oLstD f)) :=
  (pe_callTy (call_listD hc) hg hm boot_list ha (by decide) (by decide) he (by rfl)).imp fun σ H Q ⟨δ, Z, F, d, ok, e, k⟩ => by
  obtain ⟨ds, e1, e2⟩ := Option.bind_eq_some_iff.mp e
  refine ⟨δ, Z, F, ds, ok, e1, fun vs H1 Z1 g s1 en => ?_⟩
  unfold oLstD at e2
  split at e2
  · rename_i dx
    obtain ⟨⟨b, kvd⟩, e3, e4⟩ := Option.bind_eq_some_iff.mp e2
    obtain ⟨v, g', rfl, r⟩ := vs1t (fun z => by rw [z] at ht; cases ht) en
    cases b with
    | true => cases e4
    | false =>
      replace e4 : some (PyData.list (kvd.map Prod.fst)) = some d := e4
      cases e4
      have key : ∃ (a : Addr) (kvs : List (Key × V)), v = .ref a ∧ Rd H1 a (.dK kvs) ∧ kvd.map Prod.fst = kvs.map (fun p => kD p.1) := by
        unfold isDct at ht
        split at ht
        · obtain ⟨r', _⟩ := r.shOf
          cases r' with
          | @dk a od kvs kvd' z h ek r' =>
            obtain ⟨_, rfl⟩ := dictOf_dk ek e3
            exact ⟨a, kvs, rfl, .inr ⟨od, h⟩, ek⟩
          | dt z h ek r' => cases e3
          | _ => cases e3
        · cases r with
          | @dk _ a kvs kvd' f h ek r =>
            obtain ⟨_, rfl⟩ := dictOf_dk ek e3
            exact ⟨a, kvs, rfl, .inl h, ek⟩
        · cases r with
          | dt h ek r => cases e3
        · cases ht
      obtain ⟨a, kvs, rfl, hr, ek⟩ := key
      refine ⟨a, kvs, rfl, hr, fun l hl => k (.ref l) _ Z1 [l] (s1.trans (Ext.new hl)) (.ol upd_same ?_) (by simp) fun x hx => ?_⟩
      · rw [ek]
        have e3 : (kvs.map fun kv => kV kv.1) = (kvs.map Prod.fst).map kV := by rw [List.map_map]; rfl
        have e4 : (kvs.map fun kv => kD kv.1) = (kvs.map Prod.fst).map kD := by rw [List.map_map]; rfl
        rw [e3, e4]
        exact sha_kD.repA
      · have ea : x = l := by simpa using hx
        subst ea
        exact ⟨Same.free s1.same hl, fun hz => (ok.ext s1).zs x hz hl⟩
  · cases e2
/-! ### x.extend(ys) -/
theorem mExt (i : Nat) {c : Expr} {f : EM} (h : PE X c (tBM X.K "list" rExtend (tVar i) (tCons (tM X.K Γ Γ' (.ol .sh) f) tNil))) (ht : Γ[i]? = some (.ol .sh)) (ht' : Γ'[i]? = some (.ol .sh)) : PE X c (tM X.K Γ Γ' .sh (xExt i f)) :=
  h.imp fun σ H Q ⟨δ, Z, F, d, δ', ok, e, k⟩ => by
  obtain ⟨⟨y, δ1⟩, e1, e2⟩ := Option.bind_eq_some_iff.mp e
  cases y with
  | list es =>
    obtain ⟨ds, e3, e4⟩ := Option.bind_eq_some_iff.mp e2
    split at e4
    · rename_i hlt
      cases e4
      obtain ⟨a0, xs0, hv, hH⟩ := recv ok ht
      refine ⟨.ref a0, hv, .inl ⟨rfl, xs0, SqL.of hH⟩, δ, Z, F, .list es, δ1, ok, e1, fun v H1 Z1 F1 g1 s1 ok1 r1 nd1 dz1 => ?_⟩
      obtain ⟨a, xs, fs, F2, hv', ha, ra, o2, nd2, sb2⟩ := ok1.opn ht' (getL_eq e3)
      rw [hv] at hv'
      have ea : a0 = a := by simpa using hv'
      subst ea
      obtain ⟨b, zs, ds', gs, rfl, e5, rfl, hb, rb⟩ := ofList r1
      cases e5
      obtain ⟨sa, rfl⟩ := ra.shA
      obtain ⟨sb, rfl⟩ := rb.shA
      have dz4 : ∀ x ∈ [a0], ¬ Z1 x := fun x hx => by simp only [List.mem_singleton] at hx; rw [hx]; exact ok1.dz a0 (sb2 a0 (by simp))
      have su : Stp H1 Z1 [a0] (upd H1 a0 (.lst (xs ++ zs))) Z1 [a0] := Stp.upd (by simp)
      have mu : Mu H1 [a0] := Mu.one ha
      have rN : RepA X.K (upd H1 a0 (.lst (xs ++ zs))) Z1 .sh (xs ++ zs) (ds ++ es) [] := ((sa.app sb).step su mu dz4).repA
      obtain ⟨F3, o3, sb3⟩ := o2.put ht' hv ha nd2 dz4 rN
      refine ⟨a0, b, xs, zs, rfl, rfl, ha, hb, by rw [sa.len, sb.len]; exact hlt, k .non _ Z1 F3 [] ?_ o3 (.sh .non) (by simpa using o3.nd) (fun _ q => nomatch q)⟩
      have h1 : a0 ∈ F1 ++ [b] := List.mem_append_left _ (sb2 a0 (by simp))
      exact (s1.trans (Stp.upd h1)).sub fun x hx => List.mem_append_left _ (sb2 x (sb3 x (by simpa using hx)))
    · cases e4
  | _ => cases e2
/-! ### sum -/
theorem ints_V : ∀ {xs : List V} {ds : List D} {ns : List Int}, ShA K H Z xs ds → intsD ds = some ns → xs = ns.map V.int
  | _, _, _, .nil, e => by cases e; rfl
  | _, _, _, .cons h r, e => by
    unfold intsD at e
    split at e
    · rename_i h0; cases h0
    · rename_i i ds' h0
      cases h0
      obtain ⟨ns', e1, e2⟩ := Option.map_eq_some_iff.mp e
      subst e2
      rw [h.intOf, ints_V r e1]
      rfl
    · cases e
theorem sum_s {t : T} (ht : seqT t = true) : CalS K (rSum K) [t] .sh oSum := by
  intro H Z vs ds d g Q en e k
  unfold oSum at e
  split at e
  · rename_i es
    obtain ⟨ns, e1, e2⟩ := Option.map_eq_some_iff.mp e
    cases e2
    obtain ⟨v, g', rfl, r⟩ := vs1t (fun z => by rw [z] at ht; cases ht) en
    have key : ∃ a xs, v = .ref a ∧ SqL K H a xs ∧ ShA K H Z xs es := by
      cases r with
      | no => cases ht
      | sh h => cases h with | lst z r => exact ⟨_, _, rfl, z.sql, r⟩
      | @ol u _ _ _ _ h r =>
        cases u with
        | sh => exact ⟨_, _, rfl, SqL.of h, r.shA.1⟩
        | _ => cases ht
    obtain ⟨a, xs, rfl, hq, sa⟩ := key
    obtain rfl := ints_V sa e1
    exact ⟨a, ns, rfl, hq, k _ H Z [] .refl (.sh (.int _))⟩
  · cases e
/-! ### is of bools -/
theorem isB_s : OpS K rIsB .sh .sh .sh dIsB := by
  intro H Z x y dx dy d f g Q rx ry e k
  unfold dIsB at e
  split at e
  · rename_i a b
    cases e
    obtain ⟨rfl, _⟩ := toB_sh rx.shOf.1 rfl
    obtain ⟨rfl, _⟩ := toB_sh ry.shOf.1 rfl
    exact ⟨a, b, rfl, rfl, k _ H Z [] .refl (.sh (.bl _))⟩
  · cases e
theorem notB_s : OpS K rNotB .sh .sh .sh dNotB := by
  intro H Z x y dx dy d f g Q rx ry e k
  unfold dNotB at e
  split at e
  · rename_i a b
    cases e
    obtain ⟨rfl, _⟩ := toB_sh rx.shOf.1 rfl
    obtain ⟨rfl, _⟩ := toB_sh ry.shOf.1 rfl
    exact ⟨a, b, rfl, rfl, k _ H Z [] .refl (.sh (.bl _))⟩
  · cases e
/-! ### pairs with a part of one's own -/
theorem mPr {x1} {es : List Expr} {pos : Pos} {s t : T} {gb : List (Option Nat)} {f : LM} (h : PA X es (aM X.K Γ Γ' [s, t] gb f)) (hs : s ≠ .no := by decide) (ht : t ≠ .no := by decide) : PE X (.Tuple es x1 pos) (tM X.K Γ Γ' (.pr s t) (xLM mkPr f)) :=
  (pe_tup h).imp fun σ H Q ⟨δ, Z, F, d, δ', ok, e, k⟩ => by
    obtain ⟨⟨ds, δ1⟩, eds, e⟩ := Option.bind_eq_some_iff.mp e
    obtain ⟨d', e', e''⟩ := Option.map_eq_some_iff.mp e
    cases e''
    replace e' : mkPr ds = some d := e'
    unfold mkPr at e'
    split at e'
    · rename_i da db
      cases e'
      refine ⟨δ, Z, F, _, δ1, ok, eds, fun vs H1 Z1 F1 g s1 ok1 r1 nd1 dz1 gv => ?_⟩
      have l := r1.len.1
      match vs, l, r1 with
      | [v, w], _, r1 =>
        cases r1 with
        | no => exact absurd rfl hs
        | @cons _ _ _ _ _ _ ga gr ra rr =>
          cases rr with
          | no => exact absurd rfl ht
          | @cons _ _ _ _ _ _ gb' gr' rb rr =>
            cases rr
            rw [List.append_nil] at *
            refine ⟨by have : 100000 < sizeLine := by decide
                       show 2 ≤ sizeLine; omega, fun p hp => ?_⟩
            exact k _ _ Z1 F1 (ga ++ gb') (s1.trans (Ext.stp (Ext.new hp))) (ok1.ext (Ext.new hp)) (.pr upd_same (ra.ext (Ext.new hp)) (rb.ext (Ext.new hp))) nd1 dz1
    · cases e'
theorem zUnpPr {i j : Nat} {x y : Str} {px py pt pos : Pos} {kk : Nat} {e : Expr} {s t : T} {f : EM} (hc : X.calm = true) (hN : X.N.Nodup) (hi : X.N[i]? = some x) (hj : X.N[j]? = some y) (hx : Loc X.env.scope x) (hy : Loc X.env.scope y)
    (he : PE X e (tM X.K Γ Γ' (.pr s t) f)) (hli : i < Γ'.length) (hlj : j < Γ'.length) (hr : noIx er [i, j] = true)
    (hfx : X.fn x = true ∨ X.env.scope.names.lookup x = some .local := by first | exact .inl rfl | exact .inr rfl | assumption) (hfy : X.fn y = true ∨ X.env.scope.names.lookup y = some .local := by first | exact .inl rfl | exact .inr rfl | assumption)
    (hs : swapsWithSole [.Tuple [.Name x px, .Name y py] kk pt] e pos.line X.env = pure false := by rfl) (hw : swappedStores [.Tuple [.Name x px, .Name y py] kk pt] e X.env = pure none := by rfl)
    (h1 : (assignEach [.Tuple [.Name x px, .Name y py] kk pt] X.env).map (·.2) = [assign (.Tuple [.Name x px, .Name y py] kk pt) X.env] := by rfl)
    (h2 : (assignEach [.Name x px, .Name y py] X.env).map (·.2) = assign (.Name x px) X.env :: (assignEach [.Name y py] X.env).map (·.2) := by rfl) (h3 : (assignEach [.Name y py] X.env).map (·.2) = assign (.Name y py) X.env :: (assignEach [] X.env).map (·.2) := by rfl)
    (h4 : (assignEach [.Name x px, .Name y py] X.env).length = 2 := by rfl) (h5 : (assignEach [.Name x px, .Name y py] X.env).findIdx? (·.1) = none := by rfl) :
    PS X (.Assign [.Tuple [.Name x px, .Name y py] kk pt] e pos) (tS X.K Γ ⟨(Γ'.set i s).set j t, eb, ec, er, et⟩ (sUnpPr i j f)) :=
  (ps_asg he (pg_tup hc (pgs_cons (pg_name hN hi hx hfx) (pgs_cons (pg_name hN hj hy hfy) pgs_nil h3) h2) h4 h5) hs hw h1).imp fun W σ H ⟨δ, Z, F, out, ok, e, p⟩ => by
  obtain ⟨⟨d, δ'⟩, e1, e2⟩ := Option.bind_eq_some_iff.mp e
  have e3 : ∃ a b, d = .tuple [a, b] ∧ out = .nx ((δ'.set i a).set j b) := by
    dsimp only at e2
    split at e2
    · cases e2; exact ⟨_, _, rfl, rfl⟩
    · cases e2
  obtain ⟨a, b, rfl, rfl⟩ := e3
  · skip
    refine ⟨δ, Z, F, _, δ', ok, e1, fun v H' Z' F' g s o r nd dz => ?_⟩
    cases r with
    | @pr _ _ ad vx vy _ _ ga gb ht ra rb =>
      have nd' : ((F' ++ ga) ++ gb).Nodup := by rw [List.append_assoc]; exact nd
      obtain ⟨F1, o1, sb1⟩ := o.set hli ra (List.nodup_append.mp nd').1 fun a h => dz a (List.mem_append_left _ h)
      have nd2 : (F1 ++ gb).Nodup := nodup_app o1.nd (List.nodup_append.mp nd').2.1 fun a h1 h2 => nd_apart nd' a h1 (sb1 a h2)
      obtain ⟨F2, o2, sb2⟩ := o1.set (by rw [List.length_set]; exact hlj) rb nd2 fun a h => dz a (List.mem_append_right _ h)
      refine ⟨ad, [vx, vy], rfl, SqT.of ht, rfl, vx, [vy], rfl, vy, [], rfl, rfl, p _ H' Z' F2 (s.sub fun a h => ?_) o2 (fix_ix hr fun k hk => ?_)⟩
      · rcases List.mem_append.mp (sb2 a h) with h | h
        · have := sb1 a h
          simp only [List.mem_append] at this ⊢
          rcases this with h | h
          · exact .inl h
          · exact .inr (.inl h)
        · simp only [List.mem_append]
          exact .inr (.inr h)
      · rw [List.getElem?_set_ne (fun z => hk (by simp [z])), List.getElem?_set_ne (fun z => hk (by simp [z]))]
end
end Pv

set_option linter.all false
/-! Pq: the shapes computed. -/
namespace Pv
open PySem
section
variable {δ : List D} {i j k n : Nat} {d x y : D} {a b f g : EF} {m m' : EM} {r : LF} {q : LM} {c c' : BF}
@[simp] theorem xV_e : xV i δ = δ[i]? := rfl
@[simp] theorem xK_e : xK d δ = some d := rfl
@[simp] theorem x1_e {o : D → Option D} : x1 o a δ = (a δ).bind o := rfl
@[simp] theorem x2_e {o : D → D → Option D} : x2 o a b δ = (a δ).bind fun x => (b δ).bind fun y => o x y := rfl
@[simp] theorem xNil_e : xNil δ = some [] := rfl
@[simp] theorem xCons_e : xCons a r δ = (a δ).bind fun x => (r δ).bind fun xs => some (x :: xs) := rfl
@[simp] theorem xL_e {o : List D → Option D} : xL o r δ = (r δ).bind o := rfl
@[simp] theorem bE_e : bE f δ = (f δ).bind toB := rfl
@[simp] theorem bNot_e : bNot c δ = (c δ).bind fun b => some (!b) := rfl
@[simp] theorem bAnd_e : bAnd c c' δ = (c δ).bind fun b => if b then c' δ else some false := rfl
@[simp] theorem bOr_e : bOr c c' δ = (c δ).bind fun b => if b then some true else c' δ := rfl
@[simp] theorem xAnd_e : xAnd a b δ = (a δ).bind fun x => (toB x).bind fun k => if k then b δ else some (.bool false) := rfl
@[simp] theorem xOr_e : xOr a b δ = (a δ).bind fun x => (toB x).bind fun k => if k then some (.bool true) else b δ := rfl
@[simp] theorem xNot_e : xNot a δ = (a δ).bind fun x => (toB x).bind fun k => some (.bool (!k)) := rfl
@[simp] theorem toB_e {b : Bool} : toB (.bool b) = some b := rfl
@[simp] theorem xCall_e {h : List D → Option (D × List D)} : xCall h r δ = (r δ).bind fun ds => (h ds).map (·.1) := rfl
@[simp] theorem xRo_e {pm : List Nat} : xRo pm r δ = (r δ).map (ro pm) := rfl
@[simp] theorem ro_nil {α : Type} {xs : List α} : ro [] xs = [] := rfl
theorem ro_cons {α : Type} {xs : List α} {i : Nat} {pm : List Nat} {a : α} (h : xs[i]? = some a) : ro (i :: pm) xs = a :: ro pm xs := by
  unfold ro
  rw [List.filterMap_cons, h]
@[simp] theorem mOf_e : mOf f δ = (f δ).map (·, δ) := rfl
@[simp] theorem xMov_e : xMov i δ = (δ[i]?).map (·, δ) := rfl
@[simp] theorem xmNil_e : xmNil δ = some ([], δ) := rfl
@[simp] theorem xmCons_e : xmCons m q δ = (m δ).bind fun p => (q p.2).bind fun s => some (p.1 :: s.1, s.2) := rfl
@[simp] theorem xmIoL_e : xmIoL i q δ = (q δ).bind fun s => (s.2[i]?).map fun d => (d :: s.1, s.2) := rfl
@[simp] theorem xLM_e {o : List D → Option D} : xLM o q δ = (q δ).bind fun p => (o p.1).map (·, p.2) := rfl
@[simp] theorem x2M_e {o : D → D → Option D} : x2M o m m' δ = (m δ).bind fun p => (m' p.2).bind fun s => (o p.1 s.1).map (·, s.2) := rfl
@[simp] theorem xCallM_e {gb : List (Option Nat)} {h : List D → Option (D × List D)} : xCallM gb h q δ = (q δ).bind fun p => (h p.1).map fun s => (s.1, giveD gb s.2 p.2) := rfl
@[simp] theorem giveD_some {gb : List (Option Nat)} {ds : List D} : giveD (some i :: gb) (d :: ds) δ = giveD gb ds (δ.set i d) := rfl
@[simp] theorem giveD_none {gb : List (Option Nat)} {ds : List D} : giveD (none :: gb) (d :: ds) δ = giveD gb ds δ := rfl
@[simp] theorem giveD_nil {ds : List D} : giveD [] ds δ = δ := by cases ds <;> rfl
@[simp] theorem bME_e : bME m δ = (m δ).bind fun p => (toB p.1).map (·, p.2) := rfl
@[simp] theorem bMOf_e : bMOf c δ = (c δ).map (·, δ) := rfl
@[simp] theorem bYes_e : bYes δ = some true := rfl
@[simp] theorem sNil_e : sNil δ = some (.nx δ) := rfl
@[simp] theorem sNo_e : sNo δ = none := rfl
@[simp] theorem sSet_e : sSet i f δ = (f δ).bind fun d => some (.nx (δ.set i d)) := rfl
@[simp] theorem sSetM_e : sSetM i m δ = (m δ).bind fun p => some (.nx (p.2.set i p.1)) := rfl
@[simp] theorem sDrop_e : sDrop m δ = (m δ).bind fun p => some (.nx p.2) := rfl
@[simp] theorem sRet_e : sRet f δ = (f δ).bind fun d => some (.rt d δ) := rfl
@[simp] theorem sRetM_e : sRetM m δ = (m δ).bind fun p => some (.rt p.1 p.2) := rfl
@[simp] theorem sIf_e {s t : SF} : sIf c s t δ = (c δ).bind fun b => if b then s δ else t δ := rfl
@[simp] theorem sIfM_e {c : BM} {s t : SF} : sIfM c s t δ = (c δ).bind fun p => if p.1 then s p.2 else t p.2 := rfl
theorem sSeq_nx {s t : SF} {δ' : List D} (h : s δ = some (.nx δ')) : sSeq s t δ = t δ' := by unfold sSeq; rw [h]; rfl
theorem sSeq_rt {s t : SF} {δ' : List D} {d : D} (h : s δ = some (.rt d δ')) : sSeq s t δ = some (.rt d δ') := by unfold sSeq; rw [h]; rfl
@[simp] theorem sSeq_e {s t : SF} : sSeq s t δ = (s δ).bind fun o => match o with | .nx δ' => t δ' | o => some o := rfl
@[simp] theorem fnF_e {nl : Nat} {fo : Bool} {h : SF} : fnF nl fo h δ = (h (δ ++ List.replicate nl .none)).bind (outF δ.length fo) := rfl
@[simp] theorem outF_rt {fo : Bool} : outF n fo (.rt d δ) = some (d, δ.take n) := rfl
@[simp] theorem gSet_e : gSet i d δ = some (δ.set i d) := rfl
@[simp] theorem gTupD_e {is : List Nat} {ds : List D} : gTupD is (.tuple ds) δ = gSets is ds δ := rfl
@[simp] theorem gSets_nil : gSets [] [] δ = some δ := rfl
@[simp] theorem gSets_cons {is : List Nat} {ds : List D} : gSets (i :: is) (d :: ds) δ = gSets is ds (δ.set i d) := rfl
@[simp] theorem sFor_e {src : LF} {tg : D → List D → Option (List D)} {b : SF} : sFor src tg b δ = (src δ).bind fun ds => forL tg b ds δ := rfl
@[simp] theorem sUnp_e {tg : D → List D → Option (List D)} : sUnp f tg δ = (f δ).bind fun d => (tg d δ).bind fun δ1 => some (.nx δ1) := rfl
@[simp] theorem xCmp_e {src : LF} {tg : D → List D → Option (List D)} : xCmp src tg c f δ = (src δ).bind fun ds => if ds.length ≤ sizeLine then (cmpP tg c f δ ds).map .list else none := rfl
@[simp] theorem xCmpM_e {src : LM} {tg : D → List D → Option (List D)} {c : BM} : xCmpM src tg c m δ = (src δ).bind fun p => if p.1.length ≤ sizeLine then (cmpM tg c m p.1 p.2).map fun r => (.list r.1, r.2) else none := rfl
@[simp] theorem lmOf_e {src : LF} : lmOf src δ = (src δ).map (·, δ) := rfl
@[simp] theorem lOf_e {o : List D → Option (List D)} : lOf o r δ = (r δ).bind o := rfl
@[simp] theorem lOfM_e {o : List D → Option (List D)} : lOfM o q δ = (q δ).bind fun p => (o p.1).map (·, p.2) := rfl
@[simp] theorem lSeq_e : lSeq f δ = (f δ).bind asSeq := rfl
@[simp] theorem lIt_e : lIt f δ = (f δ).bind asIt := rfl
@[simp] theorem asSeq_t {ds : List D} : asSeq (.tuple ds) = some ds := rfl
@[simp] theorem asSeq_l {ds : List D} : asSeq (.list ds) = some ds := rfl
@[simp] theorem xIf_e : xIf c a b δ = (c δ).bind fun k => if k then a δ else b δ := rfl
end
section
variable {i j : Int} {x y : D} {ds : List D}
@[simp] theorem dAdd_e : dAdd (.int i) (.int j) = some (.int (i + j)) := rfl
@[simp] theorem dSub_e : dSub (.int i) (.int j) = some (.int (i - j)) := rfl
@[simp] theorem dNeg_e : dNeg (.int i) = some (.int (-i)) := rfl
@[simp] theorem dLt_e : dLt (.int i) (.int j) = some (.bool (decide (i < j))) := rfl
@[simp] theorem dLe_e : dLe (.int i) (.int j) = some (.bool (decide (i ≤ j))) := rfl
@[simp] theorem dGt_e : dGt (.int i) (.int j) = some (.bool (decide (j < i))) := rfl
@[simp] theorem dGe_e : dGe (.int i) (.int j) = some (.bool (decide (j ≤ i))) := rfl
theorem dMul_e (h : mulOk i j = true) : dMul (.int i) (.int j) = some (.int (i * j)) := by show (if mulOk i j then some (PyData.int (i * j)) else none) = _; rw [if_pos h]
theorem dMd_e (h : 0 < j) : dMd (.int i) (.int j) = some (.int (i % j)) := by show (if 0 < j then some (PyData.int (i % j)) else none) = _; rw [if_pos h]
theorem dFd_e (h : 0 < j) (h2 : j.natAbs.log2 < 9000) : dFd (.int i) (.int j) = some (.int (i / j)) := by show (if 0 < j ∧ j.natAbs.log2 < 9000 then some (PyData.int (i / j)) else none) = _; rw [if_pos ⟨h, h2⟩]
@[simp] theorem eqv_int : PyData.eqv (.int i) (.int j) = (i == j) := by rw [PyData.eqv]
@[simp] theorem dEq_e : dEq (.int i) (.int j) = some (.bool (i == j)) := by
  show (if SeqAt.shaped (PyData.int i) && SeqAt.shaped (PyData.int j) then some (PyData.bool (PyData.eqv (.int i) (.int j))) else none) = _
  rw [eqv_int]; rfl
@[simp] theorem dNe_e : dNe (.int i) (.int j) = some (.bool (!(i == j))) := by
  show (if SeqAt.shaped (PyData.int i) && SeqAt.shaped (PyData.int j) then some (PyData.bool (!PyData.eqv (.int i) (.int j))) else none) = _
  rw [eqv_int]; rfl
@[simp] theorem dIx_t : dIx (.tuple ds) (.int j) = L2.atI ds j := rfl
@[simp] theorem dIx_l : dIx (.list ds) (.int j) = L2.atI ds j := rfl
@[simp] theorem oLen_l : oLen [.list ds] = some (.int ds.length) := rfl
@[simp] theorem oLen_t : oLen [.tuple ds] = some (.int ds.length) := rfl
@[simp] theorem oInt_i : oInt [.int i] = some (.int i) := rfl
@[simp] theorem oInt_b {b : Bool} : oInt [.bool b] = some (.int (if b then 1 else 0)) := rfl
@[simp] theorem oAbs_i : oAbs [.int i] = some (.int (if i < 0 then -i else i)) := rfl
@[simp] theorem oTup_l : oTup [.list ds] = some (.tuple ds) := rfl
@[simp] theorem oTup_t : oTup [.tuple ds] = some (.tuple ds) := rfl
@[simp] theorem oLst_l : oLst [.list ds] = some (.list ds) := rfl
@[simp] theorem oLst_t : oLst [.tuple ds] = some (.list ds) := rfl
@[simp] theorem oRev_l : oRev (.list ds) = some (.list ds.reverse) := rfl
@[simp] theorem isi_i {T : String} : dIsi T (.int i) = some (.bool (isiT "int" T)) := rfl
@[simp] theorem isi_t {T : String} : dIsi T (.tuple ds) = some (.bool (isiT "tuple" T)) := rfl
@[simp] theorem isi_l {T : String} : dIsi T (.list ds) = some (.bool (isiT "list" T)) := rfl
@[simp] theorem isi_b {T : String} {b : Bool} : dIsi T (.bool b) = some (.bool (isiT "bool" T)) := rfl
theorem atI_nat {α : Type} {l : List α} {n : Nat} (h : n < l.length) : L2.atI l (n : Int) = l[n]? := by
  unfold L2.atI
  have : L2.ixN l.length (n : Int) = some n := by
    unfold L2.ixN
    simp [h]
  rw [this]
  rfl
theorem mkTup_e (h : ds.length ≤ sizeLine) : mkTup ds = some (.tuple ds) := if_pos h
theorem mkLst_e (h : ds.length ≤ sizeLine) : mkLst ds = some (.list ds) := if_pos h
end
end Pv

set_option Elab.async false
set_option linter.all false
set_option maxRecDepth 100000
/-! unsewn_k02_whole_gates_and_pieces: the defs as functions of data (printed by pvgen.py) -/
namespace LawK02
open PySem PySem.Spec PyProof.Rows L2 Pv
def g_word_bonds : SF :=
  (sSeq (sSet 1 xDict0) (sSeq (sFor (lSeq (xV 0)) (gTupD [2, 3]) (sSeq (sDrop (xSdK 1 (xV 2) (xV 3))) (sDrop (xSdK 1 (xV 3) (xV 2))))) (sRet (xV 1))))
def f_word_bonds : List D → Option (D × List D) := fnF 3 false g_word_bonds
def S_word_bonds : FS := ⟨[.sh], [.no], .sh, f_word_bonds⟩
def g_piece_by : SF :=
  (sSeq (sSet 2 (xDict1 (xV 1) (xK (.bool true)))) (sSeq (sSet 3 (xL mkLst (xCons (xV 1) xNil))) (sSeq (sWhile (bTr (xV 3)) (sSeq (sSetM 4 (xPop 3)) (sFor (lSeq (xDGet2 (xV 0) (xV 4) (xK (.list [])))) (gSet 5) (sIf (bE (x2 dDNotIn (xV 5) (xV 2))) (sSeq (sPutK 2 (mOf (xK (.bool true))) (xV 5)) (sDrop (xApp 3 (mOf (xV 5))))) sNil)))) (sRet (xL oTup (xCons (x1 oSorted (xL oLstD (xCons (xV 2) xNil))) xNil))))))
def f_piece_by : List D → Option (D × List D) := fnF 4 false g_piece_by
def S_piece_by : FS := ⟨[.sh, .sh], [.no, .no], .sh, f_piece_by⟩
def g_is_integer : SF :=
  (sRet (xAnd (x1 (dIsi "int") (xV 0)) (xNot (x1 (dIsi "bool") (xV 0)))))
def f_is_integer : List D → Option (D × List D) := fnF 0 false g_is_integer
def S_is_integer : FS := ⟨[.sh], [.no], .sh, f_is_integer⟩
def g__law_mix : SF :=
  (sSeq (sSet 2 (x2 dMd (xL oInt (xCons (x2 dAdd (x2 dAdd (x2 dMul (xV 0) (xK (.int 39119))) (x2 dMul (xV 1) (xK (.int 15013)))) (xK (.int 2749))) xNil)) (xK (.int 1000037)))) (sSeq (sSet 3 (x2 dMd (xL oInt (xCons (x2 dAdd (x2 dAdd (x2 dMul (xV 2) (xV 2)) (x2 dMul (xK (.int 50021)) (xV 2))) (xV 1)) xNil)) (xK (.int 999999893)))) (sRet (x2 dMd (xL oInt (xCons (x2 dAdd (x2 dFd (xV 3) (xK (.int 8))) (xV 2)) xNil)) (xK (.int 5040))))))
def f__law_mix : List D → Option (D × List D) := fnF 2 false g__law_mix
def S__law_mix : FS := ⟨[.sh, .sh], [.no, .no], .sh, f__law_mix⟩
def g__law_pick : SF :=
  (sSeq (sIf (bE (x2 dEq (xL oLen (xCons (xV 0) xNil)) (xK (.int 0)))) (sRet (xK (.int 0))) sNil) (sRetM (x2M dMd (xLM oInt (xmCons (xPop 0) xmNil)) (mOf (xV 1)))))
def f__law_pick : List D → Option (D × List D) := fnF 0 false g__law_pick
def S__law_pick : FS := ⟨[(.ol .sh), .sh], [(.ol .sh), .no], .sh, f__law_pick⟩
def g__law_across : SF :=
  (sRet (xL oLen (xCons (xCmp (lSeq (x2 dIx (xV 0) (xK (.int 1)))) (gSet 3) (bAnd (bE (x2 dIn (x2 dIx (xV 3) (xK (.int 0))) (xV 1))) (bE (x2 dIn (x2 dIx (xV 3) (xK (.int 1))) (xV 2)))) (xV 3)) xNil)))
def f__law_across : List D → Option (D × List D) := fnF 1 false g__law_across
def S__law_across : FS := ⟨[.sh, .sh, .sh], [.no, .no, .no], .sh, f__law_across⟩
def g__law_parted : SF :=
  (sSeq (sSet 2 (xCmp (lSeq (x2 dIx (xV 0) (xK (.int 1)))) (gSet 3) (bAnd (bE (x2 dIn (x2 dIx (xV 3) (xK (.int 0))) (xV 1))) (bE (x2 dIn (x2 dIx (xV 3) (xK (.int 1))) (xV 1)))) (xV 3))) (sSeq (sSet 4 (xK (.int 1))) (sSeq (sFor (lOf rng1 (xCons (x2 dSub (xL oLen (xCons (xV 1) xNil)) (xK (.int 1))) xNil)) (gSet 5) (sSet 4 (x2 dMul (xV 4) (xK (.int 2))))) (sSeq (sFor (lOf rng2 (xCons (xK (.int 1)) (xCons (xV 4) xNil))) (gSet 6) (sSeq (sSet 7 (xL mkLst (xCons (x2 dIx (xV 1) (xK (.int 0))) xNil))) (sSeq (sSet 8 (xV 6)) (sSeq (sFor (lOf rng2 (xCons (xK (.int 1)) (xCons (xL oLen (xCons (xV 1) xNil)) xNil))) (gSet 5) (sSeq (sIf (bE (x2 dEq (x2 dMd (xL oInt (xCons (xV 8) xNil)) (xK (.int 2))) (xK (.int 0)))) (sDrop (xApp 7 (mOf (x2 dIx (xV 1) (xV 5))))) sNil) (sSet 8 (x2 dFd (xV 8) (xK (.int 2)))))) (sSeq (sSet 9 (xCmp (lSeq (xV 2)) (gSet 3) (bE (x2 dNe (x2 dIn (x2 dIx (xV 3) (xK (.int 0))) (xV 7)) (x2 dIn (x2 dIx (xV 3) (xK (.int 1))) (xV 7)))) (xV 3))) (sIf (bE (x2 dEq (xL oLen (xCons (xV 9) xNil)) (xK (.int 0)))) (sRet (xK (.bool true))) sNil)))))) (sRet (xK (.bool false)))))))
def f__law_parted : List D → Option (D × List D) := fnF 8 false g__law_parted
def S__law_parted : FS := ⟨[.sh, .sh], [.no, .no], .sh, f__law_parted⟩
def g__law_grown : SF :=
  (sSeq (sSet 3 (xL mkLst (xCons (xV 1) xNil))) (sSeq (sFor (lOf rng1 (xCons (xL oLen (xCons (xV 2) xNil)) xNil)) (gSet 4) (sFor (lSeq (x2 dIx (xV 0) (xK (.int 1)))) (gSet 5) (sSeq (sIf (bAnd (bE (x2 dIn (x2 dIx (xV 5) (xK (.int 0))) (xV 3))) (bAnd (bE (x2 dNotIn (x2 dIx (xV 5) (xK (.int 1))) (xV 3))) (bE (x2 dIn (x2 dIx (xV 5) (xK (.int 1))) (xV 2))))) (sDrop (xApp 3 (mOf (x2 dIx (xV 5) (xK (.int 1)))))) sNil) (sIf (bAnd (bE (x2 dIn (x2 dIx (xV 5) (xK (.int 1))) (xV 3))) (bAnd (bE (x2 dNotIn (x2 dIx (xV 5) (xK (.int 0))) (xV 3))) (bE (x2 dIn (x2 dIx (xV 5) (xK (.int 0))) (xV 2))))) (sDrop (xApp 3 (mOf (x2 dIx (xV 5) (xK (.int 0)))))) sNil)))) (sRet (xL oTup (xCons (x1 oSorted (xV 3)) xNil)))))
def f__law_grown : List D → Option (D × List D) := fnF 3 false g__law_grown
def S__law_grown : FS := ⟨[.sh, .sh, .sh], [.no, .no, .no], .sh, f__law_grown⟩
def g_is_number : SF :=
  (sRet (xAnd (xCall f_is_integer (xCons (xV 0) xNil)) (x2 dGe (xV 0) (xK (.int 0)))))
def f_is_number : List D → Option (D × List D) := fnF 0 false g_is_number
def S_is_number : FS := ⟨[.sh], [.no], .sh, f_is_number⟩
def g_pieces_of : SF :=
  (sSeq (sSet 1 (xCall f_word_bonds (xCons (x2 dIx (xV 0) (xK (.int 1))) xNil))) (sSeq (sSet 2 xDict0) (sSeq (sSet 3 (xK (.list []))) (sSeq (sFor (lOf rng1 (xCons (x2 dIx (xV 0) (xK (.int 0))) xNil)) (gSet 4) (sIf (bE (x2 dDNotIn (xV 4) (xV 2))) (sSeq (sSet 5 (xCall f_piece_by (xCons (xV 1) (xCons (xV 4) xNil)))) (sSeq (sDrop (xApp 3 (mOf (xV 5)))) (sFor (lSeq (xV 5)) (gSet 6) (sPutK 2 (mOf (xK (.bool true))) (xV 6))))) sNil)) (sRet (xL oTup (xCons (xV 3) xNil)))))))
def f_pieces_of : List D → Option (D × List D) := fnF 6 false g_pieces_of
def S_pieces_of : FS := ⟨[.sh], [.no], .sh, f_pieces_of⟩
def g__law_cells : SF :=
  (sSeq (sSet 2 (xK (.list []))) (sSeq (sSet 3 (x2 dAdd (xK (.int 97)) (x2 dMul (xK (.int 31)) (xL oLen (xCons (xV 0) xNil))))) (sSeq (sFor (lSeq (xV 0)) (gSet 4) (sSeq (sSet 5 (xL oAbs (xCons (xL oInt (xCons (xV 4) xNil)) xNil))) (sSeq (sSet 3 (x2 dMd (xL oInt (xCons (x2 dAdd (x2 dMul (xV 3) (xK (.int 1031))) (xV 4)) xNil)) (xK (.int 1000037)))) (sIf (bE (x2 dGe (xV 5) (x2 dPow (xK (.int 10)) (xK (.int 18))))) (sFor (lOf rng1 (xCons (xK (.int 60)) xNil)) (gSet 6) (sIf (bE (x2 dGt (xV 5) (xK (.int 0)))) (sSeq (sDrop (xApp 2 (mOf (x2 dMd (xL oInt (xCons (xV 5) xNil)) (xK (.int 5040)))))) (sSet 5 (x2 dFd (xV 5) (xK (.int 5040))))) sNil)) (sDrop (xApp 2 (mOf (xCall f__law_mix (xCons (xL oInt (xCons (xV 4) xNil)) (xCons (xL oLen (xCons (xV 2) xNil)) xNil)))))))))) (sSeq (sFor (lOf rng1 (xCons (xV 1) xNil)) (gSet 6) (sDrop (xApp 2 (mOf (xCall f__law_mix (xCons (xV 3) (xCons (x2 dAdd (xK (.int 97)) (xV 6)) xNil))))))) (sRet (x1 oRev (xV 2)))))))
def f__law_cells : List D → Option (D × List D) := fnF 5 false g__law_cells
def S__law_cells : FS := ⟨[.sh, .sh], [.no, .no], (.ol .sh), f__law_cells⟩
def g__law_dealt : SF :=
  (sSeq (sSet 2 (xL oLst (xCons (xV 1) xNil))) (sSeq (sSet 3 (xK (.list []))) (sSeq (sFor (lOf rng1 (xCons (xL oLen (xCons (xV 1) xNil)) xNil)) (gSet 4) (sDrop (xApp 3 (xPopAt 2 (xCallM [some 0, none] f__law_pick (xmCons (xMov 0) (xmCons (mOf (xL oLen (xCons (xV 2) xNil))) xmNil))))))) (sRetM (xMov 3)))))
def f__law_dealt : List D → Option (D × List D) := fnF 3 false g__law_dealt
def S__law_dealt : FS := ⟨[(.ol .sh), .sh], [(.ol .sh), .no], (.ol .sh), f__law_dealt⟩
def g__law_lot : SF :=
  (sSeq (sSet 2 (x2 dIx (xV 1) (xK (.int 0)))) (sSeq (sIfM (bME (x2M dEq (xCallM [some 0, none] f__law_pick (xmCons (xMov 0) (xmCons (mOf (xK (.int 2))) xmNil))) (mOf (xK (.int 0))))) (sRetM (xLM oTup (xmCons (xCmpM (lmOf (lOf rng1 (xCons (xV 2) xNil))) (gSet 3) (bME (x2M dEq (xCallM [some 0, none] f__law_pick (xmCons (xMov 0) (xmCons (mOf (xK (.int 2))) xmNil))) (mOf (xK (.int 1))))) (mOf (xV 3))) xmNil))) sNil) (sSeq (sSetM 4 (xCallM [none, none, none] f__law_grown (xmCons (mOf (xV 1)) (xmCons (xCallM [some 0, none] f__law_pick (xmCons (xMov 0) (xmCons (mOf (xV 2)) xmNil))) (xmCons (mOf (x1 oLstRng (xV 2))) xmNil))))) (sSeq (sIfM (bME (x2M dEq (xCallM [some 0, none] f__law_pick (xmCons (xMov 0) (xmCons (mOf (xK (.int 2))) xmNil))) (mOf (xK (.int 0))))) (sRet (xV 4)) sNil) (sRetM (xLM oTup (xmCons (xCmpM (lmOf (lSeq (xV 4))) (gSet 3) (bME (x2M dGt (xCallM [some 0, none] f__law_pick (xmCons (xMov 0) (xmCons (mOf (xK (.int 4))) xmNil))) (mOf (xK (.int 0))))) (mOf (xV 3))) xmNil)))))))
def f__law_lot : List D → Option (D × List D) := fnF 3 false g__law_lot
def S__law_lot : FS := ⟨[(.ol .sh), .sh], [(.ol .sh), .no], .sh, f__law_lot⟩
def g_is_word : SF :=
  (sRet (xAnd (xCall f_is_number (xCons (xV 1) xNil)) (x2 dLt (xV 1) (x2 dIx (xV 0) (xK (.int 0))))))
def f_is_word : List D → Option (D × List D) := fnF 0 false g_is_word
def S_is_word : FS := ⟨[.sh, .sh], [.no, .no], .sh, f_is_word⟩
def g__law_ring : SF :=
  (sSeq (sSetM 3 (xCmpM (lmOf (lOf rng1 (xCons (xV 2) xNil))) (gSet 4) (bMOf bYes) (xCallM [some 0, none] f__law_pick (xmCons (xMov 0) (xmCons (mOf (xV 1)) xmNil))))) (sSeq (sFor (lOf rng1 (xCons (xV 1) xNil)) (gSet 5) (sIf (bE (x2 dNotIn (xV 5) (xV 3))) (sDrop (xIns 3 (xCallM [some 0, none] f__law_pick (xmCons (xMov 0) (xmCons (mOf (x2 dAdd (xL oLen (xCons (xV 3) xNil)) (xK (.int 1)))) xmNil))) (xV 5))) sNil)) (sSeq (sSet 6 (xCmp (lOf rng1 (xCons (xL oLen (xCons (xV 3) xNil)) xNil)) (gSet 4) bYes (xL mkTup (xCons (x2 dIx (xV 3) (xV 4)) (xCons (x2 dIx (xV 3) (x2 dMd (xL oInt (xCons (x2 dAdd (xV 4) (xK (.int 1))) xNil)) (xL oLen (xCons (xV 3) xNil)))) xNil))))) (sRetM (xCallM [some 0, none] f__law_dealt (xmCons (xMov 0) (xmCons (mOf (xV 6)) xmNil)))))))
def f__law_ring : List D → Option (D × List D) := fnF 4 false g__law_ring
def S__law_ring : FS := ⟨[(.ol .sh), .sh, .sh], [(.ol .sh), .no, .no], (.ol .sh), f__law_ring⟩
def g_is_lot : SF :=
  (sSeq (sIf (bNot (bE (x1 (dIsi "tuple") (xV 1)))) (sRet (xK (.bool false))) sNil) (sSeq (sSet 2 (x1 dNeg (xK (.int 1)))) (sSeq (sFor (lSeq (xV 1)) (gSet 3) (sSeq (sIf (bOr (bNot (bE (xCall f_is_word (xCons (xV 0) (xCons (xV 3) xNil))))) (bE (x2 dLe (xV 3) (xV 2)))) (sRet (xK (.bool false))) sNil) (sSet 2 (xV 3)))) (sRet (xK (.bool true))))))
def f_is_lot : List D → Option (D × List D) := fnF 2 false g_is_lot
def S_is_lot : FS := ⟨[.sh, .sh], [.no, .no], .sh, f_is_lot⟩
def g_from_word : SF :=
  (sSeq (sIf (bNot (bE (xCall f_is_word (xCons (xV 0) (xCons (xV 1) xNil))))) sNo sNil) (sRet (xL oTup (xCons (xCmp (lEnum (xCons (x2 dIx (xV 0) (xK (.int 1))) xNil)) (gTupD [2, 3]) (bE (x2 dEq (x2 dIx (xV 3) (xK (.int 0))) (xV 1))) (xV 2)) xNil))))
def f_from_word : List D → Option (D × List D) := fnF 2 false g_from_word
def S_from_word : FS := ⟨[.sh, .sh], [.no, .no], .sh, f_from_word⟩
def g_to_word : SF :=
  (sSeq (sIf (bNot (bE (xCall f_is_word (xCons (xV 0) (xCons (xV 1) xNil))))) sNo sNil) (sRet (xL oTup (xCons (xCmp (lEnum (xCons (x2 dIx (xV 0) (xK (.int 1))) xNil)) (gTupD [2, 3]) (bE (x2 dEq (x2 dIx (xV 3) (xK (.int 1))) (xV 1))) (xV 2)) xNil))))
def f_to_word : List D → Option (D × List D) := fnF 2 false g_to_word
def S_to_word : FS := ⟨[.sh, .sh], [.no, .no], .sh, f_to_word⟩
def g__law_side_by_side : SF :=
  (sSeq (sSet 2 (xK (.int 0))) (sSeq (sSet 3 (xK (.list []))) (sSeq (sFor (lOf rng1 (xCons (xV 1) xNil)) (gSet 4) (sSeq (sSetM 5 (x2M dAdd (mOf (xK (.int 1))) (xCallM [some 0, none] f__law_pick (xmCons (xMov 0) (xmCons (mOf (xK (.int 3))) xmNil))))) (sSeq (sForM (lSeqM (xCallM [some 0, none, none] f__law_ring (xmIoL 0 (xmCons (mOf (xV 5)) (xmCons (xCallM [some 0, none] f__law_pick (xmCons (xMov 0) (xmCons (mOf (xK (.int 3))) xmNil))) xmNil))))) (gSet 6) (sDrop (xApp 3 (mOf (xL mkTup (xCons (x2 dAdd (x2 dIx (xV 6) (xK (.int 0))) (xV 2)) (xCons (x2 dAdd (x2 dIx (xV 6) (xK (.int 1))) (xV 2)) xNil))))))) (sSet 2 (x2 dAdd (xV 2) (xV 5)))))) (sSeq (sSetM 7 (xCallM [some 0, none] f__law_dealt (xmCons (xMov 0) (xmCons (mOf (x1 oLstRng (xV 2))) xmNil)))) (sRetM (xLM mkPr (xmCons (mOf (xV 2)) (xmCons (xCallM [some 0, none] f__law_dealt (xmCons (xMov 0) (xmCons (mOf (xCmp (lSeq (xV 3)) (gSet 6) bYes (xL mkTup (xCons (x2 dIx (xV 7) (x2 dIx (xV 6) (xK (.int 0)))) (xCons (x2 dIx (xV 7) (x2 dIx (xV 6) (xK (.int 1)))) xNil))))) xmNil))) xmNil))))))))
def f__law_side_by_side : List D → Option (D × List D) := fnF 6 false g__law_side_by_side
def S__law_side_by_side : FS := ⟨[(.ol .sh), .sh], [(.ol .sh), .no], (.pr .sh (.ol .sh)), f__law_side_by_side⟩
def g_within : SF :=
  (sSeq (sIf (bNot (bE (xCall f_is_lot (xCons (xV 0) (xCons (xV 1) xNil))))) sNo sNil) (sRet (xL oTup (xCons (xCmp (lEnum (xCons (x2 dIx (xV 0) (xK (.int 1))) xNil)) (gTupD [2, 3]) (bAnd (bE (x2 dIn (x2 dIx (xV 3) (xK (.int 0))) (xV 1))) (bE (x2 dIn (x2 dIx (xV 3) (xK (.int 1))) (xV 1)))) (xV 2)) xNil))))
def f_within : List D → Option (D × List D) := fnF 2 false g_within
def S_within : FS := ⟨[.sh, .sh], [.no, .no], .sh, f_within⟩
def g_leaving : SF :=
  (sSeq (sIf (bNot (bE (xCall f_is_lot (xCons (xV 0) (xCons (xV 1) xNil))))) sNo sNil) (sRet (xL oTup (xCons (xCmp (lEnum (xCons (x2 dIx (xV 0) (xK (.int 1))) xNil)) (gTupD [2, 3]) (bAnd (bE (x2 dIn (x2 dIx (xV 3) (xK (.int 0))) (xV 1))) (bE (x2 dNotIn (x2 dIx (xV 3) (xK (.int 1))) (xV 1)))) (xV 2)) xNil))))
def f_leaving : List D → Option (D × List D) := fnF 2 false g_leaving
def S_leaving : FS := ⟨[.sh, .sh], [.no, .no], .sh, f_leaving⟩
def g_entering : SF :=
  (sSeq (sIf (bNot (bE (xCall f_is_lot (xCons (xV 0) (xCons (xV 1) xNil))))) sNo sNil) (sRet (xL oTup (xCons (xCmp (lEnum (xCons (x2 dIx (xV 0) (xK (.int 1))) xNil)) (gTupD [2, 3]) (bAnd (bE (x2 dIn (x2 dIx (xV 3) (xK (.int 1))) (xV 1))) (bE (x2 dNotIn (x2 dIx (xV 3) (xK (.int 0))) (xV 1)))) (xV 2)) xNil))))
def f_entering : List D → Option (D × List D) := fnF 2 false g_entering
def S_entering : FS := ⟨[.sh, .sh], [.no, .no], .sh, f_entering⟩
def g_fan_of : SF :=
  (sRet (xL oLen (xCons (xCall f_from_word (xCons (xV 0) (xCons (xV 1) xNil))) xNil)))
def f_fan_of : List D → Option (D × List D) := fnF 0 false g_fan_of
def S_fan_of : FS := ⟨[.sh, .sh], [.no, .no], .sh, f_fan_of⟩
def g_ends_of : SF :=
  (sRet (xL oLen (xCons (xCall f_to_word (xCons (xV 0) (xCons (xV 1) xNil))) xNil)))
def f_ends_of : List D → Option (D × List D) := fnF 0 false g_ends_of
def S_ends_of : FS := ⟨[.sh, .sh], [.no, .no], .sh, f_ends_of⟩
def g__law_heap : SF :=
  (sSeq (sSetM 2 (x2M dAdd (mOf (xK (.int 1))) (xCallM [some 0, none] f__law_pick (xmCons (xMov 0) (xmCons (mOf (xK (.int 6))) xmNil))))) (sSeq (sIfM (bME (x2M dEq (xCallM [some 0, none] f__law_pick (xmCons (xMov 0) (xmCons (mOf (xK (.int 8))) xmNil))) (mOf (xK (.int 6))))) (sSetM 2 (x2M dAdd (mOf (xK (.int 7))) (xCallM [some 0, none] f__law_pick (xmCons (xMov 0) (xmCons (mOf (xK (.int 4))) xmNil))))) sNil) (sSeq (sIf (bE (x2 dEq (xV 1) (xK (.int 0)))) (sSetM 3 (xCmpM (lOfM rng1 (xmCons (xCallM [some 0, none] f__law_pick (xmCons (xMov 0) (xmCons (mOf (x2 dAdd (xV 2) (xK (.int 3)))) xmNil))) xmNil)) (gSet 4) (bMOf bYes) (xLM mkTup (xmCons (xCallM [some 0, none] f__law_pick (xmCons (xMov 0) (xmCons (mOf (xV 2)) xmNil))) (xmCons (xCallM [some 0, none] f__law_pick (xmCons (xMov 0) (xmCons (mOf (xV 2)) xmNil))) xmNil))))) (sIf (bE (x2 dEq (xV 1) (xK (.int 1)))) (sSetM 3 (xCallM [some 0, none, none] f__law_ring (xmIoL 0 (xmCons (mOf (xV 2)) (xmCons (xCallM [some 0, none] f__law_pick (xmCons (xMov 0) (xmCons (mOf (xK (.int 7))) xmNil))) xmNil))))) (sUnpPr 2 3 (xCallM [some 0, none] f__law_side_by_side (xmIoL 0 (xmCons (x2M dAdd (mOf (xK (.int 2))) (xCallM [some 0, none] f__law_pick (xmCons (xMov 0) (xmCons (mOf (xK (.int 2))) xmNil)))) xmNil)))))) (sSeq (sIfM (bAndM (bMOf (bE (x2 dGt (xL oLen (xCons (xV 3) xNil)) (xK (.int 0))))) (bME (x2M dEq (xCallM [some 0, none] f__law_pick (xmCons (xMov 0) (xmCons (mOf (xK (.int 2))) xmNil))) (mOf (xK (.int 1)))))) (sDrop (xPopAt 3 (xCallM [some 0, none] f__law_pick (xmCons (xMov 0) (xmCons (mOf (xL oLen (xCons (xV 3) xNil))) xmNil))))) sNil) (sRet (xL mkTup (xCons (xV 2) (xCons (xL oTup (xCons (xV 3) xNil)) xNil))))))))
def f__law_heap : List D → Option (D × List D) := fnF 3 false g__law_heap
def S__law_heap : FS := ⟨[(.ol .sh), .sh], [(.ol .sh), .no], .sh, f__law_heap⟩
def g_gates_of : SF :=
  (sRet (xL oLen (xCons (xCall f_leaving (xCons (xV 0) (xCons (xV 1) xNil))) xNil)))
def f_gates_of : List D → Option (D × List D) := fnF 0 false g_gates_of
def S_gates_of : FS := ⟨[.sh, .sh], [.no, .no], .sh, f_gates_of⟩
def g_hangs_together : SF :=
  (sSeq (sSet 2 (xCmp (lSeq (xCall f_within (xCons (xV 0) (xCons (xV 1) xNil)))) (gSet 3) bYes (x2 dIx (x2 dIx (xV 0) (xK (.int 1))) (xV 3)))) (sSeq (sIf (bE (x2 dEq (xL oLen (xCons (xV 1) xNil)) (xK (.int 0)))) (sRet (xK (.bool false))) sNil) (sRet (x2 dEq (xCall f_piece_by (xCons (xCall f_word_bonds (xCons (xV 2) xNil)) (xCons (x2 dIx (xV 1) (xK (.int 0))) xNil))) (xV 1)))))
def f_hangs_together : List D → Option (D × List D) := fnF 2 false g_hangs_together
def S_hangs_together : FS := ⟨[.sh, .sh], [.no, .no], .sh, f_hangs_together⟩
def g_surplus_of : SF :=
  (sRet (x2 dSub (xCall f_ends_of (xCons (xV 0) (xCons (xV 1) xNil))) (xCall f_fan_of (xCons (xV 0) (xCons (xV 1) xNil)))))
def f_surplus_of : List D → Option (D × List D) := fnF 0 false g_surplus_of
def S_surplus_of : FS := ⟨[.sh, .sh], [.no, .no], .sh, f_surplus_of⟩
def g__law_same (rc : List D → Option (D × List D)) : SF :=
  (sSeq (sIf (bE (x1 (dIsi "tuple") (xV 1))) (sSeq (sIf (bOr (bNot (bE (x1 (dIsi "tuple") (xV 0)))) (bE (x2 dNe (xL oLen (xCons (xV 0) xNil)) (xL oLen (xCons (xV 1) xNil))))) (sRet (xK (.bool false))) sNil) (sRet (xL oAll (xCons (xCmp (lOf rng1 (xCons (xL oLen (xCons (xV 1) xNil)) xNil)) (gSet 2) bYes (xCall rc (xCons (x2 dIx (xV 0) (xV 2)) (xCons (x2 dIx (xV 1) (xV 2)) xNil)))) xNil)))) sNil) (sRet (xAnd (x1 (dIsi "int") (xV 0)) (xAnd (xNot (x1 (dIsi "bool") (xV 0))) (x2 dEq (xV 0) (xV 1))))))
def f__law_same : Nat → List D → Option (D × List D)
  | 0 => f0
  | k + 1 => fnF 1 false (g__law_same (f__law_same k))
def S__law_same (k : Nat) : FS := ⟨[.sh, .sh], [.no, .no], .sh, f__law_same k⟩
def g__law_hangs : SF :=
  (sSeq (sSet 2 (xCall f_hangs_together (xCons (xV 0) (xCons (xV 1) xNil)))) (sSeq (sIf (bNot (bE (x1 (dIsi "bool") (xV 2)))) (sRet (xK (.bool false))) sNil) (sSeq (sIf (bE (x2 dEq (xL oLen (xCons (xV 1) xNil)) (xK (.int 0)))) (sRet (xNot (xV 2))) sNil) (sSeq (sIf (bE (x2 dLe (xL oLen (xCons (xV 1) xNil)) (xK (.int 6)))) (sRet (x2 dEq (xV 2) (xNot (xCall f__law_parted (xCons (xV 0) (xCons (xV 1) xNil)))))) sNil) (sRet (x2 dEq (xV 2) (x2 dEq (xCall f__law_grown (xCons (xV 0) (xCons (x2 dIx (xV 1) (xK (.int 0))) (xCons (xV 1) xNil)))) (xV 1))))))))
def f__law_hangs : List D → Option (D × List D) := fnF 1 false g__law_hangs
def S__law_hangs : FS := ⟨[.sh, .sh], [.no, .no], .sh, f__law_hangs⟩
def g__law_pieces : SF :=
  (sSeq (sUnp (xV 0) (gTupD [1, 2])) (sSeq (sSet 3 (xK (.list []))) (sSeq (sFor (lOf rng1 (xCons (xV 1) xNil)) (gSet 4) (sIf (bE (x2 dEq (xL oLen (xCons (xCmp (lSeq (xV 3)) (gSet 5) (bE (x2 dIn (xV 4) (xV 5))) (xV 5)) xNil)) (xK (.int 0)))) (sDrop (xApp 3 (mOf (xCall f__law_grown (xCons (xV 0) (xCons (xV 4) (xCons (x1 oLstRng (xV 1)) xNil))))))) sNil)) (sSeq (sSet 6 (xCall f_pieces_of (xRo [0] (xCons (xV 0) xNil)))) (sSeq (sIf (bNot (bE (xCall (f__law_same 6) (xCons (xV 6) (xCons (xL oTup (xCons (xV 3) xNil)) xNil))))) (sRet (xK (.bool false))) sNil) (sSeq (sSet 7 (xK (.list []))) (sSeq (sFor (lSeq (xV 6)) (gSet 5) (sSeq (sDrop (xExt 7 (mOf (xL oLst (xCons (xCall f_within (xCons (xV 0) (xCons (xV 5) xNil))) xNil))))) (sIf (bOr (bE (x2 dNotB (xCall f_hangs_together (xCons (xV 0) (xCons (xV 5) xNil))) (xK (.bool true)))) (bE (x2 dNe (xCall f_gates_of (xCons (xV 0) (xCons (xV 5) xNil))) (xK (.int 0))))) (sRet (xK (.bool false))) sNil))) (sRet (x2 dEq (x1 oSorted (xV 7)) (x1 oLstRng (xL oLen (xCons (xV 2) xNil))))))))))))
def f__law_pieces : List D → Option (D × List D) := fnF 7 false g__law_pieces
def S__law_pieces : FS := ⟨[.sh], [.no], .sh, f__law_pieces⟩
def g__law_gates : SF :=
  (sSeq (sSet 3 (xL oTup (xCons (xCmp (lSeq (xV 1)) (gSet 4) (bE (x2 dIn (xV 4) (xV 2))) (xV 4)) xNil))) (sSeq (sSet 5 (xL oTup (xCons (xCmp (lOf rng1 (xCons (x2 dIx (xV 0) (xK (.int 0))) xNil)) (gSet 4) (bOr (bE (x2 dIn (xV 4) (xV 1))) (bE (x2 dIn (xV 4) (xV 2)))) (xV 4)) xNil))) (sSeq (sSet 6 (xCmp (lSeq (xV 1)) (gSet 4) (bE (x2 dNotIn (xV 4) (xV 2))) (xV 4))) (sSeq (sSet 7 (xCmp (lSeq (xV 2)) (gSet 4) (bE (x2 dNotIn (xV 4) (xV 1))) (xV 4))) (sSeq (sSet 8 (x2 dAdd (xCall f__law_across (xCons (xV 0) (xCons (xV 6) (xCons (xV 7) xNil)))) (xCall f__law_across (xCons (xV 0) (xCons (xV 7) (xCons (xV 6) xNil)))))) (sSeq (sIf (bNot (bE (xCall (f__law_same 6) (xCons (x2 dAdd (x2 dAdd (xCall f_gates_of (xCons (xV 0) (xCons (xV 3) xNil))) (xCall f_gates_of (xCons (xV 0) (xCons (xV 5) xNil)))) (xV 8)) (xCons (x2 dAdd (xCall f_gates_of (xCons (xV 0) (xCons (xV 1) xNil))) (xCall f_gates_of (xCons (xV 0) (xCons (xV 2) xNil)))) xNil))))) (sRet (xK (.bool false))) sNil) (sSeq (sFor (lSeq (xL mkLst (xCons (xV 1) (xCons (xV 2) (xCons (xV 3) (xCons (xV 5) xNil)))))) (gSet 9) (sSeq (sSet 10 (xCmp (lOf rng1 (xCons (x2 dIx (xV 0) (xK (.int 0))) xNil)) (gSet 4) (bE (x2 dNotIn (xV 4) (xV 9))) (xV 4))) (sSeq (sIf (bNot (bE (xCall (f__law_same 6) (xCons (xCall f_gates_of (xCons (xV 0) (xCons (xV 9) xNil))) (xCons (xCall f__law_across (xCons (xV 0) (xCons (xV 9) (xCons (xV 10) xNil)))) xNil))))) (sRet (xK (.bool false))) sNil) (sSeq (sSet 11 (x2 dSub (xL oLen (xCons (xCall f_entering (xRo [1, 0] (xCons (xV 9) (xCons (xV 0) xNil)))) xNil)) (xL oLen (xCons (xCall f_leaving (xCons (xV 0) (xCons (xV 9) xNil))) xNil)))) (sSeq (sIf (bE (x2 dNe (xV 11) (xL oSum (xCons (xCmp (lSeq (xV 9)) (gSet 4) bYes (xCall f_surplus_of (xCons (xV 0) (xCons (xV 4) xNil)))) xNil)))) (sRet (xK (.bool false))) sNil) (sIf (bOr (bE (x2 dNe (xL oLen (xCons (xCall f_within (xCons (xV 0) (xCons (xV 9) xNil))) xNil)) (xCall f__law_across (xCons (xV 0) (xCons (xV 9) (xCons (xV 9) xNil)))))) (bNot (bE (xCall f__law_hangs (xCons (xV 0) (xCons (xV 9) xNil)))))) (sRet (xK (.bool false))) sNil)))))) (sRet (xK (.bool true))))))))))
def f__law_gates : List D → Option (D × List D) := fnF 9 false g__law_gates
def S__law_gates : FS := ⟨[.sh, .sh, .sh], [.no, .no, .no], .sh, f__law_gates⟩
def g_law : SF :=
  (sSeq (sSet 1 (xCall f__law_cells (xCons (xV 0) (xCons (xK (.int 160)) xNil)))) (sSeq (sSetM 2 (xCallM [some 1, none] f__law_heap (xmIoL 1 (xmCons (xCallM [some 1, none] f__law_pick (xmCons (xMov 1) (xmCons (mOf (xK (.int 4))) xmNil))) xmNil)))) (sSeq (sSetM 3 (xCallM [some 1, none] f__law_lot (xmCons (xMov 1) (xmCons (mOf (xV 2)) xmNil)))) (sSeq (sSetM 4 (xCallM [some 1, none] f__law_lot (xmCons (xMov 1) (xmCons (mOf (xV 2)) xmNil)))) (sRet (xAnd (xCall f__law_pieces (xCons (xV 2) xNil)) (xAnd (xCall f__law_gates (xCons (xV 2) (xCons (xV 3) (xCons (xV 4) xNil)))) (xAnd (xCall f__law_gates (xCons (xV 2) (xCons (xV 4) (xCons (xV 3) xNil)))) (xCall f__law_pieces (xCons (xV 2) xNil))))))))))
def f_law : List D → Option (D × List D) := fnF 4 false g_law
def S_law : FS := ⟨[.sh], [.no], .sh, f_law⟩
end LawK02

set_option linter.all false
set_option maxRecDepth 10000
namespace LawK02
open PySem Pv
/-! k02: from below -/
theorem f_int (i : Int) : f_is_integer [.int i] = some (.bool true, [.int i]) := by
  simp [f_is_integer, g_is_integer, isiT]
theorem f_num (i : Int) : f_is_number [.int i] = some (.bool (decide (0 ≤ i)), [.int i]) := by
  simp [f_is_number, g_is_number, f_int]
/-- a leaf, a heap, a lot by data -/
def leafD (p : Int × Int) : D := .tuple [.int p.1, .int p.2]
def leavesD (ls : List (Int × Int)) : D := .tuple (ls.map leafD)
def pileD (n : Int) (ls : List (Int × Int)) : D := .tuple [.int n, leavesD ls]
def lotD (ws : List Int) : D := .tuple (ws.map .int)
theorem at0 {α : Type} (a : α) (l : List α) : L2.atI (a :: l) 0 = some a := by
  have := atI_nat (l := a :: l) (n := 0) (by simp)
  simpa using this
theorem at1 {α : Type} (a b : α) (l : List α) : L2.atI (a :: b :: l) 1 = some b := by
  have := atI_nat (l := a :: b :: l) (n := 1) (by simp)
  simpa using this
theorem f_word (n : Int) (ls : List (Int × Int)) (i : Int) : f_is_word [pileD n ls, .int i] = some (.bool (decide (0 ≤ i) && decide (i < n)), [pileD n ls, .int i]) := by
  simp [f_is_word, g_is_word, f_num, pileD, at0]
  by_cases h : 0 ≤ i <;> simp [h]
/-- the numbers of the leaves that p takes -/
def sel (p : Int × Int → Bool) : Nat → List (Int × Int) → List D
  | _, [] => []
  | k, l :: ls => if p l then .int k :: sel p (k + 1) ls else sel p (k + 1) ls
theorem sel_app (p : Int × Int → Bool) : ∀ (k : Nat) (xs : List (Int × Int)) (l : Int × Int), sel p k (xs ++ [l]) = sel p k xs ++ (if p l then [.int ((k + xs.length : Nat) : Int)] else [])
  | k, [], l => by
    simp only [List.nil_append, sel, List.length_nil, Nat.add_zero]
  | k, x :: xs, l => by
    simp only [List.cons_append, sel, sel_app p (k + 1) xs l, List.length_cons]
    rw [show k + 1 + xs.length = k + (xs.length + 1) by omega]
    by_cases h : p x
    · simp only [h, if_true, List.cons_append]
    · simp only [h, if_false, Bool.false_eq_true]
theorem sel_len (p : Int × Int → Bool) : ∀ (k : Nat) (xs : List (Int × Int)), (sel p k xs).length ≤ xs.length
  | _, [] => Nat.le_refl _
  | k, x :: xs => by
    have := sel_len p (k + 1) xs
    simp only [sel]
    split <;> simp only [List.length_cons] <;> omega
theorem cmpP_sel {i j : Nat} {c : BF} {δ : List D} {p : Int × Int → Bool} (hc : ∀ (k : Nat) (l : Int × Int), c ((δ.set i (.int k)).set j (leafD l)) = some (p l)) (hi : ∀ a b : D, ((δ.set i a).set j b)[i]? = some a) :
    ∀ (k : Nat) (ls : List (Int × Int)), cmpP (gTupD [i, j]) c (xV i) δ (enumD k (ls.map leafD)) = some (sel p k ls)
  | k, [] => rfl
  | k, l :: ls => by
    have ih := cmpP_sel hc hi (k + 1) ls
    rw [List.map_cons, enumD, cmpP, ih]
    have e : gTupD [i, j] (.tuple [.int k, leafD l]) δ = some ((δ.set i (.int k)).set j (leafD l)) := rfl
    rw [e, Option.bind_some, hc, Option.bind_some, sel]
    cases p l with
    | true => simp only [if_true, xV_e, hi, Option.bind_some]
    | false => simp only [Bool.false_eq_true, if_false]
theorem enum_len (k : Nat) (ls : List (Int × Int)) : (enumD k (ls.map leafD)).length = ls.length := by rw [enumD_len, List.length_map]
theorem lEnum_e (n : Int) (ls : List (Int × Int)) (δ : List D) (f : EF) (h : f δ = some (leavesD ls)) : lEnum (xCons f xNil) δ = some (enumD 0 (ls.map leafD)) := by
  simp [lEnum, h, leavesD]
theorem at_pile1 (n : Int) (ls : List (Int × Int)) : L2.atI [PyData.int n, leavesD ls] 1 = some (leavesD ls) := at1 _ _ _
theorem at_pile0 (n : Int) (ls : List (Int × Int)) : L2.atI [PyData.int n, leavesD ls] 0 = some (.int n) := at0 _ _
theorem at_leaf0 (l : Int × Int) : dIx (leafD l) (.int 0) = some (.int l.1) := at0 _ _
theorem at_leaf1 (l : Int × Int) : dIx (leafD l) (.int 1) = some (.int l.2) := at1 _ _ _
theorem dIx_pile1 (n : Int) (ls : List (Int × Int)) : dIx (pileD n ls) (.int 1) = some (leavesD ls) := at1 _ _ _
theorem dIx_pile0 (n : Int) (ls : List (Int × Int)) : dIx (pileD n ls) (.int 0) = some (.int n) := at0 _ _
theorem f_from (n : Int) (ls : List (Int × Int)) (w : Int) (h0 : 0 ≤ w) (h1 : w < n) (hl : ls.length ≤ sizeLine) : f_from_word [pileD n ls, .int w] = some (.tuple (sel (fun l => l.1 == w) 0 ls), [pileD n ls, .int w]) := by
  have hs : cmpP (gTupD [2, 3]) (bE (x2 dEq (x2 dIx (xV 3) (xK (.int 0))) (xV 1))) (xV 2) [pileD n ls, .int w, .none, .none] (enumD 0 (ls.map leafD)) = some (sel (fun l => l.1 == w) 0 ls) :=
    cmpP_sel (fun k l => by simp [at_leaf0]) (fun a b => by simp) 0 ls
  have he : lEnum (xCons (x2 dIx (xV 0) (xK (.int 1))) xNil) [pileD n ls, .int w, .none, .none] = some (enumD 0 (ls.map leafD)) := lEnum_e n ls _ _ (by simp [dIx_pile1])
  simp [f_from_word, g_from_word, f_word, h0, h1, he, hs, enum_len, hl]
theorem f_to (n : Int) (ls : List (Int × Int)) (w : Int) (h0 : 0 ≤ w) (h1 : w < n) (hl : ls.length ≤ sizeLine) : f_to_word [pileD n ls, .int w] = some (.tuple (sel (fun l => l.2 == w) 0 ls), [pileD n ls, .int w]) := by
  have hs : cmpP (gTupD [2, 3]) (bE (x2 dEq (x2 dIx (xV 3) (xK (.int 1))) (xV 1))) (xV 2) [pileD n ls, .int w, .none, .none] (enumD 0 (ls.map leafD)) = some (sel (fun l => l.2 == w) 0 ls) :=
    cmpP_sel (fun k l => by simp [at_leaf1]) (fun a b => by simp) 0 ls
  have he : lEnum (xCons (x2 dIx (xV 0) (xK (.int 1))) xNil) [pileD n ls, .int w, .none, .none] = some (enumD 0 (ls.map leafD)) := lEnum_e n ls _ _ (by simp [dIx_pile1])
  simp [f_to_word, g_to_word, f_word, h0, h1, he, hs, enum_len, hl]
theorem f_fan (n : Int) (ls : List (Int × Int)) (w : Int) (h0 : 0 ≤ w) (h1 : w < n) (hl : ls.length ≤ sizeLine) : f_fan_of [pileD n ls, .int w] = some (.int (sel (fun l => l.1 == w) 0 ls).length, [pileD n ls, .int w]) := by
  simp [f_fan_of, g_fan_of, f_from n ls w h0 h1 hl]
theorem f_ends (n : Int) (ls : List (Int × Int)) (w : Int) (h0 : 0 ≤ w) (h1 : w < n) (hl : ls.length ≤ sizeLine) : f_ends_of [pileD n ls, .int w] = some (.int (sel (fun l => l.2 == w) 0 ls).length, [pileD n ls, .int w]) := by
  simp [f_ends_of, g_ends_of, f_to n ls w h0 h1 hl]
theorem f_surplus (n : Int) (ls : List (Int × Int)) (w : Int) (h0 : 0 ≤ w) (h1 : w < n) (hl : ls.length ≤ sizeLine) :
    f_surplus_of [pileD n ls, .int w] = some (.int ((sel (fun l => l.2 == w) 0 ls).length - (sel (fun l => l.1 == w) 0 ls).length), [pileD n ls, .int w]) := by
  simp [f_surplus_of, g_surplus_of, f_fan n ls w h0 h1 hl, f_ends n ls w h0 h1 hl]
theorem eqv_leaf (l m : Int × Int) : dEq (leafD l) (leafD m) = some (.bool (l == m)) := by
  have h1 : SeqAt.shaped (leafD l) = true := by
    simp [leafD, SeqAt.shaped, PyData.canLay0, PyData.canLayAll0, PyData.depth, PyData.depthAll]
  have h2 : SeqAt.shaped (leafD m) = true := by
    simp [leafD, SeqAt.shaped, PyData.canLay0, PyData.canLayAll0, PyData.depth, PyData.depthAll]
  unfold dEq
  rw [h1, h2]
  have : PyData.eqv (leafD l) (leafD m) = (l == m) := by
    simp [leafD, PyData.eqv, PyData.eqvAll]
    rfl
  rw [this]
  rfl
theorem atI_leaves {ls : List (Int × Int)} {k : Nat} {l : Int × Int} (h : ls[k]? = some l) : dIx (leavesD ls) (.int k) = some (leafD l) := by
  have hk : k < (ls.map leafD).length := by rw [List.length_map]; exact (List.getElem?_eq_some_iff.mp h).1
  show L2.atI (ls.map leafD) (k : Int) = _
  rw [atI_nat hk, List.getElem?_map, h]
  rfl
theorem dLen_leaves (ls : List (Int × Int)) : oLen [leavesD ls] = some (.int ls.length) := by simp [leavesD]
theorem f_num_nat (k : Nat) : f_is_number [.int (k : Int)] = some (.bool true, [.int (k : Int)]) := by
  rw [f_num]
  simp
theorem forL_inv {tg : D → List D → Option (List D)} {b : SF} (I : Nat → List D → Prop) : ∀ (ds : List D) (k : Nat) (δ : List D), I k δ →
    (∀ (j : Nat) (d : D) (δ : List D), ds[j]? = some d → I (k + j) δ → ∃ δ1 δ2, tg d δ = some δ1 ∧ b δ1 = some (.nx δ2) ∧ I (k + j + 1) δ2) → ∃ δ', forL tg b ds δ = some (.nx δ') ∧ I (k + ds.length) δ'
  | [], k, δ, h, _ => ⟨δ, rfl, h⟩
  | d :: ds, k, δ, h, st => by
    obtain ⟨δ1, δ2, e1, e2, h2⟩ := st 0 d δ rfl h
    obtain ⟨δ', e3, h3⟩ := forL_inv I ds (k + 1) δ2 h2 fun j d' δ e hi => by
      have := st (j + 1) d' δ (by simpa using e) (by rw [show k + (j + 1) = k + 1 + j by omega]; exact hi)
      rw [show k + (j + 1) + 1 = k + 1 + j + 1 by omega] at this
      exact this
    refine ⟨δ', ?_, by rw [List.length_cons, show k + (ds.length + 1) = k + 1 + ds.length by omega]; exact h3⟩
    unfold forL
    rw [e1, Option.bind_some, e2]
    exact e3
/-- ascending words of the heap -/
def IsLot (n : Int) (ws : List Int) : Prop := ws.Pairwise (· < ·) ∧ ∀ w ∈ ws, 0 ≤ w ∧ w < n
theorem f_lot (n : Int) (ls : List (Int × Int)) (ws : List Int) (h : IsLot n ws) : f_is_lot [pileD n ls, lotD ws] = some (.bool true, [pileD n ls, lotD ws]) := by
  obtain ⟨hp, hw⟩ := h
  have key := forL_inv (tg := gSet 3) (b := sSeq (sIf (bOr (bNot (bE (xCall f_is_word (xCons (xV 0) (xCons (xV 3) xNil))))) (bE (x2 dLe (xV 3) (xV 2)))) (sRet (xK (.bool false))) sNil) (sSet 2 (xV 3)))
    (fun k δ => ∃ (last : Int) (a : D), δ = [pileD n ls, lotD ws, .int last, a] ∧ ∀ j w, k ≤ j → ws[j]? = some w → last < w) (ws.map .int) 0 [pileD n ls, lotD ws, .int (-1), .none]
    ⟨-1, .none, rfl, fun j w _ hj => by have := hw w (List.mem_of_getElem? hj); omega⟩ ?_
  · obtain ⟨δ', e, last, a, rfl, _⟩ := key
    have hs : lSeq (xV 1) [pileD n ls, lotD ws, .int (-1), .none] = some (ws.map .int) := rfl
    have hn : dIsi "tuple" (lotD ws) = some (.bool true) := rfl
    simp only [f_is_lot, g_is_lot, fnF_e, List.cons_append, List.nil_append, List.replicate, sSeq_e, sIf_e, bNot_e, bE_e, x1_e, xV_e, List.getElem?_cons_succ, List.getElem?_cons_zero, Option.bind_some, hn, toB_e, Bool.not_true, Bool.false_eq_true, if_false, sNil_e, sSet_e, xK_e, dNeg_e,
      List.set_cons_succ, List.set_cons_zero, sFor_e, hs, e, sRet_e, outF_rt, List.length_cons, List.length_nil, List.take_succ_cons, List.take_zero]
  · rintro j d δ hd ⟨last, a, rfl, hlast⟩
    rw [List.getElem?_map] at hd
    obtain ⟨w, hjw, rfl⟩ := Option.map_eq_some_iff.mp hd
    have h1 := hw w (List.mem_of_getElem? hjw)
    have h2 := hlast j w (by omega) hjw
    refine ⟨_, [pileD n ls, lotD ws, .int w, .int w], rfl, ?_, w, .int w, rfl, fun j' w' hj' hw' => ?_⟩
    · have h3 : ¬ w ≤ last := by omega
      have e1 : f_is_word [pileD n ls, .int w] = some (.bool true, [pileD n ls, .int w]) := by
        rw [f_word, decide_eq_true h1.1, decide_eq_true h1.2]; rfl
      have c1 : bOr (bNot (bE (xCall f_is_word (xCons (xV 0) (xCons (xV 3) xNil))))) (bE (x2 dLe (xV 3) (xV 2))) [pileD n ls, lotD ws, .int last, .int w] = some false := by
        have c2 : xCall f_is_word (xCons (xV 0) (xCons (xV 3) xNil)) [pileD n ls, lotD ws, .int last, .int w] = some (.bool true) := by
          show (f_is_word [pileD n ls, .int w]).map (·.1) = _
          rw [e1]; rfl
        have c3 : x2 dLe (xV 3) (xV 2) [pileD n ls, lotD ws, .int last, .int w] = some (.bool false) := by
          show some (PyData.bool (decide (w ≤ last))) = _
          rw [decide_eq_false h3]
        rw [bOr_e, bNot_e, bE_e, c2, bE_e, c3]; rfl
      show sSeq _ _ [pileD n ls, lotD ws, .int last, .int w] = _
      rw [sSeq_e, sIf_e, c1]; rfl
    · have h5 := List.pairwise_iff_getElem.mp hp
      obtain ⟨a1, a2⟩ := List.getElem?_eq_some_iff.mp hjw
      obtain ⟨b1, b2⟩ := List.getElem?_eq_some_iff.mp hw'
      have := h5 j j' a1 b1 (by omega)
      omega
theorem flat_int (i : Int) : flatD (.int i) = true := rfl
theorem any_lot (ws : List Int) (i : Int) : ((ws.map PyData.int).any fun z => PyData.eqv z (.int i)) = ws.contains i := by
  induction ws with
  | nil => rfl
  | cons w ws ih =>
    rw [List.map_cons, List.any_cons, ih, List.contains_cons, eqv_int]
    congr 1
    by_cases h : w = i
    · subst h; simp
    · have h' : ¬ i = w := fun z => h z.symm
      rw [beq_eq_false_iff_ne.mpr h, beq_eq_false_iff_ne.mpr h']
theorem all_flat (ws : List Int) : (ws.map PyData.int).all flatD = true := by simp [flatD]
theorem dIn_lot (ws : List Int) (i : Int) : dIn (.int i) (lotD ws) = some (.bool (ws.contains i)) := by
  unfold dIn lotD
  simp only [asSeq_t, flat_int, all_flat, Bool.and_self, if_true, any_lot]
theorem dNotIn_lot (ws : List Int) (i : Int) : dNotIn (.int i) (lotD ws) = some (.bool (!ws.contains i)) := by
  unfold dNotIn lotD
  simp only [asSeq_t, flat_int, all_flat, Bool.and_self, if_true, any_lot]
def inn (ws : List Int) (l : Int × Int) : Bool := ws.contains l.1 && ws.contains l.2
def gon (ws : List Int) (l : Int × Int) : Bool := ws.contains l.1 && !ws.contains l.2
def com (ws : List Int) (l : Int × Int) : Bool := ws.contains l.2 && !ws.contains l.1
theorem f_within_e (n : Int) (ls : List (Int × Int)) (ws : List Int) (h : IsLot n ws) (hl : ls.length ≤ sizeLine) : f_within [pileD n ls, lotD ws] = some (.tuple (sel (inn ws) 0 ls), [pileD n ls, lotD ws]) := by
  have hs : cmpP (gTupD [2, 3]) (bAnd (bE (x2 dIn (x2 dIx (xV 3) (xK (.int 0))) (xV 1))) (bE (x2 dIn (x2 dIx (xV 3) (xK (.int 1))) (xV 1)))) (xV 2) [pileD n ls, lotD ws, .none, .none] (enumD 0 (ls.map leafD)) = some (sel (inn ws) 0 ls) :=
    cmpP_sel (fun k l => by
      simp only [inn, bAnd_e, bE_e, x2_e, xV_e, List.getElem?_cons_succ, List.getElem?_cons_zero, Option.bind_some, List.set_cons_succ, List.set_cons_zero, xK_e, at_leaf0, at_leaf1, dIn_lot, toB_e]
      cases ws.contains l.1 <;> simp) (fun a b => by simp) 0 ls
  have he : lEnum (xCons (x2 dIx (xV 0) (xK (.int 1))) xNil) [pileD n ls, lotD ws, .none, .none] = some (enumD 0 (ls.map leafD)) := lEnum_e n ls _ _ (by simp [dIx_pile1])
  simp [f_within, g_within, f_lot n ls ws h, he, hs, enum_len, hl]
theorem f_leaving_e (n : Int) (ls : List (Int × Int)) (ws : List Int) (h : IsLot n ws) (hl : ls.length ≤ sizeLine) : f_leaving [pileD n ls, lotD ws] = some (.tuple (sel (gon ws) 0 ls), [pileD n ls, lotD ws]) := by
  have hs : cmpP (gTupD [2, 3]) (bAnd (bE (x2 dIn (x2 dIx (xV 3) (xK (.int 0))) (xV 1))) (bE (x2 dNotIn (x2 dIx (xV 3) (xK (.int 1))) (xV 1)))) (xV 2) [pileD n ls, lotD ws, .none, .none] (enumD 0 (ls.map leafD)) = some (sel (gon ws) 0 ls) :=
    cmpP_sel (fun k l => by
      simp only [gon, bAnd_e, bE_e, x2_e, xV_e, List.getElem?_cons_succ, List.getElem?_cons_zero, Option.bind_some, List.set_cons_succ, List.set_cons_zero, xK_e, at_leaf0, at_leaf1, dIn_lot, dNotIn_lot, toB_e]
      cases ws.contains l.1 <;> simp) (fun a b => by simp) 0 ls
  have he : lEnum (xCons (x2 dIx (xV 0) (xK (.int 1))) xNil) [pileD n ls, lotD ws, .none, .none] = some (enumD 0 (ls.map leafD)) := lEnum_e n ls _ _ (by simp [dIx_pile1])
  simp [f_leaving, g_leaving, f_lot n ls ws h, he, hs, enum_len, hl]
theorem f_entering_e (n : Int) (ls : List (Int × Int)) (ws : List Int) (h : IsLot n ws) (hl : ls.length ≤ sizeLine) : f_entering [pileD n ls, lotD ws] = some (.tuple (sel (com ws) 0 ls), [pileD n ls, lotD ws]) := by
  have hs : cmpP (gTupD [2, 3]) (bAnd (bE (x2 dIn (x2 dIx (xV 3) (xK (.int 1))) (xV 1))) (bE (x2 dNotIn (x2 dIx (xV 3) (xK (.int 0))) (xV 1)))) (xV 2) [pileD n ls, lotD ws, .none, .none] (enumD 0 (ls.map leafD)) = some (sel (com ws) 0 ls) :=
    cmpP_sel (fun k l => by
      simp only [com, bAnd_e, bE_e, x2_e, xV_e, List.getElem?_cons_succ, List.getElem?_cons_zero, Option.bind_some, List.set_cons_succ, List.set_cons_zero, xK_e, at_leaf0, at_leaf1, dIn_lot, dNotIn_lot, toB_e]
      cases ws.contains l.2 <;> simp) (fun a b => by simp) 0 ls
  have he : lEnum (xCons (x2 dIx (xV 0) (xK (.int 1))) xNil) [pileD n ls, lotD ws, .none, .none] = some (enumD 0 (ls.map leafD)) := lEnum_e n ls _ _ (by simp [dIx_pile1])
  simp [f_entering, g_entering, f_lot n ls ws h, he, hs, enum_len, hl]
theorem f_gates (n : Int) (ls : List (Int × Int)) (ws : List Int) (h : IsLot n ws) (hl : ls.length ≤ sizeLine) : f_gates_of [pileD n ls, lotD ws] = some (.int (sel (gon ws) 0 ls).length, [pileD n ls, lotD ws]) := by
  simp [f_gates_of, g_gates_of, f_leaving_e n ls ws h hl]
def okS : Nat → D → Bool
  | 0, _ => false
  | _ + 1, .int _ => true
  | k + 1, .tuple ds => decide (ds.length ≤ sizeLine) && ds.all (okS k)
  | _ + 1, _ => false
theorem rng_get {n j : Nat} {d : D} (h : (rngD 0 n)[j]? = some d) : d = .int j ∧ j < n := by
  unfold rngD at h
  rw [List.getElem?_map] at h
  obtain ⟨k, h1, rfl⟩ := Option.map_eq_some_iff.mp h
  obtain ⟨h2, h3⟩ := List.getElem?_eq_some_iff.mp h1
  rw [List.length_range] at h2
  rw [List.getElem_range] at h3
  subst h3
  exact ⟨by rw [Int.zero_add], h2⟩
theorem rng_len (n : Nat) : (rngD 0 n).length = n := by simp [rngD]
theorem rng1_e {n : Nat} (h : n ≤ sizeLine) : rng1 [.int n] = some (rngD 0 n) := by
  have h2 : (n : Int) < 2 ^ 62 := by
    have : (n : Int) ≤ 2 ^ 24 := by exact_mod_cast (by simpa [sizeLine] using h)
    omega
  unfold rng1
  split
  · rename_i j e
    cases e
    rw [if_pos ⟨by omega, h2⟩, Int.toNat_natCast]
  · rename_i h3
    exact absurd rfl (h3 _)
/-- a comprehension each of whose items is True -/
theorem cmpP_true {i : Nat} {f : EF} {δ : List D} : ∀ (ds : List D), (∀ d ∈ ds, f (δ.set i d) = some (.bool true)) → cmpP (gSet i) bYes f δ ds = some (ds.map fun _ => .bool true)
  | [], _ => rfl
  | d :: ds, h => by
    rw [cmpP, gSet_e, Option.bind_some, bYes_e, Option.bind_some, if_pos rfl, h d List.mem_cons_self, Option.bind_some, cmpP_true ds fun e he => h e (List.mem_cons_of_mem _ he)]
    rfl
theorem all_true {α : Type} : ∀ (l : List α), oAll [.list (l.map fun _ => .bool true)] = some (.bool true) := fun l => by
  have : bools (l.map fun _ => PyData.bool true) = some (l.map fun _ => true) := by
    induction l with
    | nil => rfl
    | cons a l ih => rw [List.map_cons, bools, toB_e, Option.bind_some, ih]; rfl
  unfold oAll
  simp only [this, Option.map_some]
  simp
theorem okS_t (k : Nat) (ds : List D) : okS (k + 1) (.tuple ds) = (decide (ds.length ≤ sizeLine) && ds.all (okS k)) := rfl
theorem isi_tt (ds : List D) : dIsi "tuple" (.tuple ds) = some (.bool true) := rfl
theorem isi_ti (i : Int) : dIsi "tuple" (.int i) = some (.bool false) := rfl
theorem isi_ii (i : Int) : dIsi "int" (.int i) = some (.bool true) := rfl
theorem isi_bi (i : Int) : dIsi "bool" (.int i) = some (.bool false) := rfl
theorem same_i (k : Nat) (i : Int) : f__law_same (k + 1) [.int i, .int i] = some (.bool true, [.int i, .int i]) := by
  rw [f__law_same, fnF_e, g__law_same]
  simp only [List.cons_append, List.nil_append, List.replicate, sSeq_e, sIf_e, bE_e, x1_e, xV_e, List.getElem?_cons_succ, List.getElem?_cons_zero, Option.bind_some, isi_ti, toB_e, Bool.false_eq_true, if_false, sNil_e, sRet_e, xAnd_e, isi_ii, if_true, xNot_e, isi_bi, Bool.not_false, x2_e, dEq_e, beq_self_eq_true, outF_rt, List.length_cons, List.length_nil, List.take_succ_cons, List.take_zero]
theorem same_t (k : Nat) (ds : List D) (hl : ds.length ≤ sizeLine) (h : ∀ x ∈ ds, f__law_same k [x, x] = some (.bool true, [x, x])) : f__law_same (k + 1) [.tuple ds, .tuple ds] = some (.bool true, [.tuple ds, .tuple ds]) := by
  have hc : cmpP (gSet 2) bYes (xCall (f__law_same k) (xCons (x2 dIx (xV 0) (xV 2)) (xCons (x2 dIx (xV 1) (xV 2)) xNil))) [.tuple ds, .tuple ds, .none] (rngD 0 ds.length) = some ((rngD 0 ds.length).map fun _ => .bool true) := by
    refine cmpP_true _ fun d hd => ?_
    obtain ⟨j, hj⟩ := List.mem_iff_getElem?.mp hd
    obtain ⟨rfl, hj2⟩ := rng_get hj
    have e : dIx (.tuple ds) (.int j) = some ds[j] := by
      show L2.atI ds (j : Int) = _
      rw [atI_nat hj2, List.getElem?_eq_getElem hj2]
    have e2 := h ds[j] (List.getElem_mem hj2)
    simp only [xCall_e, xCons_e, xNil_e, x2_e, xV_e, List.set_cons_succ, List.set_cons_zero, List.getElem?_cons_succ, List.getElem?_cons_zero, Option.bind_some, e, e2, Option.map_some]
  have n1 : dNe (.int ds.length) (.int ds.length) = some (.bool false) := by
    rw [dNe_e]; simp
  have c1 : bOr (bNot (bE (x1 (dIsi "tuple") (xV 0)))) (bE (x2 dNe (xL oLen (xCons (xV 0) xNil)) (xL oLen (xCons (xV 1) xNil)))) [.tuple ds, .tuple ds, .none] = some false := by
    show (((dNe (.int ds.length) (.int ds.length)).bind toB)) = _
    rw [n1]; rfl
  have c2 : xCmp (lOf rng1 (xCons (xL oLen (xCons (xV 1) xNil)) xNil)) (gSet 2) bYes (xCall (f__law_same k) (xCons (x2 dIx (xV 0) (xV 2)) (xCons (x2 dIx (xV 1) (xV 2)) xNil))) [.tuple ds, .tuple ds, .none] = some (.list ((rngD 0 ds.length).map fun _ => .bool true)) := by
    have e1 : lOf rng1 (xCons (xL oLen (xCons (xV 1) xNil)) xNil) [.tuple ds, .tuple ds, .none] = some (rngD 0 ds.length) := by
      have e0 : xCons (xL oLen (xCons (xV 1) xNil)) xNil [.tuple ds, .tuple ds, .none] = some [.int ds.length] := rfl
      rw [lOf_e, e0, Option.bind_some]
      exact rng1_e hl
    rw [xCmp_e, e1, Option.bind_some, rng_len, if_pos hl, hc]
    rfl
  have c3 : sRet (xL oAll (xCons (xCmp (lOf rng1 (xCons (xL oLen (xCons (xV 1) xNil)) xNil)) (gSet 2) bYes (xCall (f__law_same k) (xCons (x2 dIx (xV 0) (xV 2)) (xCons (x2 dIx (xV 1) (xV 2)) xNil)))) xNil)) [.tuple ds, .tuple ds, .none] = some (.rt (.bool true) [.tuple ds, .tuple ds, .none]) := by
    rw [sRet_e, xL_e, xCons_e, c2, Option.bind_some, xNil_e, Option.bind_some, Option.bind_some, all_true]
    rfl
  have c4 : g__law_same (f__law_same k) [.tuple ds, .tuple ds, .none] = some (.rt (.bool true) [.tuple ds, .tuple ds, .none]) := by
    refine sSeq_rt ?_
    rw [sIf_e]
    show sSeq _ _ [.tuple ds, .tuple ds, .none] = _
    rw [sSeq_nx (δ' := [.tuple ds, .tuple ds, .none]) (by rw [sIf_e, c1]; rfl)]
    exact c3
  rw [f__law_same, fnF_e]
  show (g__law_same (f__law_same k) [.tuple ds, .tuple ds, .none]).bind _ = _
  rw [c4]
  rfl
theorem same_refl (k : Nat) : ∀ x : D, okS k x = true → f__law_same k [x, x] = some (.bool true, [x, x]) := by
  induction k with
  | zero => intro x h; cases h
  | succ k ih =>
    intro x h
    cases x with
    | int i => exact same_i k i
    | tuple ds =>
      rw [okS_t, Bool.and_eq_true] at h
      exact same_t k ds (of_decide_eq_true h.1) fun x hx => ih x (List.all_eq_true.mp h.2 x hx)
    | _ => cases h
theorem ok_sel (p : Int × Int → Bool) : ∀ (k : Nat) (ls : List (Int × Int)), (sel p k ls).all (okS 5) = true
  | _, [] => rfl
  | k, l :: ls => by
    rw [sel]
    split
    · rw [List.all_cons, ok_sel p (k + 1) ls]; rfl
    · exact ok_sel p (k + 1) ls
theorem same_int (i : Int) : f__law_same 6 [.int i, .int i] = some (.bool true, [.int i, .int i]) := same_refl 6 _ rfl
theorem same_sel (p : Int × Int → Bool) (ls : List (Int × Int)) (hl : ls.length ≤ sizeLine) : f__law_same 6 [.tuple (sel p 0 ls), .tuple (sel p 0 ls)] = some (.bool true, [.tuple (sel p 0 ls), .tuple (sel p 0 ls)]) := by
  refine same_refl 6 _ ?_
  show (decide ((sel p 0 ls).length ≤ sizeLine) && (sel p 0 ls).all (okS 5)) = true
  rw [ok_sel, decide_eq_true (Nat.le_trans (sel_len p 0 ls) hl)]
  rfl
theorem getL_e {δ : List D} {i : Nat} {ds : List D} (h : δ[i]? = some (.list ds)) : getL δ i = some ds := by unfold getL; rw [h]
theorem app_e {i : Nat} {f : EF} {δ : List D} {y : D} {ds : List D} (hf : f δ = some y) (h : δ[i]? = some (.list ds)) (hl : ds.length < sizeLine) : xApp i (mOf f) δ = some (.none, δ.set i (.list (ds ++ [y]))) := by
  unfold xApp
  rw [mOf_e, hf]
  show (getL δ i).bind _ = _
  rw [getL_e h]
  show (if ds.length < sizeLine then _ else _) = _
  rw [if_pos hl]
theorem ixN_nat {n a : Nat} (h : a < n) : L2.ixN n (a : Int) = some a := by
  unfold L2.ixN
  simp [h]
theorem drop_e {m : EM} {δ δ' : List D} {d : D} (h : m δ = some (d, δ')) : sDrop m δ = some (.nx δ') := by rw [sDrop_e, h]; rfl
theorem cmpP_const {i : Nat} {d : D} {δ : List D} : ∀ ds : List D, cmpP (gSet i) bYes (xK d) δ ds = some (ds.map fun _ => d)
  | [] => rfl
  | x :: ds => by
    rw [cmpP, gSet_e, Option.bind_some, bYes_e, Option.bind_some, if_pos rfl, xK_e, Option.bind_some, cmpP_const ds]
    rfl
/-- a heap of N words -/
structure IsPile (N : Nat) (ls : List (Int × Int)) : Prop where
  len : ls.length ≤ 100000
  fst : ∀ l ∈ ls, 0 ≤ l.1 ∧ l.1 < N
  snd : ∀ l ∈ ls, 0 ≤ l.2 ∧ l.2 < N
theorem size_le : 100000 < sizeLine := by decide
theorem IsPile.sz {N : Nat} {ls : List (Int × Int)} (h : IsPile N ls) : ls.length ≤ sizeLine := Nat.le_trans h.len (Nat.le_of_lt size_le)
theorem take_step {ls : List (Int × Int)} {k : Nat} {l : Int × Int} (h : ls[k]? = some l) : ls.take (k + 1) = ls.take k ++ [l] := by
  rw [List.take_succ, h]
  rfl
theorem take_len {ls : List (Int × Int)} {k : Nat} {l : Int × Int} (h : ls[k]? = some l) : (ls.take k).length = k := by
  have := (List.getElem?_eq_some_iff.mp h).1
  rw [List.length_take]
  omega
theorem cmp_rng {i n : Nat} {d : D} {δ : List D} {f : LF} (h : f δ = some [.int (n : Nat)]) (hn : n ≤ sizeLine) : xCmp (lOf rng1 f) (gSet i) bYes (xK d) δ = some (.list ((rngD 0 n).map fun _ => d)) := by
  have e : lOf rng1 f δ = some (rngD 0 n) := by rw [lOf_e, h, Option.bind_some]; exact rng1_e hn
  rw [xCmp_e, e, Option.bind_some, rng_len, if_pos hn, cmpP_const]
  rfl
/-- a loop over range(n) that falls through -/
theorem for_rng {i n : Nat} {f : LF} {b : SF} {δ : List D} (I : Nat → List D → Prop) (h : f δ = some [.int (n : Nat)]) (hn : n ≤ sizeLine) (h0 : I 0 δ) (st : ∀ (j : Nat) (δ : List D), j < n → I j δ → ∃ δ2, b (δ.set i (.int j)) = some (.nx δ2) ∧ I (j + 1) δ2) :
    ∃ δ', sFor (lOf rng1 f) (gSet i) b δ = some (.nx δ') ∧ I n δ' := by
  have e : lOf rng1 f δ = some (rngD 0 n) := by rw [lOf_e, h, Option.bind_some]; exact rng1_e hn
  obtain ⟨δ', h1, h2⟩ := forL_inv (tg := gSet i) (b := b) I (rngD 0 n) 0 δ h0 fun j d δ hd hi => by
    obtain ⟨rfl, hj⟩ := rng_get hd
    rw [Nat.zero_add] at hi ⊢
    obtain ⟨δ2, h1, h2⟩ := st j δ hj hi
    exact ⟨_, δ2, rfl, h1, h2⟩
  refine ⟨δ', ?_, by rw [Nat.zero_add, rng_len] at h2; exact h2⟩
  rw [sFor_e, e]
  exact h1
end LawK02

set_option linter.all false
set_option maxRecDepth 10000
namespace LawK02
open PySem Pv
/-! k02: what is drawn -/
abbrev Lf := Int × Int
theorem dIx_list {ds : List D} {n : Nat} {d : D} (h : ds[n]? = some d) : dIx (.list ds) (.int n) = some d := by
  show L2.atI _ _ = _
  rw [atI_nat (List.getElem?_eq_some_iff.mp h).1, h]
def cellsD (cs : List Int) : D := .list (cs.map .int)
theorem f_pick (cs : List Int) {m : Int} (hm : 0 < m) : ∃ p cs', f__law_pick [cellsD cs, .int m] = some (.int p, [cellsD cs', .int m]) ∧ 0 ≤ p ∧ p < m := by
  cases e : cs.getLast? with
  | none =>
    have : cs = [] := by simpa using e
    subst this
    refine ⟨0, [], ?_, by omega, hm⟩
    rfl
  | some c =>
    have hne : cs ≠ [] := fun z => by subst z; cases e
    have hlen : cs.length ≠ 0 := fun z => hne (List.length_eq_zero_iff.mp z)
    refine ⟨c % m, cs.dropLast, ?_, Int.emod_nonneg _ (by omega), Int.emod_lt_of_pos _ hm⟩
    have c1 : bE (x2 dEq (xL oLen (xCons (xV 0) xNil)) (xK (.int 0))) [cellsD cs, .int m] = some false := by
      show (dEq (.int ((cs.map PyData.int).length : Nat)) (.int 0)).bind toB = _
      rw [dEq_e, Option.bind_some, toB_e, List.length_map]
      congr 1
      exact beq_eq_false_iff_ne.mpr (by omega)
    have c2 : xPop 0 [cellsD cs, .int m] = some (.int c, [cellsD cs.dropLast, .int m]) := by
      show (getL [cellsD cs, .int m] 0).bind _ = _
      rw [getL_e (ds := cs.map .int) rfl, Option.bind_some, List.getLast?_map, e]
      show some (PyData.int c, [PyData.list (cs.map PyData.int).dropLast, PyData.int m]) = _
      rw [← List.map_dropLast]
      rfl
    have c3 : sRetM (x2M dMd (xLM oInt (xmCons (xPop 0) xmNil)) (mOf (xV 1))) [cellsD cs, .int m] = some (.rt (.int (c % m)) [cellsD cs.dropLast, .int m]) := by
      rw [sRetM_e, x2M_e, xLM_e, xmCons_e, c2, Option.bind_some, xmNil_e, Option.bind_some, Option.bind_some]
      show ((((some (PyData.int c, [cellsD cs.dropLast, PyData.int m])).bind fun p => ((some (PyData.int m, p.2)).bind fun s => (dMd p.1 s.1).map (·, s.2))))).bind _ = _
      rw [Option.bind_some, Option.bind_some, dMd_e hm]
      rfl
    unfold f__law_pick
    rw [fnF_e]
    show (g__law_pick [cellsD cs, .int m]).bind _ = _
    unfold g__law_pick
    rw [sSeq_nx (δ' := [cellsD cs, .int m]) (by rw [sIf_e, c1]; rfl), c3]
    rfl
abbrev pk (i : Nat) (f : EF) : EM := xCallM [some i, none] f__law_pick (xmCons (xMov i) (xmCons (mOf f) xmNil))
theorem pk_e {i : Nat} {f : EF} {δ : List D} {cs : List Int} {m : Int} (h : δ[i]? = some (cellsD cs)) (hf : f δ = some (.int m)) (hm : 0 < m) : ∃ p cs', pk i f δ = some (.int p, δ.set i (cellsD cs')) ∧ 0 ≤ p ∧ p < m := by
  obtain ⟨p, cs', e, h1, h2⟩ := f_pick cs hm
  refine ⟨p, cs', ?_, h1, h2⟩
  unfold pk
  rw [xCallM_e, xmCons_e, xMov_e, h, Option.map_some, Option.bind_some, xmCons_e, mOf_e, hf, Option.map_some, Option.bind_some, xmNil_e, Option.bind_some, Option.bind_some, Option.bind_some, e]
  rfl
/-- things dealt anew -/
def dBody : SF := sDrop (xApp 3 (xPopAt 2 (pk 0 (xL oLen (xCons (xV 2) xNil)))))
theorem f_dealt (cs : List Int) (ds : List D) (hn : ds.length ≤ 100000) : ∃ out cs', f__law_dealt [cellsD cs, .list ds] = some (.list out, [cellsD cs', .list ds]) ∧ out.length = ds.length ∧ ∀ d ∈ out, d ∈ ds := by
  have sz := size_le
  obtain ⟨δ', l1, cs', rest, out, a, e, h1, h2, h3, h4⟩ := for_rng (i := 4) (n := ds.length) (f := xCons (xL oLen (xCons (xV 1) xNil)) xNil) (b := dBody) (δ := [cellsD cs, .list ds, .list ds, .list [], .none])
    (fun k δ => ∃ cs rest out a, δ = [cellsD cs, .list ds, .list rest, .list out, a] ∧ rest.length + k = ds.length ∧ out.length = k ∧ (∀ d ∈ rest, d ∈ ds) ∧ ∀ d ∈ out, d ∈ ds)
    (by simp) (by omega) ⟨cs, ds, [], .none, rfl, by omega, rfl, fun _ h => h, fun _ h => nomatch h⟩ fun j δ hj ⟨cs, rest, out, a, e, h1, h2, h3, h4⟩ => by
      subst e
      have hm : (0 : Int) < (rest.length : Int) := by omega
      obtain ⟨p, cs', ep, p0, p1⟩ := pk_e (i := 0) (f := xL oLen (xCons (xV 2) xNil)) (δ := [cellsD cs, .list ds, .list rest, .list out, .int j]) (m := rest.length) rfl rfl hm
      obtain ⟨q, rfl⟩ := Int.eq_ofNat_of_zero_le p0
      have hq : q < rest.length := by omega
      refine ⟨[cellsD cs', .list ds, .list (rest.eraseIdx q), .list (out ++ [rest[q]]), .int j], ?_, cs', rest.eraseIdx q, out ++ [rest[q]], .int j, rfl, ?_, by simp [h2], fun d hd => h3 d (List.mem_of_mem_eraseIdx hd), fun d hd => ?_⟩
      · unfold dBody
        refine drop_e (d := .none) ?_
        have e2 : xPopAt 2 (pk 0 (xL oLen (xCons (xV 2) xNil))) [cellsD cs, .list ds, .list rest, .list out, .int j] = some (rest[q], [cellsD cs', .list ds, .list (rest.eraseIdx q), .list out, .int j]) := by
          unfold xPopAt
          rw [ep, Option.bind_some]
          show (getL [cellsD cs', .list ds, .list rest, .list out, .int j] 2).bind _ = _
          rw [getL_e (ds := rest) rfl, Option.bind_some, if_pos ⟨by omega, by omega⟩, ixN_nat hq, Option.bind_some, List.getElem?_eq_getElem hq]
          rfl
        show xApp 3 (xPopAt 2 (pk 0 (xL oLen (xCons (xV 2) xNil)))) [cellsD cs, .list ds, .list rest, .list out, .int j] = _
        unfold xApp
        rw [e2, Option.bind_some]
        show (getL [cellsD cs', .list ds, .list (rest.eraseIdx q), .list out, .int j] 3).bind _ = _
        rw [getL_e (ds := out) rfl, Option.bind_some, if_pos (by omega)]
        rfl
      · rw [List.length_eraseIdx_of_lt hq]; omega
      · rcases List.mem_append.mp hd with z | z
        · exact h4 d z
        · have ed : d = rest[q] := by simpa using z
          rw [ed]
          exact h3 _ (List.getElem_mem hq)
  subst e
  refine ⟨out, cs', ?_, h2, h4⟩
  unfold dBody pk at l1
  have g : g__law_dealt [cellsD cs, .list ds, .none, .none, .none] = some (.rt (.list out) [cellsD cs', .list ds, .list rest, .list out, a]) := by
    unfold g__law_dealt
    rw [sSeq_nx (δ' := [cellsD cs, .list ds, .list ds, .none, .none]) rfl, sSeq_nx (δ' := [cellsD cs, .list ds, .list ds, .list [], .none]) rfl, sSeq_nx l1]
    rfl
  unfold f__law_dealt
  rw [fnF_e]
  show (g__law_dealt [cellsD cs, .list ds, .none, .none, .none]).bind _ = _
  rw [g]
  rfl
def IsW (N : Nat) (W : List Int) : Prop := ∀ w ∈ W, 0 ≤ w ∧ w < (N : Int)
theorem dNotIn_list (ws : List Int) (i : Int) : dNotIn (.int i) (.list (ws.map .int)) = some (.bool (!ws.contains i)) := by
  unfold dNotIn
  simp only [asSeq_l, flat_int, all_flat, Bool.and_self, if_true, any_lot]
theorem cmpM_cons {tg : D → List D → Option (List D)} {c : BM} {e : EM} {x y : D} {xs ys : List D} {δ δ1 δ2 δ3 : List D} (h1 : tg x δ = some δ1) (h2 : c δ1 = some (true, δ1)) (h3 : e δ1 = some (y, δ2)) (h4 : cmpM tg c e xs δ2 = some (ys, δ3)) : cmpM tg c e (x :: xs) δ = some (y :: ys, δ3) := by
  rw [cmpM, h1, Option.bind_some, h2, Option.bind_some, if_pos rfl, h3, Option.bind_some, h4]
  rfl
theorem cmpM_pk {N : Nat} (hN : 0 < N) (E x3 x5 x6 : D) : ∀ (ds : List D) (cs : List Int) (a : D), ∃ W cs' a', cmpM (gSet 4) (bMOf bYes) (pk 0 (xV 1)) ds [cellsD cs, .int N, E, x3, a, x5, x6] = some (W.map .int, [cellsD cs', .int N, E, x3, a', x5, x6]) ∧ W.length = ds.length ∧ IsW N W
  | [], cs, a => ⟨[], cs, a, rfl, rfl, fun _ h => nomatch h⟩
  | d :: ds, cs, a => by
    obtain ⟨p, cs1, e1, p0, p1⟩ := pk_e (i := 0) (f := xV 1) (δ := [cellsD cs, .int N, E, x3, d, x5, x6]) (m := N) rfl rfl (by omega)
    obtain ⟨W, cs', a', e2, h2, h3⟩ := cmpM_pk hN E x3 x5 x6 ds cs1 d
    refine ⟨p :: W, cs', a', cmpM_cons rfl rfl e1 e2, by simp [h2], fun w hw => ?_⟩
    rcases List.mem_cons.mp hw with e | e
    · rw [e]; exact ⟨p0, p1⟩
    · exact h3 w e
theorem rng_of {n : Nat} {δ : List D} {f : LF} (h : f δ = some [.int (n : Nat)]) (hn : n ≤ sizeLine) : lOf rng1 f δ = some (rngD 0 n) := by rw [lOf_e, h, Option.bind_some]; exact rng1_e hn
def rBody : SF := sIf (bE (x2 dNotIn (xV 5) (xV 3))) (sDrop (xIns 3 (pk 0 (x2 dAdd (xL oLen (xCons (xV 3) xNil)) (xK (.int 1)))) (xV 5))) sNil
theorem rBody_e {N : Nat} (E a x6 : D) (cs W : List Int) {j : Nat} (hj : j < N) (hW : IsW N W) (hl : W.length ≤ 90000) :
    ∃ cs' W', rBody [cellsD cs, .int N, E, .list (W.map .int), a, .int j, x6] = some (.nx [cellsD cs', .int N, E, .list (W'.map .int), a, .int j, x6]) ∧ IsW N W' ∧ W'.length ≤ W.length + 1 ∧ (j : Int) ∈ W' ∧ ∀ w ∈ W, w ∈ W' := by
  have c : bE (x2 dNotIn (xV 5) (xV 3)) [cellsD cs, .int N, E, .list (W.map .int), a, .int j, x6] = some (!W.contains (j : Int)) := by
    show (dNotIn (.int j) (.list (W.map .int))).bind toB = _
    rw [dNotIn_list]
    rfl
  by_cases h : W.contains (j : Int) = true
  · refine ⟨cs, W, ?_, hW, Nat.le_succ _, by simpa using h, fun _ h => h⟩
    unfold rBody
    rw [sIf_e, c, h]
    rfl
  · have h' : W.contains (j : Int) = false := by simpa using h
    obtain ⟨p, cs', ep, p0, p1⟩ := pk_e (i := 0) (f := x2 dAdd (xL oLen (xCons (xV 3) xNil)) (xK (.int 1))) (δ := [cellsD cs, .int N, E, .list (W.map .int), a, .int j, x6]) (m := (W.length : Int) + 1) rfl (by
      show dAdd (.int ((W.map PyData.int).length : Nat)) (.int 1) = _
      rw [dAdd_e, List.length_map]) (by omega)
    refine ⟨cs', W.take p.toNat ++ [(j : Int)] ++ W.drop p.toNat, ?_, fun w hw => ?_, ?_, by simp, fun w hw => ?_⟩
    · unfold rBody
      rw [sIf_e, c, h', Option.bind_some]
      show sDrop _ _ = _
      refine drop_e (d := .none) ?_
      have sz := size_le
      unfold xIns
      rw [ep, Option.bind_some]
      show ((some (PyData.int j)).bind fun y => (getL [cellsD cs', .int N, E, .list (W.map .int), a, .int j, x6] 3).bind _) = _
      rw [Option.bind_some, getL_e (ds := W.map .int) rfl, Option.bind_some, if_pos ⟨by rw [List.length_map]; omega, p0, by omega⟩]
      simp only [List.map_append, List.map_take, List.map_drop, List.map_cons, List.map_nil]
      rfl
    · simp only [List.mem_append, List.mem_singleton] at hw
      rcases hw with (q | q) | q
      · exact hW w (List.mem_of_mem_take q)
      · rw [q]; omega
      · exact hW w (List.mem_of_mem_drop q)
    · simp only [List.length_append, List.length_take, List.length_drop, List.length_singleton]; omega
    · have := List.take_append_drop p.toNat W
      rw [← this] at hw
      simp only [List.mem_append, List.mem_singleton] at hw ⊢
      rcases hw with q | q
      · exact .inl (.inl q)
      · exact .inr q
def lvs (W : List Int) : List Lf := (List.range W.length).map fun k => (W.getD k 0, W.getD ((k + 1) % W.length) 0)
theorem getD_in {N : Nat} {W : List Int} (h : IsW N W) {k : Nat} (hk : k < W.length) : 0 ≤ W.getD k 0 ∧ W.getD k 0 < (N : Int) := by
  have : W.getD k 0 = W[k] := by simp [hk]
  rw [this]
  exact h _ (List.getElem_mem hk)
theorem lvs_in {N : Nat} {W : List Int} (h : IsW N W) : ∀ l ∈ lvs W, (0 ≤ l.1 ∧ l.1 < (N : Int)) ∧ (0 ≤ l.2 ∧ l.2 < (N : Int)) := fun l hl => by
  unfold lvs at hl
  obtain ⟨k, hk, rfl⟩ := List.mem_map.mp hl
  have hk := List.mem_range.mp hk
  exact ⟨getD_in h hk, getD_in h (Nat.mod_lt _ (by omega))⟩
theorem cmpP_nat {i : Nat} {f : EF} {δ : List D} (h : Nat → D) : ∀ ks : List Nat, (∀ k ∈ ks, f (δ.set i (.int ((0 : Int) + (k : Int)))) = some (h k)) → cmpP (gSet i) bYes f δ (ks.map fun (k : Nat) => .int ((0 : Int) + (k : Int))) = some (ks.map h)
  | [], _ => rfl
  | k :: ks, q => by
    rw [List.map_cons, cmpP, gSet_e, Option.bind_some, bYes_e, Option.bind_some, if_pos rfl, q k List.mem_cons_self, Option.bind_some, cmpP_nat h ks fun e he => q e (List.mem_cons_of_mem _ he)]
    rfl
theorem callM1 {i : Nat} {F : List D → Option (D × List D)} {f : EF} {δ : List D} {c x d c' x' : D} (h : δ[i]? = some c) (hf : f δ = some x) (e : F [c, x] = some (d, [c', x'])) : xCallM [some i, none] F (xmCons (xMov i) (xmCons (mOf f) xmNil)) δ = some (d, δ.set i c') := by
  rw [xCallM_e, xmCons_e, xMov_e, h, Option.map_some, Option.bind_some, xmCons_e, mOf_e, hf, Option.map_some, Option.bind_some, xmNil_e, Option.bind_some, Option.bind_some, Option.bind_some, e]
  rfl
theorem back_leaf {L : List Lf} : ∀ {out : List D}, (∀ d ∈ out, d ∈ L.map leafD) → ∃ ls : List Lf, out = ls.map leafD ∧ ∀ l ∈ ls, l ∈ L
  | [], _ => ⟨[], rfl, fun _ h => nomatch h⟩
  | d :: out, h => by
    obtain ⟨l, hl, rfl⟩ := List.mem_map.mp (h d List.mem_cons_self)
    obtain ⟨ls, rfl, h2⟩ := back_leaf (out := out) fun e he => h e (List.mem_cons_of_mem _ he)
    refine ⟨l :: ls, rfl, fun m hm => ?_⟩
    rcases List.mem_cons.mp hm with e | e
    · rw [e]; exact hl
    · exact h2 m e
theorem f_ring {N E : Nat} (cs : List Int) (h1 : 1 ≤ N) (h2 : N ≤ 1000) (hE : E ≤ 1000) : ∃ ls cs', f__law_ring [cellsD cs, .int N, .int E] = some (.list (ls.map leafD), [cellsD cs', .int N, .int E]) ∧ IsPile N ls ∧ ls ≠ [] ∧ ls.length ≤ E + N := by
  have sz := size_le
  obtain ⟨W0, cs0, a0, e0, l0, w0⟩ := cmpM_pk (N := N) (by omega) (.int E) .none .none .none (rngD 0 E) cs .none
  have u1 : sSetM 3 (xCmpM (lmOf (lOf rng1 (xCons (xV 2) xNil))) (gSet 4) (bMOf bYes) (pk 0 (xV 1))) [cellsD cs, .int N, .int E, .none, .none, .none, .none] = some (.nx [cellsD cs0, .int N, .int E, .list (W0.map .int), a0, .none, .none]) := by
    have r := rng_of (n := E) (δ := [cellsD cs, .int N, .int E, .none, .none, .none, .none]) (f := xCons (xV 2) xNil) rfl (by omega)
    rw [sSetM_e, xCmpM_e, lmOf_e, r, Option.map_some, Option.bind_some, if_pos (by rw [rng_len]; omega), e0]
    rfl
  obtain ⟨δ1, u2, cs1, W, a, b, e1, w1, w2, w3⟩ := for_rng (i := 5) (n := N) (f := xCons (xV 1) xNil) (b := rBody) (δ := [cellsD cs0, .int N, .int E, .list (W0.map .int), a0, .none, .none])
    (fun j δ => ∃ cs W a b, δ = [cellsD cs, .int N, .int E, .list (W.map .int), a, b, .none] ∧ IsW N W ∧ W.length ≤ E + j ∧ ∀ i : Nat, i < j → (i : Int) ∈ W) rfl (by omega) ⟨cs0, W0, a0, .none, rfl, w0, by rw [l0, rng_len]; omega, fun _ h => absurd h (Nat.not_lt_zero _)⟩ fun j δ hj ⟨cs, W, a, b, e, w1, w2, w3⟩ => by
      subst e
      obtain ⟨cs', W', e, v1, v2, v3, v4⟩ := rBody_e (.int E) a .none cs W hj w1 (by omega)
      refine ⟨_, e, cs', W', a, .int j, rfl, v1, by omega, fun i hi => ?_⟩
      rcases Nat.lt_or_ge i j with q | q
      · exact v4 _ (w3 i q)
      · rw [show i = j by omega]; exact v3
  subst e1
  have hpos : 0 < W.length := List.length_pos_of_mem (w3 0 (by omega))
  have hc : cmpP (gSet 4) bYes (xL mkTup (xCons (x2 dIx (xV 3) (xV 4)) (xCons (x2 dIx (xV 3) (x2 dMd (xL oInt (xCons (x2 dAdd (xV 4) (xK (.int 1))) xNil)) (xL oLen (xCons (xV 3) xNil)))) xNil))) [cellsD cs1, .int N, .int E, .list (W.map .int), a, b, .none] (rngD 0 W.length) = some ((lvs W).map leafD) := by
    unfold lvs rngD
    rw [List.map_map]
    refine cmpP_nat _ _ fun k hk => ?_
    have hk := List.mem_range.mp hk
    rw [Int.zero_add]
    have hk2 : (k + 1) % W.length < W.length := Nat.mod_lt _ hpos
    have i1 : dIx (.list (W.map .int)) (.int k) = some (.int (W.getD k 0)) := dIx_list (by rw [List.getElem?_map, List.getElem?_eq_getElem hk]; simp [hk])
    have i2 : dIx (.list (W.map .int)) (.int (((k + 1) % W.length : Nat) : Int)) = some (.int (W.getD ((k + 1) % W.length) 0)) := dIx_list (by rw [List.getElem?_map, List.getElem?_eq_getElem hk2]; simp [hk2])
    have md : dMd (.int ((k : Int) + 1)) (.int ((W.map PyData.int).length : Nat)) = some (.int (((k + 1) % W.length : Nat) : Int)) := by
      rw [List.length_map, dMd_e (by omega)]
      rw [Int.natCast_emod]
      rfl
    have s1 : x2 dIx (xV 3) (xV 4) [cellsD cs1, .int N, .int E, .list (W.map .int), .int k, b, .none] = some (.int (W.getD k 0)) := i1
    have s2 : x2 dIx (xV 3) (x2 dMd (xL oInt (xCons (x2 dAdd (xV 4) (xK (.int 1))) xNil)) (xL oLen (xCons (xV 3) xNil))) [cellsD cs1, .int N, .int E, .list (W.map .int), .int k, b, .none] = some (.int (W.getD ((k + 1) % W.length) 0)) := by
      have t : x2 dMd (xL oInt (xCons (x2 dAdd (xV 4) (xK (.int 1))) xNil)) (xL oLen (xCons (xV 3) xNil)) [cellsD cs1, .int N, .int E, .list (W.map .int), .int k, b, .none] = some (.int (((k + 1) % W.length : Nat) : Int)) := md
      rw [x2_e, t]
      exact i2
    show xL mkTup _ [cellsD cs1, .int N, .int E, .list (W.map .int), .int k, b, .none] = _
    rw [xL_e, xCons_e, s1, Option.bind_some, xCons_e, s2, Option.bind_some, xNil_e, Option.bind_some, Option.bind_some, Option.bind_some, mkTup_e (by show 2 ≤ sizeLine; omega)]
    rfl
  have ll : (lvs W).length = W.length := by simp [lvs]
  have u3 : sSet 6 (xCmp (lOf rng1 (xCons (xL oLen (xCons (xV 3) xNil)) xNil)) (gSet 4) bYes (xL mkTup (xCons (x2 dIx (xV 3) (xV 4)) (xCons (x2 dIx (xV 3) (x2 dMd (xL oInt (xCons (x2 dAdd (xV 4) (xK (.int 1))) xNil)) (xL oLen (xCons (xV 3) xNil)))) xNil)))) [cellsD cs1, .int N, .int E, .list (W.map .int), a, b, .none] =
      some (.nx [cellsD cs1, .int N, .int E, .list (W.map .int), a, b, .list ((lvs W).map leafD)]) := by
    have r := rng_of (n := W.length) (δ := [cellsD cs1, .int N, .int E, .list (W.map .int), a, b, .none]) (f := xCons (xL oLen (xCons (xV 3) xNil)) xNil) (by
      show some [PyData.int ((W.map PyData.int).length : Nat)] = _
      rw [List.length_map]) (by omega)
    rw [sSet_e, xCmp_e, r, Option.bind_some, if_pos (by rw [rng_len]; omega), hc]
    rfl
  obtain ⟨out, cs2, ed, ol, om⟩ := f_dealt cs1 ((lvs W).map leafD) (by rw [List.length_map, ll]; omega)
  obtain ⟨ls, rfl, hin⟩ := back_leaf om
  have len : ls.length = W.length := by rw [List.length_map, List.length_map, ll] at ol; exact ol
  have u4 : sRetM (xCallM [some 0, none] f__law_dealt (xmCons (xMov 0) (xmCons (mOf (xV 6)) xmNil))) [cellsD cs1, .int N, .int E, .list (W.map .int), a, b, .list ((lvs W).map leafD)] = some (.rt (.list (ls.map leafD)) [cellsD cs2, .int N, .int E, .list (W.map .int), a, b, .list ((lvs W).map leafD)]) := by
    have t : xCallM [some 0, none] f__law_dealt (xmCons (xMov 0) (xmCons (mOf (xV 6)) xmNil)) [cellsD cs1, .int N, .int E, .list (W.map .int), a, b, .list ((lvs W).map leafD)] = some (.list (ls.map leafD), [cellsD cs2, .int N, .int E, .list (W.map .int), a, b, .list ((lvs W).map leafD)]) := by
      rw [callM1 (c := cellsD cs1) (x := .list ((lvs W).map leafD)) rfl rfl ed]
      rfl
    rw [sRetM_e, t]
    rfl
  unfold rBody pk at u2
  unfold pk at u1
  have g : g__law_ring [cellsD cs, .int N, .int E, .none, .none, .none, .none] = some (.rt (.list (ls.map leafD)) [cellsD cs2, .int N, .int E, .list (W.map .int), a, b, .list ((lvs W).map leafD)]) := by
    unfold g__law_ring
    rw [sSeq_nx u1, sSeq_nx u2, sSeq_nx u3]
    exact u4
  refine ⟨ls, cs2, ?_, ⟨by omega, fun l hl => (lvs_in w1 l (hin l hl)).1, fun l hl => (lvs_in w1 l (hin l hl)).2⟩, (fun z => by rw [z] at len; simp at len; omega), by omega⟩
  unfold f__law_ring
  rw [fnF_e]
  show (g__law_ring [cellsD cs, .int N, .int E, .none, .none, .none, .none]).bind _ = _
  rw [g]
  rfl
theorem pkAdd {i : Nat} {c m : Int} {δ : List D} {cs : List Int} (h : δ[i]? = some (cellsD cs)) (hm : 0 < m) : ∃ p cs', x2M dAdd (mOf (xK (.int c))) (pk i (xK (.int m))) δ = some (.int (c + p), δ.set i (cellsD cs')) ∧ 0 ≤ p ∧ p < m := by
  obtain ⟨p, cs', e, h1, h2⟩ := pk_e (f := xK (.int m)) h rfl hm
  refine ⟨p, cs', ?_, h1, h2⟩
  rw [x2M_e, mOf_e, xK_e, Option.map_some, Option.bind_some, e, Option.bind_some, dAdd_e]
  rfl
theorem pkIf {i : Nat} {c m : Int} {δ : List D} {cs : List Int} (h : δ[i]? = some (cellsD cs)) (hm : 0 < m) : ∃ (b : Bool) (cs' : List Int), bME (x2M dEq (pk i (xK (.int m))) (mOf (xK (.int c)))) δ = some (b, δ.set i (cellsD cs')) := by
  obtain ⟨p, cs', e, h1, h2⟩ := pk_e (f := xK (.int m)) h rfl hm
  refine ⟨p == c, cs', ?_⟩
  rw [bME_e, x2M_e, e, Option.bind_some, mOf_e, xK_e, Option.map_some, Option.bind_some, dEq_e, Option.map_some, Option.bind_some, toB_e]
  rfl
/-- what stands in a slot may be set anew, or not -/
theorem drawnIf {i j : Nat} {c c2 m m2 : Int} {δ : List D} {cs : List Int} {s : Int} (h : δ[i]? = some (cellsD cs)) (hj : δ[j]? = some (.int s)) (hij : i ≠ j) (hm : 0 < m) (hm2 : 0 < m2) :
    ∃ (p : Int) (cs' : List Int), sIfM (bME (x2M dEq (pk i (xK (.int m))) (mOf (xK (.int c))))) (sSetM j (x2M dAdd (mOf (xK (.int c2))) (pk i (xK (.int m2))))) sNil δ = some (.nx ((δ.set i (cellsD cs')).set j (.int p))) ∧ (p = s ∨ (c2 ≤ p ∧ p < c2 + m2)) := by
  obtain ⟨b, cs1, e1⟩ := pkIf (c := c) h hm
  have hi : i < δ.length := (List.getElem?_eq_some_iff.mp h).1
  have h1 : (δ.set i (cellsD cs1))[i]? = some (cellsD cs1) := List.getElem?_set_self hi
  rw [sIfM_e, e1, Option.bind_some]
  cases b with
  | true =>
    obtain ⟨p, cs2, e2, p0, p1⟩ := pkAdd (c := c2) h1 hm2
    refine ⟨c2 + p, cs2, ?_, .inr ⟨by omega, by omega⟩⟩
    rw [if_pos rfl, sSetM_e, e2, List.set_set]
    rfl
  | false =>
    refine ⟨s, cs1, ?_, .inl rfl⟩
    rw [if_neg Bool.false_ne_true, sNil_e]
    have : (δ.set i (cellsD cs1)).set j (.int s) = δ.set i (cellsD cs1) := set_self (by rw [List.getElem?_set_ne hij]; exact hj)
    rw [this]
theorem callM2 {i : Nat} {F : List D → Option (D × List D)} {f f2 : EF} {δ : List D} {c x y d c' x' y' : D} (h : δ[i]? = some c) (hf : f δ = some x) (hf2 : f2 δ = some y) (e : F [c, x, y] = some (d, [c', x', y'])) : xCallM [some i, none, none] F (xmCons (xMov i) (xmCons (mOf f) (xmCons (mOf f2) xmNil))) δ = some (d, δ.set i c') := by
  rw [xCallM_e, xmCons_e, xMov_e, h, Option.map_some, Option.bind_some, xmCons_e, mOf_e, hf, Option.map_some, Option.bind_some, xmCons_e, mOf_e, hf2, Option.map_some, Option.bind_some, xmNil_e, Option.bind_some, Option.bind_some, Option.bind_some, Option.bind_some, e]
  rfl
theorem mkT (ds : List D) (h : ds.length ≤ 8) : mkTup ds = some (.tuple ds) := mkTup_e (by have := size_le; omega)
theorem mkL (ds : List D) (h : ds.length ≤ 8) : mkLst ds = some (.list ds) := mkLst_e (by have := size_le; omega)
theorem isLot_of {N : Nat} {ws : List Int} (h : (decide (ws.Pairwise (· < ·)) && ws.all fun w => decide (0 ≤ w) && decide (w < (N : Int))) = true) : IsLot N ws := by
  rw [Bool.and_eq_true] at h
  refine ⟨of_decide_eq_true h.1, fun w hw => ?_⟩
  have := List.all_eq_true.mp h.2 w hw
  rw [Bool.and_eq_true] at this
  exact ⟨of_decide_eq_true this.1, of_decide_eq_true this.2⟩
theorem mulOk_r {i j : Int} (h1 : -(2 ^ 64) < j) (h2 : j < 2 ^ 64) : mulOk i j = true := by
  unfold mulOk
  rw [decide_eq_true h1, decide_eq_true h2]
  simp
theorem mulOk_l {i j : Int} (h1 : -(2 ^ 64) < i) (h2 : i < 2 ^ 64) : mulOk i j = true := by
  unfold mulOk
  rw [decide_eq_true h1, decide_eq_true h2]
  simp
theorem rng_lot (N : Nat) : IsLot N ((List.range N).map fun (k : Nat) => (0 : Int) + (k : Int)) := by
  refine ⟨?_, fun w hw => ?_⟩
  · rw [List.pairwise_map]
    exact List.pairwise_lt_range.imp fun h => by omega
  · obtain ⟨k, hk, rfl⟩ := List.mem_map.mp hw
    have := List.mem_range.mp hk
    omega
theorem sub_lot {N : Nat} {ws : List Int} (h : ws.Sublist ((List.range N).map fun (k : Nat) => (0 : Int) + (k : Int))) : IsLot N ws :=
  ⟨(rng_lot N).1.sublist h, fun w hw => (rng_lot N).2 w (h.subset hw)⟩
theorem tup0 : mkTup [] = some (.tuple []) := mkT _ (by simp)
theorem tup1 (a : D) : mkTup [a] = some (.tuple [a]) := mkT _ (by simp)
theorem tup2 (a b : D) : mkTup [a, b] = some (.tuple [a, b]) := mkT _ (by simp)
theorem tup3 (a b c : D) : mkTup [a, b, c] = some (.tuple [a, b, c]) := mkT _ (by simp)
theorem lst2 (a b : D) : mkLst [a, b] = some (.list [a, b]) := mkL _ (by simp)
theorem lst3 (a b c : D) : mkLst [a, b, c] = some (.list [a, b, c]) := mkL _ (by simp)
theorem lst4 (a b c d : D) : mkLst [a, b, c, d] = some (.list [a, b, c, d]) := mkL _ (by simp)
theorem lst8 (a b c d e f g h : D) : mkLst [a, b, c, d, e, f, g, h] = some (.list [a, b, c, d, e, f, g, h]) := mkL _ (by simp)
theorem lst_rng {n : Nat} (h : n ≤ 1000) : oLstRng (.int n) = some (.list (rngD 0 n)) := by
  have e : oLstRng (.int n) = if -(2 ^ 62) ≤ (n : Int) ∧ (n : Int) ≤ 2 ^ 24 then some (.list (rngD 0 (n : Int).toNat)) else none := rfl
  rw [e, if_pos ⟨by omega, by omega⟩, Int.toNat_natCast]
theorem f_mix (i j : Int) : ∃ r, f__law_mix [.int i, .int j] = some (.int r, [.int i, .int j]) := by
  have p1 : dMul (.int i) (.int 39119) = some (.int (i * 39119)) := dMul_e (mulOk_r (by omega) (by omega))
  have p2 : dMul (.int j) (.int 15013) = some (.int (j * 15013)) := dMul_e (mulOk_r (by omega) (by omega))
  have p3 : dMd (.int (i * 39119 + j * 15013 + 2749)) (.int 1000037) = some (.int ((i * 39119 + j * 15013 + 2749) % 1000037)) := dMd_e (by omega)
  obtain ⟨a, ea⟩ : ∃ a, a = (i * 39119 + j * 15013 + 2749) % 1000037 := ⟨_, rfl⟩
  have a0 : 0 ≤ a ∧ a < 1000037 := by omega
  have p4 : dMul (.int a) (.int a) = some (.int (a * a)) := dMul_e (mulOk_r (by omega) (by omega))
  have p5 : dMul (.int 50021) (.int a) = some (.int (50021 * a)) := dMul_e (mulOk_l (by omega) (by omega))
  have p6 : dMd (.int (a * a + 50021 * a + j)) (.int 999999893) = some (.int ((a * a + 50021 * a + j) % 999999893)) := dMd_e (by omega)
  obtain ⟨b, eb⟩ : ∃ b, b = (a * a + 50021 * a + j) % 999999893 := ⟨_, rfl⟩
  have p7 : dFd (.int b) (.int 8) = some (.int (b / 8)) := dFd_e (by omega) (by decide)
  have p8 : dMd (.int (b / 8 + a)) (.int 5040) = some (.int ((b / 8 + a) % 5040)) := dMd_e (by omega)
  rw [← ea] at p3
  rw [← eb] at p6
  refine ⟨(b / 8 + a) % 5040, ?_⟩
  unfold f__law_mix
  rw [fnF_e]
  show (g__law_mix [.int i, .int j, .none, .none]).bind _ = _
  unfold g__law_mix
  rw [sSeq_nx (δ' := [.int i, .int j, .int a, .none]) (by
    simp only [sSet_e, xL_e, xCons_e, xNil_e, x2_e, xV_e, xK_e, List.getElem?_cons_succ, List.getElem?_cons_zero, Option.bind_some, p1, p2, dAdd_e, oInt_i, p3]
    rfl)]
  rw [sSeq_nx (δ' := [.int i, .int j, .int a, .int b]) (by
    simp only [sSet_e, xL_e, xCons_e, xNil_e, x2_e, xV_e, xK_e, List.getElem?_cons_succ, List.getElem?_cons_zero, Option.bind_some, p4, p5, dAdd_e, oInt_i, p6]
    rfl)]
  simp only [sRet_e, xL_e, xCons_e, xNil_e, x2_e, xV_e, xK_e, List.getElem?_cons_succ, List.getElem?_cons_zero, Option.bind_some, p7, dAdd_e, oInt_i, p8]
  rfl
theorem appC {δ : List D} {f : EF} {out : List Int} {v : Int} (hf : f δ = some (.int v)) (h : δ[2]? = some (cellsD out)) (hl : out.length ≤ 100000) : sDrop (xApp 2 (mOf f)) δ = some (.nx (δ.set 2 (cellsD (out ++ [v])))) := by
  have sz := size_le
  refine drop_e (d := .none) ?_
  rw [app_e (y := .int v) (ds := out.map .int) hf h (by rw [List.length_map]; omega)]
  unfold cellsD
  rw [List.map_append]
  rfl
def hugeB : SF := sIf (bE (x2 dGt (xV 5) (xK (.int 0)))) (sSeq (sDrop (xApp 2 (mOf (x2 dMd (xL oInt (xCons (xV 5) xNil)) (xK (.int 5040)))))) (sSet 5 (x2 dFd (xV 5) (xK (.int 5040))))) sNil
theorem hugeB_e (n q s a c : D) (out : List Int) (v : Int) (hl : out.length ≤ 100000) : ∃ out' v', hugeB [n, q, cellsD out, s, a, .int v, c] = some (.nx [n, q, cellsD out', s, a, .int v', c]) ∧ out'.length ≤ out.length + 1 := by
  have c1 : bE (x2 dGt (xV 5) (xK (.int 0))) [n, q, cellsD out, s, a, .int v, c] = some (decide (0 < v)) := rfl
  unfold hugeB
  rw [sIf_e, c1, Option.bind_some]
  cases decide (0 < v) with
  | true =>
    refine ⟨out ++ [v % 5040], v / 5040, ?_, by simp⟩
    have t : x2 dMd (xL oInt (xCons (xV 5) xNil)) (xK (.int 5040)) [n, q, cellsD out, s, a, .int v, c] = some (.int (v % 5040)) := by
      show dMd (.int v) (.int 5040) = _
      exact dMd_e (by omega)
    have t2 : x2 dFd (xV 5) (xK (.int 5040)) [n, q, cellsD (out ++ [v % 5040]), s, a, .int v, c] = some (.int (v / 5040)) := by
      show dFd (.int v) (.int 5040) = _
      exact dFd_e (by omega) (by decide)
    rw [if_pos rfl, sSeq_nx (δ' := [n, q, cellsD (out ++ [v % 5040]), s, a, .int v, c]) (by rw [appC (out := out) t rfl hl]; rfl), sSet_e, t2]
    rfl
  | false =>
    refine ⟨out, v, ?_, by omega⟩
    rw [if_neg Bool.false_ne_true]
    rfl
def hugeF : SF := sFor (lOf rng1 (xCons (xK (.int 60)) xNil)) (gSet 6) hugeB
theorem hugeF_e (n q s a c : D) (out : List Int) (v : Int) (hl : out.length ≤ 90000) : ∃ out' v' c', hugeF [n, q, cellsD out, s, a, .int v, c] = some (.nx [n, q, cellsD out', s, a, .int v', c']) ∧ out'.length ≤ out.length + 60 := by
  have sz := size_le
  obtain ⟨δ', l, out', v', c', e, h⟩ := for_rng (i := 6) (n := 60) (f := xCons (xK (.int 60)) xNil) (b := hugeB) (δ := [n, q, cellsD out, s, a, .int v, c])
    (fun k δ => ∃ out' v' c', δ = [n, q, cellsD out', s, a, .int v', c'] ∧ out'.length ≤ out.length + k) rfl (by omega) ⟨out, v, c, rfl, by omega⟩ fun j δ hj ⟨o, v, c, e, h⟩ => by
      subst e
      obtain ⟨o', v', e, h'⟩ := hugeB_e n q s a (.int j) o v (by omega)
      exact ⟨_, e, o', v', .int j, rfl, by omega⟩
  subst e
  exact ⟨out', v', c', l, h⟩
def cNum : SF := sSeq (sSet 5 (xL oAbs (xCons (xL oInt (xCons (xV 4) xNil)) xNil))) (sSeq (sSet 3 (x2 dMd (xL oInt (xCons (x2 dAdd (x2 dMul (xV 3) (xK (.int 1031))) (xV 4)) xNil)) (xK (.int 1000037)))) (sIf (bE (x2 dGe (xV 5) (x2 dPow (xK (.int 10)) (xK (.int 18))))) hugeF (sDrop (xApp 2 (mOf (xCall f__law_mix (xCons (xL oInt (xCons (xV 4) xNil)) (xCons (xL oLen (xCons (xV 2) xNil)) xNil))))))))
theorem cNum_e (n q b c : D) (out : List Int) (s i : Int) (hl : out.length ≤ 90000) : ∃ out' s' b' c', cNum [n, q, cellsD out, .int s, .int i, b, c] = some (.nx [n, q, cellsD out', .int s', .int i, b', c']) ∧ out'.length ≤ out.length + 60 := by
  obtain ⟨v, ev⟩ : ∃ v, v = (if i < 0 then -i else i) := ⟨_, rfl⟩
  have u1 : sSet 5 (xL oAbs (xCons (xL oInt (xCons (xV 4) xNil)) xNil)) [n, q, cellsD out, .int s, .int i, b, c] = some (.nx [n, q, cellsD out, .int s, .int i, .int v, c]) := by
    rw [ev]
    rfl
  have p1 : dMul (.int s) (.int 1031) = some (.int (s * 1031)) := dMul_e (mulOk_r (by omega) (by omega))
  have p2 : dMd (.int (s * 1031 + i)) (.int 1000037) = some (.int ((s * 1031 + i) % 1000037)) := dMd_e (by omega)
  have u2 : sSet 3 (x2 dMd (xL oInt (xCons (x2 dAdd (x2 dMul (xV 3) (xK (.int 1031))) (xV 4)) xNil)) (xK (.int 1000037))) [n, q, cellsD out, .int s, .int i, .int v, c] = some (.nx [n, q, cellsD out, .int ((s * 1031 + i) % 1000037), .int i, .int v, c]) := by
    simp only [sSet_e, xL_e, xCons_e, xNil_e, x2_e, xV_e, xK_e, List.getElem?_cons_succ, List.getElem?_cons_zero, Option.bind_some, p1, dAdd_e, oInt_i, p2]
    rfl
  have c1 : bE (x2 dGe (xV 5) (x2 dPow (xK (.int 10)) (xK (.int 18)))) [n, q, cellsD out, .int ((s * 1031 + i) % 1000037), .int i, .int v, c] = some (decide (10 ^ 18 ≤ v)) := by
    have pw : dPow (.int 10) (.int 18) = some (.int (10 ^ 18)) := by
      show (if 0 ≤ (18 : Int) ∧ (18 : Int) ≤ 1000000 ∧ (10 : Int).natAbs < 2 ^ 64 then some (PyData.int ((10 : Int) ^ (18 : Int).toNat)) else none) = _
      rw [if_pos ⟨by omega, by omega, by decide⟩]
      rfl
    show (((dPow (.int 10) (.int 18)).bind fun y => dGe (.int v) y)).bind toB = _
    rw [pw, Option.bind_some, dGe_e, Option.bind_some, toB_e]
  unfold cNum
  rw [sSeq_nx u1, sSeq_nx u2, sIf_e, c1, Option.bind_some]
  cases decide (10 ^ 18 ≤ v) with
  | true =>
    rw [if_pos rfl]
    obtain ⟨o', v', c', e, h⟩ := hugeF_e n q (.int ((s * 1031 + i) % 1000037)) (.int i) c out v hl
    exact ⟨o', (s * 1031 + i) % 1000037, .int v', c', e, h⟩
  | false =>
    rw [if_neg Bool.false_ne_true]
    obtain ⟨r, er⟩ := f_mix i (out.length : Nat)
    have t : xCall f__law_mix (xCons (xL oInt (xCons (xV 4) xNil)) (xCons (xL oLen (xCons (xV 2) xNil)) xNil)) [n, q, cellsD out, .int ((s * 1031 + i) % 1000037), .int i, .int v, c] = some (.int r) := by
      show (f__law_mix [.int i, .int ((out.map PyData.int).length : Nat)]).map (·.1) = _
      rw [List.length_map, er]
      rfl
    refine ⟨out ++ [r], (s * 1031 + i) % 1000037, .int v, c, ?_, by simp⟩
    rw [appC (out := out) t rfl (by omega)]
    rfl
theorem f_cells (ns : List Int) (hn : ns.length ≤ 63) : ∃ cs, f__law_cells [.list (ns.map .int), .int 160] = some (cellsD cs, [.list (ns.map .int), .int 160]) := by
  have sz := size_le
  obtain ⟨L, eL⟩ : ∃ L, L = PyData.list (ns.map .int) := ⟨_, rfl⟩
  have p1 : dMul (.int 31) (.int ((ns.length : Nat) : Int)) = some (.int (31 * ((ns.length : Nat) : Int))) := dMul_e (mulOk_l (by omega) (by omega))
  have u1 : sSet 2 (xK (.list [])) [.list (ns.map .int), .int 160, .none, .none, .none, .none, .none] = some (.nx [.list (ns.map .int), .int 160, cellsD [], .none, .none, .none, .none]) := rfl
  have u2 : sSet 3 (x2 dAdd (xK (.int 97)) (x2 dMul (xK (.int 31)) (xL oLen (xCons (xV 0) xNil)))) [.list (ns.map .int), .int 160, cellsD [], .none, .none, .none, .none] = some (.nx [.list (ns.map .int), .int 160, cellsD [], .int (97 + 31 * ((ns.length : Nat) : Int)), .none, .none, .none]) := by
    simp only [sSet_e, xL_e, xCons_e, xNil_e, x2_e, xV_e, xK_e, List.getElem?_cons_succ, List.getElem?_cons_zero, Option.bind_some, oLen_l, List.length_map, p1, dAdd_e]
    rfl
  obtain ⟨δ1, l1, out, s, a, b, c, e1, h1⟩ := forL_inv (tg := gSet 4) (b := cNum)
    (fun k δ => ∃ out s a b c, δ = [.list (ns.map .int), .int 160, cellsD out, .int s, a, b, c] ∧ out.length ≤ 60 * k) (ns.map .int) 0 [.list (ns.map .int), .int 160, cellsD [], .int (97 + 31 * ((ns.length : Nat) : Int)), .none, .none, .none] ⟨[], _, _, _, _, rfl, by simp⟩ fun j d δ hd ⟨out, s, a, b, c, e, h⟩ => by
      subst e
      rw [List.getElem?_map] at hd
      obtain ⟨i, hi, rfl⟩ := Option.map_eq_some_iff.mp hd
      have hj := (List.getElem?_eq_some_iff.mp hi).1
      obtain ⟨o', s', b', c', e, h'⟩ := cNum_e (.list (ns.map .int)) (.int 160) b c out s i (by omega)
      exact ⟨_, _, rfl, e, o', s', .int i, b', c', rfl, by omega⟩
  subst e1
  rw [List.length_map] at h1
  have u3 : sFor (lSeq (xV 0)) (gSet 4) cNum [.list (ns.map .int), .int 160, cellsD [], .int (97 + 31 * ((ns.length : Nat) : Int)), .none, .none, .none] = some (.nx [.list (ns.map .int), .int 160, cellsD out, .int s, a, b, c]) := by
    rw [sFor_e]
    exact l1
  obtain ⟨δ2, l2, out2, c2, e2, h2⟩ := for_rng (i := 6) (n := 160) (f := xCons (xV 1) xNil) (b := sDrop (xApp 2 (mOf (xCall f__law_mix (xCons (xV 3) (xCons (x2 dAdd (xK (.int 97)) (xV 6)) xNil)))))) (δ := [.list (ns.map .int), .int 160, cellsD out, .int s, a, b, c])
    (fun k δ => ∃ o c', δ = [.list (ns.map .int), .int 160, cellsD o, .int s, a, b, c'] ∧ o.length ≤ out.length + k) rfl (by omega) ⟨out, c, rfl, by omega⟩ fun j δ hj ⟨o, c', e, h⟩ => by
      subst e
      obtain ⟨r, er⟩ := f_mix s (97 + (j : Int))
      have t : xCall f__law_mix (xCons (xV 3) (xCons (x2 dAdd (xK (.int 97)) (xV 6)) xNil)) [.list (ns.map .int), .int 160, cellsD o, .int s, a, b, .int j] = some (.int r) := by
        show (f__law_mix [.int s, .int (97 + (j : Int))]).map (·.1) = _
        rw [er]
        rfl
      refine ⟨[.list (ns.map .int), .int 160, cellsD (o ++ [r]), .int s, a, b, .int j], ?_, o ++ [r], .int j, rfl, by rw [List.length_append]; simp; omega⟩
      have := appC (out := o) t rfl (by omega)
      exact this
  subst e2
  refine ⟨out2.reverse, ?_⟩
  unfold cNum hugeF hugeB at u3
  have g : g__law_cells [.list (ns.map .int), .int 160, .none, .none, .none, .none, .none] = some (.rt (cellsD out2.reverse) [.list (ns.map .int), .int 160, cellsD out2, .int s, a, b, c2]) := by
    unfold g__law_cells
    rw [sSeq_nx u1, sSeq_nx u2, sSeq_nx u3, sSeq_nx l2]
    show some (Out.rt (.list (out2.map PyData.int).reverse) _) = _
    unfold cellsD
    rw [List.map_reverse]
  unfold f__law_cells
  rw [fnF_e]
  show (g__law_cells [.list (ns.map .int), .int 160, .none, .none, .none, .none, .none]).bind _ = _
  rw [g]
  rfl
end LawK02

set_option linter.all false
set_option maxRecDepth 10000
namespace LawK02
open PySem Pv
/-! k02: lots, counted -/
theorem sel_cnt (p : Lf → Bool) : ∀ (k : Nat) (xs : List Lf), (sel p k xs).length = xs.countP p
  | _, [] => rfl
  | k, x :: xs => by
    rw [sel, List.countP_cons]
    cases p x with
    | true => rw [if_pos rfl, List.length_cons, sel_cnt p (k + 1) xs, if_pos rfl]
    | false => rw [if_neg Bool.false_ne_true, sel_cnt p (k + 1) xs, if_neg Bool.false_ne_true]; rfl
/-- a row of words by data -/
def Sq (d : D) (ws : List Int) : Prop := asSeq d = some (ws.map .int)
theorem sq_lot (ws : List Int) : Sq (lotD ws) ws := rfl
theorem sq_list (ws : List Int) : Sq (.list (ws.map .int)) ws := rfl
theorem dIn_sq {d : D} {ws : List Int} (h : Sq d ws) (i : Int) : dIn (.int i) d = some (.bool (ws.contains i)) := by
  have h' : asSeq d = some (ws.map .int) := h
  unfold dIn
  rw [h']
  simp only [flat_int, all_flat, Bool.and_self, if_true, any_lot]
theorem dNotIn_sq {d : D} {ws : List Int} (h : Sq d ws) (i : Int) : dNotIn (.int i) d = some (.bool (!ws.contains i)) := by
  have h' : asSeq d = some (ws.map .int) := h
  unfold dNotIn
  rw [h']
  simp only [flat_int, all_flat, Bool.and_self, if_true, any_lot]
theorem cmpP_flt {i : Nat} {c : BF} {δ : List D} {p : Lf → Bool} (hc : ∀ l : Lf, c (δ.set i (leafD l)) = some (p l)) (hi : ∀ a : D, (δ.set i a)[i]? = some a) : ∀ ls : List Lf, cmpP (gSet i) c (xV i) δ (ls.map leafD) = some ((ls.filter p).map leafD)
  | [] => rfl
  | l :: ls => by
    rw [List.map_cons, cmpP, gSet_e, Option.bind_some, hc, Option.bind_some, cmpP_flt hc hi ls, List.filter_cons]
    cases p l with
    | true => rw [if_pos rfl, if_pos rfl, xV_e, hi, Option.bind_some, Option.bind_some]; rfl
    | false => rw [if_neg Bool.false_ne_true, if_neg Bool.false_ne_true]
theorem cmpP_fltI {i : Nat} {c : BF} {δ : List D} {p : Int → Bool} (hi : ∀ a : D, (δ.set i a)[i]? = some a) : ∀ ws : List Int, (∀ w ∈ ws, c (δ.set i (.int w)) = some (p w)) → cmpP (gSet i) c (xV i) δ (ws.map .int) = some ((ws.filter p).map .int)
  | [], _ => rfl
  | l :: ls, hc => by
    rw [List.map_cons, cmpP, gSet_e, Option.bind_some, hc l List.mem_cons_self, Option.bind_some, cmpP_fltI hi ls fun w hw => hc w (List.mem_cons_of_mem _ hw), List.filter_cons]
    cases p l with
    | true => rw [if_pos rfl, if_pos rfl, xV_e, hi, Option.bind_some, Option.bind_some]; rfl
    | false => rw [if_neg Bool.false_ne_true, if_neg Bool.false_ne_true]
/-- the words of a heap -/
def rngI (N : Nat) : List Int := (List.range N).map fun (k : Nat) => (0 : Int) + (k : Int)
theorem rngD_I (N : Nat) : rngD 0 N = (rngI N).map .int := by
  unfold rngD rngI
  rw [List.map_map]
  rfl
theorem rngI_lot (N : Nat) : IsLot N (rngI N) := rng_lot N
theorem rngI_len (N : Nat) : (rngI N).length = N := by simp [rngI]
theorem rngI_mem {N : Nat} {w : Int} : w ∈ rngI N ↔ 0 ≤ w ∧ w < (N : Int) := by
  refine ⟨fun h => (rngI_lot N).2 w h, fun h => ?_⟩
  obtain ⟨k, rfl⟩ := Int.eq_ofNat_of_zero_le h.1
  exact List.mem_map.mpr ⟨k, List.mem_range.mpr (by omega), by omega⟩
theorem asc_nd {ws : List Int} (h : ws.Pairwise (· < ·)) : ws.Nodup := h.imp fun {a b} h e => by omega
theorem IsLot.nd {N : Int} {ws : List Int} (h : IsLot N ws) : ws.Nodup := asc_nd h.1
theorem IsLot.len {N : Nat} {ws : List Int} (h : IsLot N ws) : ws.length ≤ N := by
  have := h.nd.length_le_of_subset (l₂ := rngI N) fun w hw => rngI_mem.mpr (h.2 w hw)
  rwa [rngI_len] at this
theorem IsLot.flt {N : Int} {ws : List Int} (h : IsLot N ws) (p : Int → Bool) : IsLot N (ws.filter p) := ⟨h.1.filter p, fun w hw => h.2 w (List.mem_filter.mp hw).1⟩
theorem f_across {N : Nat} {ls : List Lf} (hl : ls.length ≤ sizeLine) {A B : D} {as bs : List Int} (ha : Sq A as) (hb : Sq B bs) : f__law_across [pileD N ls, A, B] = some (.int ((ls.countP fun l => as.contains l.1 && bs.contains l.2 : Nat) : Int), [pileD N ls, A, B]) := by
  have hs : cmpP (gSet 3) (bAnd (bE (x2 dIn (x2 dIx (xV 3) (xK (.int 0))) (xV 1))) (bE (x2 dIn (x2 dIx (xV 3) (xK (.int 1))) (xV 2)))) (xV 3) [pileD N ls, A, B, .none] (ls.map leafD) = some ((ls.filter fun l => as.contains l.1 && bs.contains l.2).map leafD) :=
    cmpP_flt (fun l => by
      simp only [bAnd_e, bE_e, x2_e, xV_e, List.getElem?_cons_succ, List.getElem?_cons_zero, Option.bind_some, List.set_cons_succ, List.set_cons_zero, xK_e, at_leaf0, at_leaf1, dIn_sq ha, dIn_sq hb, toB_e]
      cases as.contains l.1 <;> rfl) (fun a => rfl) ls
  have hq : lSeq (x2 dIx (xV 0) (xK (.int 1))) [pileD N ls, A, B, .none] = some (ls.map leafD) := by
    show (dIx (pileD N ls) (.int 1)).bind asSeq = _
    rw [dIx_pile1]
    rfl
  have hx : xCmp (lSeq (x2 dIx (xV 0) (xK (.int 1)))) (gSet 3) (bAnd (bE (x2 dIn (x2 dIx (xV 3) (xK (.int 0))) (xV 1))) (bE (x2 dIn (x2 dIx (xV 3) (xK (.int 1))) (xV 2)))) (xV 3) [pileD N ls, A, B, .none] = some (.list ((ls.filter fun l => as.contains l.1 && bs.contains l.2).map leafD)) := by
    rw [xCmp_e, hq, Option.bind_some, if_pos (by rw [List.length_map]; exact hl), hs]
    rfl
  unfold f__law_across
  rw [fnF_e]
  show (g__law_across [pileD N ls, A, B, .none]).bind _ = _
  unfold g__law_across
  rw [sRet_e, xL_e, xCons_e, hx, Option.bind_some, xNil_e, Option.bind_some, Option.bind_some, oLen_l, Option.bind_some, Option.bind_some, List.length_map, List.countP_eq_length_filter]
  rfl
/-! ### sums of counts -/
def b1 (b : Bool) : Nat := if b then 1 else 0
theorem cnt42 {p1 p2 p3 p4 q1 q2 : Lf → Bool} : ∀ {ls : List Lf}, (∀ l ∈ ls, b1 (p1 l) + b1 (p2 l) + b1 (p3 l) + b1 (p4 l) = b1 (q1 l) + b1 (q2 l)) → ls.countP p1 + ls.countP p2 + ls.countP p3 + ls.countP p4 = ls.countP q1 + ls.countP q2
  | [], _ => rfl
  | l :: ls, h => by
    have h1 := h l List.mem_cons_self
    have ih := cnt42 (ls := ls) fun m hm => h m (List.mem_cons_of_mem _ hm)
    unfold b1 at h1
    simp only [List.countP_cons]
    omega
theorem cnt22 {p1 p2 q1 q2 : Lf → Bool} : ∀ {ls : List Lf}, (∀ l ∈ ls, b1 (p1 l) + b1 (p2 l) = b1 (q1 l) + b1 (q2 l)) → ls.countP p1 + ls.countP p2 = ls.countP q1 + ls.countP q2
  | [], _ => rfl
  | l :: ls, h => by
    have h1 := h l List.mem_cons_self
    have ih := cnt22 (ls := ls) fun m hm => h m (List.mem_cons_of_mem _ hm)
    unfold b1 at h1
    simp only [List.countP_cons]
    omega
theorem cnt21 {p1 p2 q : Lf → Bool} : ∀ {ls : List Lf}, (∀ l ∈ ls, b1 (p1 l) + b1 (p2 l) = b1 (q l)) → ls.countP p1 + ls.countP p2 = ls.countP q
  | [], _ => rfl
  | l :: ls, h => by
    have h1 := h l List.mem_cons_self
    have ih := cnt21 (ls := ls) fun m hm => h m (List.mem_cons_of_mem _ hm)
    unfold b1 at h1
    simp only [List.countP_cons]
    omega
theorem cnt_cons {ls : List Lf} {w : Int} {ws : List Int} (h : w ∉ ws) (f : Lf → Int) : ls.countP (fun l => (w :: ws).contains (f l)) = ls.countP (fun l => f l == w) + ls.countP (fun l => ws.contains (f l)) := by
  refine (cnt21 fun l _ => ?_).symm
  rw [List.contains_cons]
  by_cases e : f l = w
  · have : ws.contains (f l) = false := by rw [e]; simpa using h
    rw [this, e, beq_self_eq_true]
    rfl
  · rw [beq_eq_false_iff_ne.mpr e, Bool.false_or]
    exact Nat.zero_add _
theorem sur_sum (ls : List Lf) : ∀ ws : List Int, ws.Nodup → (ws.map fun w => ((ls.countP fun l => l.2 == w : Nat) : Int) - ((ls.countP fun l => l.1 == w : Nat) : Int)).sum = ((ls.countP fun l => ws.contains l.2 : Nat) : Int) - ((ls.countP fun l => ws.contains l.1 : Nat) : Int)
  | [], _ => by simp
  | w :: ws, h => by
    have h2 := List.nodup_cons.mp h
    rw [List.map_cons, List.sum_cons, sur_sum ls ws h2.2, cnt_cons h2.1 (·.2), cnt_cons h2.1 (·.1)]
    omega
theorem cont_flt (ws : List Int) (p : Int → Bool) (x : Int) : (ws.filter p).contains x = (ws.contains x && p x) := by
  rw [Bool.eq_iff_iff]
  simp [List.mem_filter]
/-- entering less leaving -/
theorem ent_lea (ls : List Lf) (ws : List Int) : ((ls.countP (com ws) : Nat) : Int) - ((ls.countP (gon ws) : Nat) : Int) = ((ls.countP fun l => ws.contains l.2 : Nat) : Int) - ((ls.countP fun l => ws.contains l.1 : Nat) : Int) := by
  have := cnt22 (ls := ls) (p1 := com ws) (p2 := fun l => ws.contains l.1) (q1 := gon ws) (q2 := fun l => ws.contains l.2) fun l _ => by
    unfold com gon
    cases ws.contains l.1 <;> cases ws.contains l.2 <;> rfl
  omega
end LawK02

set_option linter.all false
set_option maxRecDepth 10000
namespace LawK02
open PySem Pv
/-! k02: what can be reached, grown leaf by leaf -/
inductive Rch (E : List Lf) (s : Int) : Int → Prop
  | refl : Rch E s s
  | fwd {l : Lf} : l ∈ E → Rch E s l.1 → Rch E s l.2
  | bwd {l : Lf} : l ∈ E → Rch E s l.2 → Rch E s l.1
def gs1 (part met : List Int) (l : Lf) : List Int := if met.contains l.1 && (!met.contains l.2 && part.contains l.2) then met ++ [l.2] else met
def gs2 (part met : List Int) (l : Lf) : List Int := if met.contains l.2 && (!met.contains l.1 && part.contains l.1) then met ++ [l.1] else met
def gst (part met : List Int) (l : Lf) : List Int := gs2 part (gs1 part met l) l
def gpass (part : List Int) (ls : List Lf) (met : List Int) : List Int := ls.foldl (gst part) met
def gits (part : List Int) (ls : List Lf) (s : Int) : Nat → List Int
  | 0 => [s]
  | k + 1 => gpass part ls (gits part ls s k)
/-- what holds of the words met -/
structure Gd (part : List Int) (E : List Lf) (s : Int) (met : List Int) : Prop where
  nd : met.Nodup
  sub : ∀ w ∈ met, w ∈ part
  rch : ∀ w ∈ met, Rch E s w
  has : s ∈ met
theorem nd_snoc {l : List Int} {x : Int} (h : l.Nodup) (hx : x ∉ l) : (l ++ [x]).Nodup :=
  List.nodup_append.mpr ⟨h, by simp, fun a ha b hb e => hx (by have : b = x := (by simpa using hb); rw [← this, ← e]; exact ha)⟩
theorem inn_mem {part : List Int} {ls : List Lf} {l : Lf} : l ∈ ls.filter (inn part) ↔ l ∈ ls ∧ l.1 ∈ part ∧ l.2 ∈ part := by
  rw [List.mem_filter]
  unfold inn
  simp
theorem Gd.add {part : List Int} {E : List Lf} {s x : Int} {met : List Int} (g : Gd part E s met) (h1 : x ∉ met) (h2 : x ∈ part) (h3 : Rch E s x) : Gd part E s (met ++ [x]) :=
  ⟨nd_snoc g.nd h1, fun w hw => by
    rcases List.mem_append.mp hw with h | h
    · exact g.sub w h
    · have : w = x := by simpa using h
      rw [this]; exact h2, fun w hw => by
    rcases List.mem_append.mp hw with h | h
    · exact g.rch w h
    · have : w = x := by simpa using h
      rw [this]; exact h3, List.mem_append_left _ g.has⟩
theorem gd_gs1 {part : List Int} {ls : List Lf} {s : Int} {met : List Int} {l : Lf} (hl : l ∈ ls) (g : Gd part (ls.filter (inn part)) s met) : Gd part (ls.filter (inn part)) s (gs1 part met l) := by
  unfold gs1
  split
  · rename_i h
    simp only [Bool.and_eq_true, Bool.not_eq_true', List.contains_iff_mem] at h
    obtain ⟨h1, h2, h3⟩ := h
    have h2' : l.2 ∉ met := fun z => by
      have : met.contains l.2 = true := by simpa using z
      rw [h2] at this; cases this
    exact g.add h2' h3 (.fwd (inn_mem.mpr ⟨hl, g.sub _ h1, h3⟩) (g.rch _ h1))
  · exact g
theorem gd_gs2 {part : List Int} {ls : List Lf} {s : Int} {met : List Int} {l : Lf} (hl : l ∈ ls) (g : Gd part (ls.filter (inn part)) s met) : Gd part (ls.filter (inn part)) s (gs2 part met l) := by
  unfold gs2
  split
  · rename_i h
    simp only [Bool.and_eq_true, Bool.not_eq_true', List.contains_iff_mem] at h
    obtain ⟨h1, h2, h3⟩ := h
    have h2' : l.1 ∉ met := fun z => by
      have : met.contains l.1 = true := by simpa using z
      rw [h2] at this; cases this
    exact g.add h2' h3 (.bwd (inn_mem.mpr ⟨hl, h3, g.sub _ h1⟩) (g.rch _ h1))
  · exact g
theorem gd_gst {part : List Int} {ls : List Lf} {s : Int} {met : List Int} {l : Lf} (hl : l ∈ ls) (g : Gd part (ls.filter (inn part)) s met) : Gd part (ls.filter (inn part)) s (gst part met l) := gd_gs2 hl (gd_gs1 hl g)
theorem gd_fold {part : List Int} {ls : List Lf} {s : Int} : ∀ {xs : List Lf} {met : List Int}, (∀ l ∈ xs, l ∈ ls) → Gd part (ls.filter (inn part)) s met → Gd part (ls.filter (inn part)) s (xs.foldl (gst part) met)
  | [], _, _, g => g
  | x :: xs, _, h, g => gd_fold (xs := xs) (fun l hl => h l (List.mem_cons_of_mem _ hl)) (gd_gst (h x List.mem_cons_self) g)
theorem gd_its {part : List Int} {ls : List Lf} {s : Int} (hs : s ∈ part) : ∀ k, Gd part (ls.filter (inn part)) s (gits part ls s k)
  | 0 => ⟨by simp [gits], fun w hw => by have : w = s := (by simpa [gits] using hw); rw [this]; exact hs, fun w hw => by have : w = s := (by simpa [gits] using hw); rw [this]; exact .refl, by simp [gits]⟩
  | k + 1 => gd_fold (fun _ h => h) (gd_its hs k)
theorem gs1_len (part met : List Int) (l : Lf) : gs1 part met l = met ∨ (gs1 part met l).length = met.length + 1 := by
  unfold gs1; split
  · exact .inr (by simp)
  · exact .inl rfl
theorem gs2_len (part met : List Int) (l : Lf) : gs2 part met l = met ∨ (gs2 part met l).length = met.length + 1 := by
  unfold gs2; split
  · exact .inr (by simp)
  · exact .inl rfl
theorem gst_len (part met : List Int) (l : Lf) : gst part met l = met ∨ met.length < (gst part met l).length := by
  unfold gst
  rcases gs1_len part met l with h | h
  · rw [h]
    rcases gs2_len part met l with q | q
    · exact .inl q
    · exact .inr (by omega)
  · rcases gs2_len part (gs1 part met l) l with q | q
    · exact .inr (by rw [q]; omega)
    · exact .inr (by omega)
theorem fold_len (part : List Int) : ∀ (xs : List Lf) (met : List Int), ((∀ l ∈ xs, gst part met l = met) ∧ xs.foldl (gst part) met = met) ∨ met.length < (xs.foldl (gst part) met).length
  | [], met => .inl ⟨(fun _ h => nomatch h), rfl⟩
  | x :: xs, met => by
    rw [List.foldl_cons]
    rcases gst_len part met x with h | h
    · rw [h]
      rcases fold_len part xs met with ⟨a, b⟩ | q
      · refine .inl ⟨fun l hl => ?_, b⟩
        rcases List.mem_cons.mp hl with e | e
        · rw [e]; exact h
        · exact a l e
      · exact .inr q
    · rcases fold_len part xs (gst part met x) with ⟨a, b⟩ | q
      · exact .inr (by rw [b]; exact h)
      · exact .inr (by omega)
/-- nothing more can be met -/
def Clo (part : List Int) (ls : List Lf) (met : List Int) : Prop := ∀ l ∈ ls, gst part met l = met
theorem Clo.stay {part : List Int} {ls : List Lf} {met : List Int} (c : Clo part ls met) : gpass part ls met = met := by
  unfold gpass
  have : ∀ xs : List Lf, (∀ l ∈ xs, l ∈ ls) → xs.foldl (gst part) met = met := by
    intro xs
    induction xs with
    | nil => intro _; rfl
    | cons x xs ih =>
      intro h
      rw [List.foldl_cons, c x (h x List.mem_cons_self)]
      exact ih fun l hl => h l (List.mem_cons_of_mem _ hl)
  exact this ls fun _ h => h
theorem its_clo (part : List Int) (ls : List Lf) (s : Int) : ∀ k, Clo part ls (gits part ls s k) ∨ k + 1 ≤ (gits part ls s k).length
  | 0 => .inr (Nat.le_refl _)
  | k + 1 => by
    rcases its_clo part ls s k with h | h
    · refine .inl ?_
      show Clo part ls (gpass part ls (gits part ls s k))
      rw [h.stay]
      exact h
    · show Clo part ls (gpass part ls (gits part ls s k)) ∨ _ ≤ (gpass part ls (gits part ls s k)).length
      rcases fold_len part ls (gits part ls s k) with ⟨a, b⟩ | q
      · refine .inl ?_
        unfold gpass
        rw [b]
        exact a
      · refine .inr ?_
        unfold gpass
        omega
theorem its_end {part : List Int} {ls : List Lf} {s : Int} (hs : s ∈ part) : Clo part ls (gits part ls s part.length) := by
  rcases its_clo part ls s part.length with h | h
  · exact h
  · have g := gd_its (ls := ls) hs part.length
    have := g.nd.length_le_of_subset (l₂ := part) g.sub
    omega
theorem gst_fix {part met : List Int} {l : Lf} (h : gst part met l = met) : (l.1 ∈ met → l.2 ∈ part → l.2 ∈ met) ∧ (l.2 ∈ met → l.1 ∈ part → l.1 ∈ met) := by
  unfold gst at h
  have e1 : gs1 part met l = met := by
    rcases gs1_len part met l with q | q
    · exact q
    · rcases gs2_len part (gs1 part met l) l with r | r
      · rw [h] at r; rw [← r] at q; omega
      · rw [h] at r; omega
  rw [e1] at h
  refine ⟨fun a b => Classical.byContradiction fun c => ?_, fun a b => Classical.byContradiction fun c => ?_⟩
  · unfold gs1 at e1
    rw [if_pos (by simp [a, b, c])] at e1
    have := congrArg List.length e1
    simp at this
  · unfold gs2 at h
    rw [if_pos (by simp [a, b, c])] at h
    have := congrArg List.length h
    simp at this
theorem its_mem {part : List Int} {ls : List Lf} {s : Int} (hs : s ∈ part) (w : Int) : w ∈ gits part ls s part.length ↔ Rch (ls.filter (inn part)) s w := by
  have g := gd_its (ls := ls) hs part.length
  have c := its_end (ls := ls) hs
  refine ⟨g.rch w, fun h => ?_⟩
  induction h with
  | refl => exact g.has
  | fwd hl _ ih =>
    obtain ⟨q1, q2, q3⟩ := inn_mem.mp hl
    exact (gst_fix (c _ q1)).1 ih q3
  | bwd hl _ ih =>
    obtain ⟨q1, q2, q3⟩ := inn_mem.mp hl
    exact (gst_fix (c _ q1)).2 ih q2
/-! ### the code -/
theorem srt_ints {ws vs : List Int} (hv : vs.Pairwise (· < ·)) (hp : ws.Perm vs) : srtD (ws.map PyData.int) = vs.map PyData.int := by
  refine SrtO.srt_uniq ltD_swo (srtD_srt _) ?_ ((srtD_perm _).trans (hp.map _)) ?_
  · refine List.pairwise_map.mpr (hv.imp fun {a b} h => ?_)
    show HT.lexLt [b] [a] = false
    rw [HT.lexLt_cons, if_neg (by omega)]
    exact decide_eq_false (by omega)
  · intro x hx y hy h1 h2
    obtain ⟨i, _, rfl⟩ := List.mem_map.mp ((srtD_perm _).mem_iff.mp hx)
    obtain ⟨j, _, rfl⟩ := List.mem_map.mp ((srtD_perm _).mem_iff.mp hy)
    have h1 : HT.lexLt [i] [j] = false := h1
    have h2 : HT.lexLt [j] [i] = false := h2
    rw [HT.lexLt_cons] at h1 h2
    by_cases e : i = j
    · rw [e]
    · rw [if_neg e] at h1
      rw [if_neg (fun z => e z.symm)] at h2
      have := of_decide_eq_false h1
      have := of_decide_eq_false h2
      omega
theorem all_isI : ∀ ws : List Int, (ws.map PyData.int).all isI = true
  | [] => rfl
  | w :: ws => by rw [List.map_cons, List.all_cons, all_isI ws]; rfl
theorem sorted_ints {ws vs : List Int} (hv : vs.Pairwise (· < ·)) (hp : ws.Perm vs) : oSorted (.list (ws.map .int)) = some (.list (vs.map .int)) := by
  show (if (ws.map PyData.int).all isI || (ws.map PyData.int).all isTI then some (PyData.list (srtD (ws.map PyData.int))) else none) = _
  rw [all_isI, Bool.true_or, if_pos rfl, srt_ints hv hp]
def gBody : SF := sSeq (sIf (bAnd (bE (x2 dIn (x2 dIx (xV 5) (xK (.int 0))) (xV 3))) (bAnd (bE (x2 dNotIn (x2 dIx (xV 5) (xK (.int 1))) (xV 3))) (bE (x2 dIn (x2 dIx (xV 5) (xK (.int 1))) (xV 2))))) (sDrop (xApp 3 (mOf (x2 dIx (xV 5) (xK (.int 1)))))) sNil) (sIf (bAnd (bE (x2 dIn (x2 dIx (xV 5) (xK (.int 1))) (xV 3))) (bAnd (bE (x2 dNotIn (x2 dIx (xV 5) (xK (.int 0))) (xV 3))) (bE (x2 dIn (x2 dIx (xV 5) (xK (.int 0))) (xV 2))))) (sDrop (xApp 3 (mOf (x2 dIx (xV 5) (xK (.int 0)))))) sNil)
theorem gBody_e (L s P k : D) {part met : List Int} (hP : Sq P part) (hm : met.length ≤ 90000) (l : Lf) : gBody [L, s, P, .list (met.map .int), k, leafD l] = some (.nx [L, s, P, .list ((gst part met l).map .int), k, leafD l]) := by
  have sz := size_le
  have i0 : ∀ δ : List D, δ[5]? = some (leafD l) → x2 dIx (xV 5) (xK (.int 0)) δ = some (.int l.1) := fun δ h => by rw [x2_e, xV_e, h, Option.bind_some, xK_e, Option.bind_some, at_leaf0]
  have i1 : ∀ δ : List D, δ[5]? = some (leafD l) → x2 dIx (xV 5) (xK (.int 1)) δ = some (.int l.2) := fun δ h => by rw [x2_e, xV_e, h, Option.bind_some, xK_e, Option.bind_some, at_leaf1]
  have c1 : ∀ (m : List Int) (a b : EF) (x y : Int), a [L, s, P, .list (m.map .int), k, leafD l] = some (.int x) → b [L, s, P, .list (m.map .int), k, leafD l] = some (.int y) → bAnd (bE (x2 dIn a (xV 3))) (bAnd (bE (x2 dNotIn b (xV 3))) (bE (x2 dIn b (xV 2)))) [L, s, P, .list (m.map .int), k, leafD l] = some (m.contains x && (!m.contains y && part.contains y)) := fun m a b x y ha hb => by
    simp only [bAnd_e, bE_e, x2_e, xV_e, ha, hb, List.getElem?_cons_succ, List.getElem?_cons_zero, Option.bind_some, dIn_sq (sq_list m), dNotIn_sq (sq_list m), dIn_sq hP, toB_e]
    cases m.contains x <;> cases m.contains y <;> rfl
  have s1 : sIf (bAnd (bE (x2 dIn (x2 dIx (xV 5) (xK (.int 0))) (xV 3))) (bAnd (bE (x2 dNotIn (x2 dIx (xV 5) (xK (.int 1))) (xV 3))) (bE (x2 dIn (x2 dIx (xV 5) (xK (.int 1))) (xV 2))))) (sDrop (xApp 3 (mOf (x2 dIx (xV 5) (xK (.int 1)))))) sNil [L, s, P, .list (met.map .int), k, leafD l] = some (.nx [L, s, P, .list ((gs1 part met l).map .int), k, leafD l]) := by
    rw [sIf_e, c1 met _ _ l.1 l.2 (i0 _ rfl) (i1 _ rfl), Option.bind_some]
    unfold gs1
    split
    · refine drop_e (d := .none) ?_
      rw [app_e (y := .int l.2) (ds := met.map .int) (i1 _ rfl) rfl (by rw [List.length_map]; omega), List.map_append]
      rfl
    · rfl
  have hm1 : (gs1 part met l).length ≤ 90001 := by
    rcases gs1_len part met l with q | q
    · rw [q]; omega
    · omega
  have s2 : sIf (bAnd (bE (x2 dIn (x2 dIx (xV 5) (xK (.int 1))) (xV 3))) (bAnd (bE (x2 dNotIn (x2 dIx (xV 5) (xK (.int 0))) (xV 3))) (bE (x2 dIn (x2 dIx (xV 5) (xK (.int 0))) (xV 2))))) (sDrop (xApp 3 (mOf (x2 dIx (xV 5) (xK (.int 0)))))) sNil [L, s, P, .list ((gs1 part met l).map .int), k, leafD l] = some (.nx [L, s, P, .list ((gst part met l).map .int), k, leafD l]) := by
    rw [sIf_e, c1 (gs1 part met l) _ _ l.2 l.1 (i1 _ rfl) (i0 _ rfl), Option.bind_some]
    unfold gst gs2
    split
    · refine drop_e (d := .none) ?_
      rw [app_e (y := .int l.1) (ds := (gs1 part met l).map .int) (i0 _ rfl) rfl (by rw [List.length_map]; omega), List.map_append]
      rfl
    · rfl
  unfold gBody
  rw [sSeq_nx s1, s2]
/-- part's words that can be reached from s within it -/
theorem f_grown {N : Nat} {ls : List Lf} {P : D} {part : List Int} {s : Int} (hP : Sq P part) (ha : part.Pairwise (· < ·)) (hn : part.length ≤ 1000) (hs : s ∈ part) (hlen : oLen [P] = some (.int ((part.length : Nat) : Int))) :
    ∃ c : List Int, f__law_grown [pileD N ls, .int s, P] = some (lotD c, [pileD N ls, .int s, P]) ∧ c.Pairwise (· < ·) ∧ (∀ w, w ∈ c ↔ Rch (ls.filter (inn part)) s w) ∧ ∀ w ∈ c, w ∈ part := by
  have sz := size_le
  have gd : ∀ {met : List Int}, Gd part (ls.filter (inn part)) s met → met.length ≤ 1000 := fun g => by
    have := g.nd.length_le_of_subset (l₂ := part) g.sub
    omega
  have inner : ∀ (met : List Int) (k a : D), Gd part (ls.filter (inn part)) s met → ∃ a', sFor (lSeq (x2 dIx (xV 0) (xK (.int 1)))) (gSet 5) gBody [pileD N ls, .int s, P, .list (met.map .int), k, a] = some (.nx [pileD N ls, .int s, P, .list ((gpass part ls met).map .int), k, a']) := fun met k a g => by
    obtain ⟨δ', l1, a', e⟩ := forL_inv (tg := gSet 5) (b := gBody) (fun j δ => ∃ a, δ = [pileD N ls, .int s, P, .list (((ls.take j).foldl (gst part) met).map .int), k, a]) (ls.map leafD) 0 [pileD N ls, .int s, P, .list (met.map .int), k, a] ⟨a, by rw [List.take_zero]; rfl⟩ fun j d δ hd ⟨a, e⟩ => by
      subst e
      rw [Nat.zero_add]
      rw [List.getElem?_map] at hd
      obtain ⟨l, hj, rfl⟩ := Option.map_eq_some_iff.mp hd
      have gj := gd_fold (part := part) (ls := ls) (s := s) (xs := ls.take j) (fun l hl => List.mem_of_mem_take hl) g
      refine ⟨_, _, rfl, gBody_e _ _ _ _ hP (by have := gd gj; omega) l, leafD l, ?_⟩
      rw [take_step hj, List.foldl_append]
      rfl
    subst e
    rw [Nat.zero_add, List.length_map, List.take_length] at l1
    refine ⟨a', ?_⟩
    have q : lSeq (x2 dIx (xV 0) (xK (.int 1))) [pileD N ls, .int s, P, .list (met.map .int), k, a] = some (ls.map leafD) := by
      show (dIx (pileD N ls) (.int 1)).bind asSeq = _
      rw [dIx_pile1]
      rfl
    rw [sFor_e, q, Option.bind_some, l1]
    rfl
  have u1 : sSet 3 (xL mkLst (xCons (xV 1) xNil)) [pileD N ls, .int s, P, .none, .none, .none] = some (.nx [pileD N ls, .int s, P, .list ((gits part ls s 0).map .int), .none, .none]) := by
    have : mkLst [.int s] = some (.list [.int s]) := mkL _ (by simp)
    rw [sSet_e, xL_e]
    show (mkLst [.int s]).bind _ = _
    rw [this]
    rfl
  obtain ⟨δ', l, b, a, e⟩ := for_rng (i := 4) (n := part.length) (f := xCons (xL oLen (xCons (xV 2) xNil)) xNil) (b := sFor (lSeq (x2 dIx (xV 0) (xK (.int 1)))) (gSet 5) gBody) (δ := [pileD N ls, .int s, P, .list ((gits part ls s 0).map .int), .none, .none])
    (fun k δ => ∃ b a, δ = [pileD N ls, .int s, P, .list ((gits part ls s k).map .int), b, a])
    (by show ((oLen [P]).bind fun x => some [x]) = _
        rw [hlen]; rfl) (by omega) ⟨.none, .none, rfl⟩ fun j δ hj ⟨b, a, e⟩ => by
      subst e
      obtain ⟨a', e⟩ := inner (gits part ls s j) (.int j) a (gd_its hs j)
      exact ⟨_, e, .int j, a', rfl⟩
  subst e
  have hc : (part.filter fun w => (gits part ls s part.length).contains w).Pairwise (· < ·) := ha.filter _
  have g := gd_its (ls := ls) hs part.length
  have hperm : (gits part ls s part.length).Perm (part.filter fun w => (gits part ls s part.length).contains w) := (List.perm_ext_iff_of_nodup g.nd (asc_nd hc)).mpr fun w => by
    rw [List.mem_filter]
    exact ⟨fun h => ⟨g.sub w h, by simpa using h⟩, fun h => by simpa using h.2⟩
  refine ⟨part.filter fun w => (gits part ls s part.length).contains w, ?_, hc, fun w => ?_, fun w hw => (List.mem_filter.mp hw).1⟩
  · have r : sRet (xL oTup (xCons (x1 oSorted (xV 3)) xNil)) [pileD N ls, .int s, P, .list ((gits part ls s part.length).map .int), b, a] = some (.rt (lotD (part.filter fun w => (gits part ls s part.length).contains w)) [pileD N ls, .int s, P, .list ((gits part ls s part.length).map .int), b, a]) := by
      have o : x1 oSorted (xV 3) [pileD N ls, .int s, P, .list ((gits part ls s part.length).map .int), b, a] = some (.list ((part.filter fun w => (gits part ls s part.length).contains w).map .int)) := sorted_ints hc hperm
      rw [sRet_e, xL_e, xCons_e, o]
      rfl
    have gg : g__law_grown [pileD N ls, .int s, P, .none, .none, .none] = some (.rt (lotD (part.filter fun w => (gits part ls s part.length).contains w)) [pileD N ls, .int s, P, .list ((gits part ls s part.length).map .int), b, a]) := by
      unfold gBody at l
      unfold g__law_grown
      rw [sSeq_nx u1, sSeq_nx l]
      exact r
    unfold f__law_grown
    rw [fnF_e]
    show (g__law_grown [pileD N ls, .int s, P, .none, .none, .none]).bind _ = _
    rw [gg]
    rfl
  · rw [← its_mem hs w, ← hperm.mem_iff]
end LawK02

set_option linter.all false
set_option maxRecDepth 10000
namespace LawK02
open PySem Pv
/-! k02: the bonds -/
abbrev Bo := List (Int × List Int)
def badd : Bo → Int → Int → Bo
  | [], k, v => [(k, [v])]
  | p :: B, k, v => if p.1 = k then (p.1, p.2 ++ [v]) :: B else p :: badd B k v
def look : Bo → Int → List Int
  | [], _ => []
  | p :: B, k => if p.1 = k then p.2 else look B k
def bD (B : Bo) : List (D × D) := B.map fun p => (.int p.1, .list (p.2.map .int))
theorem look_badd : ∀ (B : Bo) (k v k' : Int), look (badd B k v) k' = if k = k' then look B k' ++ [v] else look B k'
  | [], k, v, k' => by
    show (if k = k' then [v] else []) = _
    by_cases h : k = k'
    · rw [if_pos h, if_pos h]; rfl
    · rw [if_neg h, if_neg h]; rfl
  | p :: B, k, v, k' => by
    unfold badd
    by_cases e : p.1 = k
    · rw [if_pos e]
      unfold look
      by_cases h : k = k'
      · rw [if_pos h, if_pos (e.trans h), if_pos (e.trans h)]
      · rw [if_neg h, if_neg (fun z => h (e.symm.trans z)), if_neg (fun z => h (e.symm.trans z))]
    · rw [if_neg e]
      unfold look
      rw [look_badd B k v k']
      by_cases h : p.1 = k'
      · rw [if_pos h, if_pos h, if_neg (fun z => e (h.trans z.symm))]
      · rw [if_neg h, if_neg h]
theorem badd_len : ∀ (B : Bo) (k v : Int), (badd B k v).length ≤ B.length + 1
  | [], _, _ => Nat.le_refl _
  | p :: B, k, v => by
    have := badd_len B k v
    unfold badd
    split <;> simp only [List.length_cons] <;> omega
theorem badd_max {m : Nat} : ∀ (B : Bo) (k v : Int), (∀ p ∈ B, p.2.length ≤ m) → ∀ p ∈ badd B k v, p.2.length ≤ m + 1
  | [], k, v, _, p, hp => by
    have : p = (k, [v]) := (by simpa [badd] using hp)
    rw [this]
    show 1 ≤ m + 1
    omega
  | q :: B, k, v, h, p, hp => by
    unfold badd at hp
    have hq := h q List.mem_cons_self
    split at hp
    · rcases List.mem_cons.mp hp with e | e
      · rw [e]
        show (q.2 ++ [v]).length ≤ _
        rw [List.length_append, List.length_singleton]
        omega
      · have := h p (List.mem_cons_of_mem _ e)
        omega
    · rcases List.mem_cons.mp hp with e | e
      · rw [e]; omega
      · exact badd_max B k v (fun r hr => h r (List.mem_cons_of_mem _ hr)) p e
/-- where a key stands, or that it does not -/
theorem sd_at : ∀ (B : Bo) (k v : Int), (posD (bD B) (.int k) = none ∧ bD B ++ [(.int k, .list [.int v])] = bD (badd B k v)) ∨
    ∃ (n : Nat) (es : List Int), posD (bD B) (.int k) = some n ∧ (bD B)[n]? = some (.int k, .list (es.map .int)) ∧ (bD B).set n (.int k, .list (es.map .int ++ [.int v])) = bD (badd B k v) ∧ ∃ p ∈ B, p.2 = es
  | [], k, v => .inl ⟨rfl, rfl⟩
  | p :: B, k, v => by
    have hp : posD (bD (p :: B)) (.int k) = if p.1 == k then some 0 else (posD (bD B) (.int k)).map (· + 1) := by
      show posD ((PyData.int p.1, PyData.list (p.2.map .int)) :: bD B) _ = _
      rw [posD_cons]
      show (if PyData.eqv (.int p.1) (.int k) = true then _ else _) = _
      rw [eqv_int]
    by_cases e : p.1 = k
    · subst e
      rw [beq_self_eq_true, if_pos rfl] at hp
      refine .inr ⟨0, p.2, hp, rfl, ?_, p, List.mem_cons_self, rfl⟩
      unfold badd
      rw [if_pos rfl]
      show (PyData.int p.1, PyData.list (p.2.map .int ++ [.int v])) :: bD B = (PyData.int p.1, PyData.list ((p.2 ++ [v]).map .int)) :: bD B
      rw [List.map_append]
      rfl
    · rw [beq_eq_false_iff_ne.mpr e, if_neg Bool.false_ne_true] at hp
      have eb : badd (p :: B) k v = p :: badd B k v := by
        show (if p.1 = k then _ else _) = _
        rw [if_neg e]
      rcases sd_at B k v with ⟨h1, h2⟩ | ⟨n, es, h1, h2, h3, q, hq, h4⟩
      · rw [h1] at hp
        refine .inl ⟨hp, ?_⟩
        rw [eb]
        show (PyData.int p.1, PyData.list (p.2.map .int)) :: (bD B ++ _) = (PyData.int p.1, PyData.list (p.2.map .int)) :: bD (badd B k v)
        rw [h2]
      · rw [h1] at hp
        refine .inr ⟨n + 1, es, hp, h2, ?_, q, List.mem_cons_of_mem _ hq, h4⟩
        rw [eb]
        show (PyData.int p.1, PyData.list (p.2.map .int)) :: ((bD B).set n _) = (PyData.int p.1, PyData.list (p.2.map .int)) :: bD (badd B k v)
        rw [h3]
theorem look_at : ∀ (B : Bo) (k : Int), getD' (bD B) (.int k) = none ∧ look B k = [] ∨ getD' (bD B) (.int k) = some (.list ((look B k).map .int))
  | [], k => .inl ⟨rfl, rfl⟩
  | p :: B, k => by
    have hp : posD (bD (p :: B)) (.int k) = if p.1 == k then some 0 else (posD (bD B) (.int k)).map (· + 1) := by
      show posD ((PyData.int p.1, PyData.list (p.2.map .int)) :: bD B) _ = _
      rw [posD_cons]
      show (if PyData.eqv (.int p.1) (.int k) = true then _ else _) = _
      rw [eqv_int]
    unfold getD' look
    by_cases e : p.1 = k
    · rw [beq_iff_eq.mpr e, if_pos rfl] at hp
      rw [hp, if_pos e]
      exact .inr rfl
    · rw [beq_eq_false_iff_ne.mpr e, if_neg Bool.false_ne_true] at hp
      rw [hp, if_neg e]
      have ih := look_at B k
      unfold getD' at ih
      cases q : posD (bD B) (.int k) with
      | none => rw [q] at ih; exact ih
      | some n => rw [q] at ih; exact ih
/-- both ways -/
def bstep (B : Bo) (l : Lf) : Bo := badd (badd B l.1 l.2) l.2 l.1
def bonds (xs : List Lf) : Bo := xs.foldl bstep []
theorem bonds_snoc (xs : List Lf) (l : Lf) : bonds (xs ++ [l]) = bstep (bonds xs) l := by
  unfold bonds
  rw [List.foldl_append]
  rfl
theorem bonds_sz (xs : List Lf) : (bonds xs).length ≤ 2 * xs.length ∧ ∀ p ∈ bonds xs, p.2.length ≤ 2 * xs.length := by
  have : ∀ ys : List Lf, (bonds ys.reverse).length ≤ 2 * ys.length ∧ ∀ p ∈ bonds ys.reverse, p.2.length ≤ 2 * ys.length := by
    intro ys
    induction ys with
    | nil => exact ⟨Nat.le_refl _, fun _ h => nomatch h⟩
    | cons y ys ih =>
      rw [List.reverse_cons, bonds_snoc, List.length_cons]
      unfold bstep
      refine ⟨?_, fun p hp => ?_⟩
      · have h1 := badd_len (badd (bonds ys.reverse) y.1 y.2) y.2 y.1
        have h2 := badd_len (bonds ys.reverse) y.1 y.2
        omega
      · have h1 := badd_max _ y.2 y.1 (badd_max _ y.1 y.2 ih.2) p hp
        omega
  have := this xs.reverse
  rwa [List.reverse_reverse, List.length_reverse] at this
theorem look_mem (xs : List Lf) (k w : Int) : w ∈ look (bonds xs) k ↔ ∃ l ∈ xs, (l.1 = k ∧ l.2 = w) ∨ (l.2 = k ∧ l.1 = w) := by
  have : ∀ ys : List Lf, w ∈ look (bonds ys.reverse) k ↔ ∃ l ∈ ys, (l.1 = k ∧ l.2 = w) ∨ (l.2 = k ∧ l.1 = w) := by
    intro ys
    induction ys with
    | nil => exact ⟨(fun h => nomatch h), fun ⟨_, h, _⟩ => nomatch h⟩
    | cons y ys ih =>
      have e : w ∈ look (bonds (y :: ys).reverse) k ↔ w ∈ look (bonds ys.reverse) k ∨ (y.1 = k ∧ y.2 = w) ∨ (y.2 = k ∧ y.1 = w) := by
        rw [List.reverse_cons, bonds_snoc]
        unfold bstep
        rw [look_badd, look_badd]
        by_cases h1 : y.1 = k <;> by_cases h2 : y.2 = k <;> simp only [h1, h2, if_true, if_false, List.mem_append, List.mem_singleton, true_and, false_and, or_false, false_or]
        · constructor
          · rintro ((h | h) | h)
            · exact .inl h
            · exact .inr (.inl h.symm)
            · exact .inr (.inr h.symm)
          · rintro (h | h | h)
            · exact .inl (.inl h)
            · exact .inl (.inr h.symm)
            · exact .inr h.symm
        · exact or_congr_right eq_comm
        · exact or_congr_right eq_comm
      rw [e, ih]
      constructor
      · rintro (⟨l, h1, h2⟩ | h)
        · exact ⟨l, List.mem_cons_of_mem _ h1, h2⟩
        · exact ⟨y, List.mem_cons_self, h⟩
      · rintro ⟨l, h1, h2⟩
        rcases List.mem_cons.mp h1 with e | e
        · subst e; exact .inr h2
        · exact .inl ⟨l, e, h2⟩
  have := this xs.reverse
  rw [List.reverse_reverse] at this
  rw [this]
  exact ⟨fun ⟨l, h1, h2⟩ => ⟨l, List.mem_reverse.mp h1, h2⟩, fun ⟨l, h1, h2⟩ => ⟨l, List.mem_reverse.mpr h1, h2⟩⟩
/-- setdefault, append -/
theorem sd_e {i j h : Nat} {δ : List D} {B : Bo} {k v : Int} (hi : δ[i]? = some (.dict (bD B))) (hk : δ[j]? = some (.int k)) (hv : δ[h]? = some (.int v)) (hih : i ≠ h) (hs : B.length < 1000000) (hm : ∀ p ∈ B, p.2.length < 1000000) : sDrop (xSdK i (xV j) (xV h)) δ = some (.nx (δ.set i (.dict (bD (badd B k v))))) := by
  have sz : 1000000 < sizeLine := by decide
  have bl : (bD B).length = B.length := by simp [bD]
  refine drop_e (d := .none) ?_
  have eg : getDctK δ i = some (bD B) := by unfold getDctK; rw [hi]
  have et : (ikey (.int k)).isSome = true := rfl
  unfold xSdK xSdApp
  rw [xV_e, hk, Option.bind_some]
  simp only [et, if_true, eg, Option.bind_some]
  unfold sdK
  rw [if_pos (by omega)]
  rcases sd_at B k v with ⟨h1, h2⟩ | ⟨n, es, h1, h2, h3, p, hp, h4⟩
  · have e1 : (bD B ++ [(PyData.int k, PyData.list [])])[(bD B).length]? = some (PyData.int k, PyData.list []) := by rw [List.getElem?_append_right (Nat.le_refl _), Nat.sub_self]; rfl
    simp only [h1, Option.bind_some, xV_e, List.getElem?_set_ne hih, hv, e1]
    rw [if_pos (by show 0 < sizeLine; omega), List.set_append_right _ _ (Nat.le_refl _), Nat.sub_self]
    show some (PyData.none, δ.set i (.dict (bD B ++ [(PyData.int k, PyData.list [PyData.int v])]))) = _
    rw [h2]
  · have hes : (es.map PyData.int).length < sizeLine := by
      have := hm p hp
      rw [h4] at this
      rw [List.length_map]
      omega
    simp only [h1, Option.bind_some, xV_e, List.getElem?_set_ne hih, hv, h2]
    rw [if_pos hes, h3]
theorem f_bonds {d : D} {xs : List Lf} (hd : asSeq d = some (xs.map leafD)) (hl : xs.length ≤ 100000) : f_word_bonds [d] = some (.dict (bD (bonds xs)), [d]) := by
  have bz : ∀ j, (bonds (xs.take j)).length < 500000 ∧ ∀ p ∈ bonds (xs.take j), p.2.length < 500000 := fun j => by
    obtain ⟨h1, h2⟩ := bonds_sz (xs.take j)
    have h3 : (xs.take j).length ≤ xs.length := by rw [List.length_take]; omega
    exact ⟨by omega, fun p hp => by have := h2 p hp; omega⟩
  obtain ⟨δ', l, a, b, e⟩ := forL_inv (tg := gTupD [2, 3]) (b := sSeq (sDrop (xSdK 1 (xV 2) (xV 3))) (sDrop (xSdK 1 (xV 3) (xV 2)))) (fun j δ => ∃ a b, δ = [d, .dict (bD (bonds (xs.take j))), a, b]) (xs.map leafD) 0 [d, .dict [], .none, .none] ⟨.none, .none, by rw [List.take_zero]; rfl⟩ fun j dd δ hdd ⟨a, b, e⟩ => by
    subst e
    rw [Nat.zero_add]
    rw [List.getElem?_map] at hdd
    obtain ⟨l, hj, rfl⟩ := Option.map_eq_some_iff.mp hdd
    obtain ⟨b1, b2⟩ := bz j
    refine ⟨[d, .dict (bD (bonds (xs.take j))), .int l.1, .int l.2], [d, .dict (bD (bonds (xs.take (j + 1)))), .int l.1, .int l.2], rfl, ?_, .int l.1, .int l.2, rfl⟩
    have b3 := badd_len (bonds (xs.take j)) l.1 l.2
    have b4 := badd_max (m := 500000) (bonds (xs.take j)) l.1 l.2 fun p hp => by have := b2 p hp; omega
    rw [sSeq_nx (δ' := [d, .dict (bD (badd (bonds (xs.take j)) l.1 l.2)), .int l.1, .int l.2]) (sd_e (i := 1) (j := 2) (h := 3) rfl rfl rfl (by decide) (by omega) fun p hp => by have := b2 p hp; omega),
      sd_e (i := 1) (j := 3) (h := 2) (B := badd (bonds (xs.take j)) l.1 l.2) (k := l.2) (v := l.1) rfl rfl rfl (by decide) (by omega) fun p hp => by have := b4 p hp; omega]
    rw [take_step hj, bonds_snoc]
    rfl
  subst e
  rw [Nat.zero_add, List.length_map, List.take_length] at l
  have l2 : sFor (lSeq (xV 0)) (gTupD [2, 3]) (sSeq (sDrop (xSdK 1 (xV 2) (xV 3))) (sDrop (xSdK 1 (xV 3) (xV 2)))) [d, .dict [], .none, .none] = some (.nx [d, .dict (bD (bonds xs)), a, b]) := by
    have q : lSeq (xV 0) [d, .dict [], .none, .none] = some (xs.map leafD) := hd
    rw [sFor_e, q, Option.bind_some, l]
  have g : g_word_bonds [d, .none, .none, .none] = some (.rt (.dict (bD (bonds xs))) [d, .dict (bD (bonds xs)), a, b]) := by
    unfold g_word_bonds
    rw [sSeq_nx (δ' := [d, .dict [], .none, .none]) rfl, sSeq_nx l2]
    rfl
  unfold f_word_bonds
  rw [fnF_e]
  show (g_word_bonds [d, .none, .none, .none]).bind _ = _
  rw [g]
  rfl
end LawK02

set_option linter.all false
set_option maxRecDepth 10000
namespace LawK02
open PySem Pv
/-! k02: the piece of a word -/
/-- what has been met, what waits -/
structure Js (E : List Lf) (U : List Int) (s : Int) (R W : List Int) : Prop where
  nd : R.Nodup
  has : s ∈ R
  rch : ∀ w ∈ R, Rch E s w
  sub : ∀ w ∈ R, w ∈ U
  wt : ∀ w ∈ W, w ∈ R
  wnd : W.Nodup
def dstep (p : List Int × List Int) (w : Int) : List Int × List Int := if p.1.contains w then p else (p.1 ++ [w], p.2 ++ [w])
theorem dstep_in {R W : List Int} {n : Int} (c : R.contains n = true) : dstep (R, W) n = (R, W) := if_pos c
theorem dstep_out {R W : List Int} {n : Int} (c : ¬ R.contains n = true) : dstep (R, W) n = (R ++ [n], W ++ [n]) := if_neg c
def rD (R : List Int) : List (D × D) := R.map fun w => (.int w, .bool true)
theorem rD_pos (w : Int) : ∀ R : List Int, (posD (rD R) (.int w)).isSome = R.contains w
  | [] => rfl
  | r :: R => by
    show (posD ((PyData.int r, PyData.bool true) :: rD R) _).isSome = _
    rw [posD_cons, List.contains_cons]
    show (if PyData.eqv (.int r) (.int w) = true then some 0 else (posD (rD R) (.int w)).map (· + 1)).isSome = _
    rw [eqv_int]
    by_cases e : r = w
    · subst e
      rw [beq_self_eq_true, if_pos rfl, Bool.true_or]
      rfl
    · rw [beq_eq_false_iff_ne.mpr e, beq_eq_false_iff_ne.mpr (fun z => e z.symm), if_neg Bool.false_ne_true, Option.isSome_map, rD_pos w R, Bool.false_or]
theorem dct_rD (R : List Int) : dictOf (.dict (rD R)) = some (false, rD R) := by
  cases R <;> rfl
theorem dct_bD (B : Bo) : dictOf (.dict (bD B)) = some (false, bD B) := by
  cases B <;> rfl
def pBody : SF := sIf (bE (x2 dDNotIn (xV 5) (xV 2))) (sSeq (sPutK 2 (mOf (xK (.bool true))) (xV 5)) (sDrop (xApp 3 (mOf (xV 5))))) sNil
theorem pBody_e (B s h : D) (R W : List Int) (w : Int) (h1 : R.length ≤ 900000) (h2 : W.length ≤ 900000) : pBody [B, s, .dict (rD R), .list (W.map .int), h, .int w] = some (.nx [B, s, .dict (rD (dstep (R, W) w).1), .list ((dstep (R, W) w).2.map .int), h, .int w]) := by
  have sz : 1000000 < sizeLine := by decide
  have c : bE (x2 dDNotIn (xV 5) (xV 2)) [B, s, .dict (rD R), .list (W.map .int), h, .int w] = some (!R.contains w) := by
    show (dDNotIn (.int w) (.dict (rD R))).bind toB = _
    unfold dDNotIn
    rw [dct_rD, Option.bind_some]
    show (if (true : Bool) = true then some (PyData.bool (!(posD (rD R) (.int w)).isSome)) else none).bind toB = _
    rw [if_pos rfl, rD_pos]
    rfl
  unfold pBody
  rw [sIf_e, c, Option.bind_some]
  cases e : R.contains w with
  | true =>
    rw [dstep_in e, if_neg (by decide)]
    rfl
  | false =>
    rw [dstep_out (by rw [e]; exact Bool.false_ne_true), if_pos (by decide)]
    have p1 : sPutK 2 (mOf (xK (.bool true))) (xV 5) [B, s, .dict (rD R), .list (W.map .int), h, .int w] = some (.nx [B, s, .dict (rD (R ++ [w])), .list (W.map .int), h, .int w]) := by
      have rl : (rD R).length < sizeLine := by unfold rD; rw [List.length_map]; omega
      have ep : putD (rD R) (.int w) (.bool true) = rD (R ++ [w]) := by
        unfold putD
        rw [rD_pos, e, if_neg Bool.false_ne_true]
        unfold rD
        rw [List.map_append]
        rfl
      show (if (rD R).length < sizeLine then some (Out.nx [B, s, .dict (putD (rD R) (.int w) (.bool true)), .list (W.map .int), h, .int w]) else none) = _
      rw [if_pos rl, ep]
    rw [sSeq_nx p1]
    refine drop_e (d := .none) ?_
    rw [app_e (y := .int w) (ds := W.map .int) rfl rfl (by rw [List.length_map]; omega)]
    show some (PyData.none, [B, s, .dict (rD (R ++ [w])), .list (W.map .int ++ [.int w]), h, .int w]) = some (PyData.none, [B, s, .dict (rD (R ++ [w])), .list ((W ++ [w]).map .int), h, .int w])
    rw [List.map_append]
    rfl
/-- a word's neighbours met -/
theorem dfold {E : List Lf} {U : List Int} {s : Int} : ∀ (nb R W : List Int), (∀ w ∈ nb, Rch E s w ∧ w ∈ U) → Js E U s R W →
    ∃ t, (nb.foldl dstep (R, W)).1 = R ++ t ∧ (nb.foldl dstep (R, W)).2 = W ++ t ∧ Js E U s (R ++ t) (W ++ t) ∧ ∀ w ∈ nb, w ∈ R ++ t
  | [], R, W, _, j => ⟨[], by simp, by simp, by simpa using j, fun _ h => nomatch h⟩
  | n :: nb, R, W, hn, j => by
    rw [List.foldl_cons]
    have hn' : ∀ w ∈ nb, Rch E s w ∧ w ∈ U := fun w hw => hn w (List.mem_cons_of_mem _ hw)
    by_cases c : R.contains n = true
    · rw [dstep_in c]
      obtain ⟨t, h1, h2, h3, h4⟩ := dfold nb R W hn' j
      refine ⟨t, h1, h2, h3, fun w hw => ?_⟩
      rcases List.mem_cons.mp hw with e | e
      · rw [e]; exact List.mem_append_left _ (by simpa using c)
      · exact h4 w e
    · rw [dstep_out c]
      have hc : n ∉ R := fun z => c (by simpa using z)
      have j2 : Js E U s (R ++ [n]) (W ++ [n]) := ⟨nd_snoc j.nd hc, List.mem_append_left _ j.has, fun w hw => by
        rcases List.mem_append.mp hw with h | h
        · exact j.rch w h
        · have : w = n := (by simpa using h)
          rw [this]; exact (hn n List.mem_cons_self).1, fun w hw => by
        rcases List.mem_append.mp hw with h | h
        · exact j.sub w h
        · have : w = n := (by simpa using h)
          rw [this]; exact (hn n List.mem_cons_self).2, fun w hw => by
        rcases List.mem_append.mp hw with h | h
        · exact List.mem_append_left _ (j.wt w h)
        · exact List.mem_append_right _ h, nd_snoc j.wnd fun z => hc (j.wt n z)⟩
      obtain ⟨t, h1, h2, h3, h4⟩ := dfold nb (R ++ [n]) (W ++ [n]) hn' j2
      refine ⟨n :: t, by rw [h1, List.append_assoc]; rfl, by rw [h2, List.append_assoc]; rfl, by rw [List.append_assoc, List.append_assoc] at h3; exact h3, fun w hw => ?_⟩
      rcases List.mem_cons.mp hw with e | e
      · rw [e]; simp
      · have := h4 w e
        rw [List.append_assoc] at this
        exact this
theorem while_inv {c : BF} {b : SF} (I : Nat → List D → Prop) (st : ∀ m δ, I m δ → c δ = some false ∨ (c δ = some true ∧ ∃ m' δ', m' < m ∧ b δ = some (.nx δ') ∧ I m' δ')) : ∀ (m n : Nat) (δ : List D), m < n → I m δ → ∃ m' δ', whileL c b n δ = some (.nx δ') ∧ I m' δ' ∧ c δ' = some false := by
  intro m
  induction m using Nat.strongRecOn with
  | _ m ih =>
    intro n δ hn hi
    cases n with
    | zero => omega
    | succ n =>
      rcases st m δ hi with h | ⟨h, m', δ', hm, hb, hi'⟩
      · refine ⟨m, δ, ?_, hi, h⟩
        rw [whileL, h]
        rfl
      · obtain ⟨m2, δ2, q1, q2, q3⟩ := ih m' hm n δ' (by omega) hi'
        refine ⟨m2, δ2, ?_, q2, q3⟩
        rw [whileL, h, Option.bind_some, if_pos rfl, hb]
        exact q1
def wBody : SF := sSeq (sSetM 4 (xPop 3)) (sFor (lSeq (xDGet2 (xV 0) (xV 4) (xK (.list [])))) (gSet 5) pBody)
theorem wBody_e {E : List Lf} {U : List Int} {s : Int} (hU : ∀ l ∈ E, l.1 ∈ U ∧ l.2 ∈ U) (hu : U.length ≤ 1000) (R W : List Int) (w : Int) (a b : D) (j : Js E U s R (W ++ [w])) (hW : (W ++ [w]).length ≤ 1000) :
    ∃ t a' b', wBody [.dict (bD (bonds E)), .int s, .dict (rD R), .list ((W ++ [w]).map .int), a, b] = some (.nx [.dict (bD (bonds E)), .int s, .dict (rD (R ++ t)), .list ((W ++ t).map .int), a', b']) ∧ Js E U s (R ++ t) (W ++ t) ∧ ∀ v, v ∈ look (bonds E) w → v ∈ R ++ t := by
  have jr : w ∈ R := j.wt w (by simp)
  have j1 : Js E U s R W := ⟨j.nd, j.has, j.rch, j.sub, fun v hv => j.wt v (List.mem_append_left _ hv), (List.nodup_append.mp j.wnd).1⟩
  have hnb : ∀ v ∈ look (bonds E) w, Rch E s v ∧ v ∈ U := fun v hv => by
    obtain ⟨l, hl, h⟩ := (look_mem E w v).mp hv
    have hr := j.rch w jr
    rcases h with ⟨e1, e2⟩ | ⟨e1, e2⟩
    · subst e2
      rw [← e1] at hr
      exact ⟨.fwd hl hr, (hU l hl).2⟩
    · subst e2
      rw [← e1] at hr
      exact ⟨.bwd hl hr, (hU l hl).1⟩
  obtain ⟨t, t1, t2, t3, t4⟩ := dfold (look (bonds E) w) R W hnb j1
  have u1 : sSetM 4 (xPop 3) [.dict (bD (bonds E)), .int s, .dict (rD R), .list ((W ++ [w]).map .int), a, b] = some (.nx [.dict (bD (bonds E)), .int s, .dict (rD R), .list (W.map .int), .int w, b]) := by
    have e : xPop 3 [.dict (bD (bonds E)), .int s, .dict (rD R), .list ((W ++ [w]).map .int), a, b] = some (.int w, [.dict (bD (bonds E)), .int s, .dict (rD R), .list (W.map .int), a, b]) := by
      show (getL [.dict (bD (bonds E)), .int s, .dict (rD R), .list ((W ++ [w]).map .int), a, b] 3).bind _ = _
      rw [getL_e (ds := (W ++ [w]).map .int) rfl, Option.bind_some, List.map_append, List.map_cons, List.map_nil, List.getLast?_append, List.dropLast_concat]
      rfl
    rw [sSetM_e, e]
    rfl
  have q : lSeq (xDGet2 (xV 0) (xV 4) (xK (.list []))) [.dict (bD (bonds E)), .int s, .dict (rD R), .list (W.map .int), .int w, b] = some ((look (bonds E) w).map .int) := by
    have e : xDGet2 (xV 0) (xV 4) (xK (.list [])) [.dict (bD (bonds E)), .int s, .dict (rD R), .list (W.map .int), .int w, b] = some (.list ((look (bonds E) w).map .int)) := by
      show ((dictOf (.dict (bD (bonds E)))).bind fun p => if keyOk p.1 (.int w) then some ((getD' p.2 (.int w)).getD (.list [])) else none) = _
      rw [dct_bD, Option.bind_some]
      show (if (true : Bool) = true then some ((getD' (bD (bonds E)) (.int w)).getD (.list [])) else none) = _
      rw [if_pos rfl]
      rcases look_at (bonds E) w with ⟨h1, h2⟩ | h
      · rw [h1, h2]; rfl
      · rw [h]; rfl
    rw [lSeq_e, e]
    rfl
  have len : ∀ k, ∃ t', ((look (bonds E) w).take k).foldl dstep (R, W) = (R ++ t', W ++ t') ∧ (R ++ t').length ≤ 1000 ∧ (W ++ t').length ≤ 2000 := fun k => by
    obtain ⟨t', h1, h2, h3, h4⟩ := dfold ((look (bonds E) w).take k) R W (fun v hv => hnb v (List.mem_of_mem_take hv)) j1
    have hl := h3.nd.length_le_of_subset (l₂ := U) h3.sub
    refine ⟨t', Prod.ext h1 h2, by omega, ?_⟩
    rw [List.length_append] at hl hW ⊢
    omega
  obtain ⟨δ', l, b', e⟩ := forL_inv (tg := gSet 5) (b := pBody) (fun k δ => ∃ b, δ = [.dict (bD (bonds E)), .int s, .dict (rD (((look (bonds E) w).take k).foldl dstep (R, W)).1), .list ((((look (bonds E) w).take k).foldl dstep (R, W)).2.map .int), .int w, b]) ((look (bonds E) w).map .int) 0
    [.dict (bD (bonds E)), .int s, .dict (rD R), .list (W.map .int), .int w, b] ⟨b, by rw [List.take_zero]; rfl⟩ fun k d δ hd ⟨b, e⟩ => by
      subst e
      rw [Nat.zero_add]
      rw [List.getElem?_map] at hd
      obtain ⟨v, hv, rfl⟩ := Option.map_eq_some_iff.mp hd
      obtain ⟨t', h1, h2, h3⟩ := len k
      have tk : (look (bonds E) w).take (k + 1) = (look (bonds E) w).take k ++ [v] := by rw [List.take_succ, hv]; rfl
      rw [tk, List.foldl_append, h1]
      refine ⟨_, _, rfl, pBody_e _ _ _ (R ++ t') (W ++ t') v (by omega) (by omega), .int v, rfl⟩
  subst e
  rw [Nat.zero_add, List.length_map, List.take_length, t1, t2] at l
  refine ⟨t, .int w, b', ?_, t3, t4⟩
  unfold wBody
  rw [sSeq_nx u1, sFor_e, q, Option.bind_some, l]
/-- the words that hang together with s, ascending -/
theorem f_piece {E : List Lf} {U : List Int} {s : Int} (hU : ∀ l ∈ E, l.1 ∈ U ∧ l.2 ∈ U) (ha : U.Pairwise (· < ·)) (hu : U.length ≤ 1000) (hs : s ∈ U) :
    ∃ c : List Int, f_piece_by [.dict (bD (bonds E)), .int s] = some (lotD c, [.dict (bD (bonds E)), .int s]) ∧ c.Pairwise (· < ·) ∧ (∀ w, w ∈ c ↔ Rch E s w) ∧ ∀ w ∈ c, w ∈ U := by
  have u1 : sSet 2 (xDict1 (xV 1) (xK (.bool true))) [.dict (bD (bonds E)), .int s, .none, .none, .none, .none] = some (.nx [.dict (bD (bonds E)), .int s, .dict (rD [s]), .none, .none, .none]) := rfl
  have u2 : sSet 3 (xL mkLst (xCons (xV 1) xNil)) [.dict (bD (bonds E)), .int s, .dict (rD [s]), .none, .none, .none] = some (.nx [.dict (bD (bonds E)), .int s, .dict (rD [s]), .list (([s] : List Int).map .int), .none, .none]) := by
    have : mkLst [.int s] = some (.list [.int s]) := mkL _ (by simp)
    rw [sSet_e, xL_e]
    show (mkLst [.int s]).bind _ = _
    rw [this]
    rfl
  have j0 : Js E U s [s] [s] := ⟨by simp, by simp, fun w hw => by have : w = s := (by simpa using hw); rw [this]; exact .refl, fun w hw => by have : w = s := (by simpa using hw); rw [this]; exact hs, fun _ h => h, by simp⟩
  have tr : ∀ (W : List Int) (x y a b : D), bTr (xV 3) [x, y, a, .list (W.map .int), b] = some (!W.isEmpty) := fun W x y a b => by
    show some (!(W.map PyData.int).isEmpty) = _
    cases W <;> rfl
  obtain ⟨m', δ', hw, ⟨R, W, a, b, e, jj, hm, hx⟩, hc⟩ := while_inv (c := bTr (xV 3)) (b := wBody) (fun m δ => ∃ R W a b, δ = [.dict (bD (bonds E)), .int s, .dict (rD R), .list (W.map .int), a, b] ∧ Js E U s R W ∧ U.length + W.length ≤ m + R.length ∧ ∀ w ∈ R, w ∈ W ∨ ∀ v, v ∈ look (bonds E) w → v ∈ R)
    (fun m δ ⟨R, W, a, b, e, jj, hm, hx⟩ => by
      subst e
      cases hW : W.getLast? with
      | none =>
        have : W = [] := by simpa using hW
        subst this
        exact .inl rfl
      | some w =>
        have hne : W ≠ [] := fun z => by subst z; cases hW
        have eW : W = W.dropLast ++ [w] := by
          have h1 := List.dropLast_concat_getLast hne
          rw [List.getLast?_eq_some_getLast hne] at hW
          rw [← Option.some.inj hW]
          exact h1.symm
        have hUl := jj.nd.length_le_of_subset (l₂ := U) jj.sub
        obtain ⟨V, rfl⟩ : ∃ V, W = V ++ [w] := ⟨_, eW⟩
        have hWl := jj.wnd.length_le_of_subset (l₂ := U) fun v hv => jj.sub v (jj.wt v hv)
        have hl : (V ++ [w]).length ≤ 1000 := by omega
        obtain ⟨t, a', b', h1, h2, h3⟩ := wBody_e hU hu R V w a b jj hl
        have hUl2 := h2.nd.length_le_of_subset (l₂ := U) h2.sub
        refine .inr ⟨?_, m - 1, _, ?_, h1, R ++ t, V ++ t, a', b', rfl, h2, ?_, fun v hv => ?_⟩
        · show some (!((V ++ [w]).map PyData.int).isEmpty) = some true
          cases V <;> rfl
        · simp only [List.length_append, List.length_singleton] at hm hUl2 hUl
          omega
        · simp only [List.length_append, List.length_singleton] at hm hUl2 hUl ⊢
          omega
        · rcases List.mem_append.mp hv with h | h
          · rcases hx v h with q | q
            · rcases List.mem_append.mp q with r | r
              · exact .inl (List.mem_append_left _ r)
              · have : v = w := (by simpa using r)
                subst this
                exact .inr fun u hu => h3 u hu
            · exact .inr fun u hu => List.mem_append_left _ (q u hu)
          · exact .inl (List.mem_append_right _ h)) (U.length + 1) fuelD [.dict (bD (bonds E)), .int s, .dict (rD [s]), .list (([s] : List Int).map .int), .none, .none] (by show U.length + 1 < 1000000000; omega) ⟨[s], [s], .none, .none, rfl, j0, by simp, fun w hw => .inl hw⟩
  subst e
  have hW : W = [] := by
    have h : (!((W.map PyData.int).isEmpty)) = false := Option.some.inj hc
    cases W with
    | nil => rfl
    | cons => cases h
  subst hW
  have all : ∀ w, w ∈ R ↔ Rch E s w := fun w => by
    refine ⟨jj.rch w, fun h => ?_⟩
    have clo : ∀ w ∈ R, ∀ v, v ∈ look (bonds E) w → v ∈ R := fun w hw => (hx w hw).resolve_left fun z => nomatch z
    induction h with
    | refl => exact jj.has
    | fwd hl _ ih => exact clo _ ih _ ((look_mem E _ _).mpr ⟨_, hl, .inl ⟨rfl, rfl⟩⟩)
    | bwd hl _ ih => exact clo _ ih _ ((look_mem E _ _).mpr ⟨_, hl, .inr ⟨rfl, rfl⟩⟩)
  have hcc : (U.filter fun w => R.contains w).Pairwise (· < ·) := ha.filter _
  have hperm : R.Perm (U.filter fun w => R.contains w) := (List.perm_ext_iff_of_nodup jj.nd (asc_nd hcc)).mpr fun w => by
    rw [List.mem_filter]
    exact ⟨fun h => ⟨jj.sub w h, by simpa using h⟩, fun h => by simpa using h.2⟩
  refine ⟨U.filter fun w => R.contains w, ?_, hcc, fun w => by rw [← hperm.mem_iff, all], fun w hw => (List.mem_filter.mp hw).1⟩
  have r : sRet (xL oTup (xCons (x1 oSorted (xL oLstD (xCons (xV 2) xNil))) xNil)) [.dict (bD (bonds E)), .int s, .dict (rD R), .list (([] : List Int).map .int), a, b] = some (.rt (lotD (U.filter fun w => R.contains w)) [.dict (bD (bonds E)), .int s, .dict (rD R), .list (([] : List Int).map .int), a, b]) := by
    have o1 : xL oLstD (xCons (xV 2) xNil) [.dict (bD (bonds E)), .int s, .dict (rD R), .list (([] : List Int).map .int), a, b] = some (.list (R.map .int)) := by
      show ((dictOf (.dict (rD R))).bind fun p => if p.1 then none else some (PyData.list (p.2.map Prod.fst))) = _
      rw [dct_rD, Option.bind_some]
      show some (PyData.list ((rD R).map Prod.fst)) = _
      unfold rD
      rw [List.map_map]
      rfl
    have o2 := sorted_ints hcc hperm
    rw [sRet_e, xL_e, xCons_e, x1_e, o1, Option.bind_some, o2]
    rfl
  have g : g_piece_by [.dict (bD (bonds E)), .int s, .none, .none, .none, .none] = some (.rt (lotD (U.filter fun w => R.contains w)) [.dict (bD (bonds E)), .int s, .dict (rD R), .list (([] : List Int).map .int), a, b]) := by
    have hw' : sWhile (bTr (xV 3)) wBody [.dict (bD (bonds E)), .int s, .dict (rD [s]), .list (([s] : List Int).map .int), .none, .none] = some (.nx [.dict (bD (bonds E)), .int s, .dict (rD R), .list (([] : List Int).map .int), a, b]) := hw
    unfold wBody pBody at hw'
    unfold g_piece_by
    rw [sSeq_nx u1, sSeq_nx u2, sSeq_nx hw']
    exact r
  unfold f_piece_by
  rw [fnF_e]
  show (g_piece_by [.dict (bD (bonds E)), .int s, .none, .none, .none, .none]).bind _ = _
  rw [g]
  rfl
end LawK02

set_option linter.all false
set_option maxRecDepth 10000
namespace LawK02
open PySem Pv
/-! k02: parted in two -/
def lef : List Int → Nat → List Int
  | [], _ => []
  | w :: ws, m => if m % 2 = 0 then w :: lef ws (m / 2) else lef ws (m / 2)
theorem lef_sub : ∀ (ws : List Int) (m : Nat), ∀ w ∈ lef ws m, w ∈ ws
  | [], _, _, h => nomatch h
  | x :: ws, m, w, h => by
    unfold lef at h
    split at h
    · rcases List.mem_cons.mp h with e | e
      · rw [e]; exact List.mem_cons_self
      · exact List.mem_cons_of_mem _ (lef_sub ws _ w e)
    · exact List.mem_cons_of_mem _ (lef_sub ws _ w h)
/-- who takes all has the number nought -/
theorem lef_all : ∀ (ws : List Int) (m : Nat), ws.Nodup → m < 2 ^ ws.length → (∀ w ∈ ws, w ∈ lef ws m) → m = 0
  | [], m, _, h, _ => by simp at h; exact h
  | x :: ws, m, nd, h, q => by
    have nd2 := List.nodup_cons.mp nd
    have h0 := q x List.mem_cons_self
    unfold lef at h0
    split at h0
    · rename_i he
      have h2 : m / 2 < 2 ^ ws.length := by
        rw [List.length_cons, Nat.pow_succ] at h
        omega
      have ih := lef_all ws (m / 2) nd2.2 h2 fun w hw => by
        have h1 := q w (List.mem_cons_of_mem _ hw)
        unfold lef at h1
        rw [if_pos he] at h1
        rcases List.mem_cons.mp h1 with e | e
        · exact absurd (e ▸ hw) nd2.1
        · exact e
      omega
    · exact absurd (lef_sub ws _ x h0) nd2.1
open Classical in
/-- the number whose left part is C's -/
noncomputable def num (C : Int → Prop) : List Int → Nat
  | [] => 0
  | w :: ws => (if C w then 0 else 1) + 2 * num C ws
theorem num_lt (C : Int → Prop) : ∀ ws : List Int, num C ws < 2 ^ ws.length
  | [] => Nat.lt_succ_self 0
  | w :: ws => by
    have := num_lt C ws
    rw [List.length_cons, Nat.pow_succ]
    unfold num
    split <;> omega
theorem num_pos (C : Int → Prop) : ∀ ws : List Int, (∃ w ∈ ws, ¬ C w) → 1 ≤ num C ws
  | [], ⟨_, h, _⟩ => nomatch h
  | w :: ws, ⟨v, h, q⟩ => by
    unfold num
    split
    · rename_i hc
      rcases List.mem_cons.mp h with e | e
      · exact absurd (e ▸ hc) q
      · have := num_pos C ws ⟨v, e, q⟩
        omega
    · omega
theorem num_lef (C : Int → Prop) : ∀ (ws : List Int) (w : Int), w ∈ lef ws (num C ws) ↔ w ∈ ws ∧ C w
  | [], _ => ⟨(fun h => nomatch h), fun h => nomatch h.1⟩
  | x :: ws, w => by
    have ih := num_lef C ws w
    unfold num
    by_cases hc : C x
    · rw [if_pos hc]
      unfold lef
      rw [if_pos (by omega), show (0 + 2 * num C ws) / 2 = num C ws by omega, List.mem_cons, List.mem_cons, ih]
      constructor
      · rintro (e | e)
        · exact ⟨.inl e, e ▸ hc⟩
        · exact ⟨.inr e.1, e.2⟩
      · rintro ⟨e | e, h⟩
        · exact .inl e
        · exact .inr ⟨e, h⟩
    · rw [if_neg hc]
      unfold lef
      rw [if_neg (by omega), show (1 + 2 * num C ws) / 2 = num C ws by omega, List.mem_cons, ih]
      constructor
      · exact fun e => ⟨.inr e.1, e.2⟩
      · rintro ⟨e | e, h⟩
        · exact absurd (e ▸ h) hc
        · exact ⟨e, h⟩
/-- no leaf of the part has one end in the left half alone -/
def uncut (ls : List Lf) (part left : List Int) : Bool := decide (((ls.filter (inn part)).filter fun l => left.contains l.1 != left.contains l.2).length = 0)
theorem uncut_iff {ls : List Lf} {part left : List Int} : uncut ls part left = true ↔ ∀ l ∈ ls.filter (inn part), (l.1 ∈ left ↔ l.2 ∈ left) := by
  unfold uncut
  rw [decide_eq_true_iff, List.length_eq_zero_iff, List.filter_eq_nil_iff]
  refine forall_congr' fun l => forall_congr' fun _ => ?_
  by_cases h1 : l.1 ∈ left <;> by_cases h2 : l.2 ∈ left <;> simp [h1, h2]
theorem part_iff (ls : List Lf) (s : Int) (tl : List Int) (nd : (s :: tl).Nodup) : (∃ m, 1 ≤ m ∧ m < 2 ^ tl.length ∧ uncut ls (s :: tl) (s :: lef tl m) = true) ↔ ¬ ∀ w ∈ s :: tl, Rch (ls.filter (inn (s :: tl))) s w := by
  have nd2 := List.nodup_cons.mp nd
  constructor
  · rintro ⟨m, h1, h2, h3⟩ all
    have u := uncut_iff.mp h3
    have clo : ∀ w, Rch (ls.filter (inn (s :: tl))) s w → w ∈ s :: lef tl m := fun w h => by
      induction h with
      | refl => exact List.mem_cons_self
      | fwd hl _ ih => exact (u _ hl).mp ih
      | bwd hl _ ih => exact (u _ hl).mpr ih
    have := lef_all tl m nd2.2 h2 fun w hw => by
      rcases List.mem_cons.mp (clo w (all w (List.mem_cons_of_mem _ hw))) with e | e
      · exact absurd (e ▸ hw) nd2.1
      · exact e
    omega
  · intro h
    have ⟨w, hw, hn⟩ : ∃ w, w ∈ tl ∧ ¬ Rch (ls.filter (inn (s :: tl))) s w := Classical.byContradiction fun z => h fun w hw => by
      rcases List.mem_cons.mp hw with e | e
      · rw [e]; exact .refl
      · exact Classical.byContradiction fun q => z ⟨w, e, q⟩
    refine ⟨num (Rch (ls.filter (inn (s :: tl))) s) tl, num_pos _ _ ⟨w, hw, hn⟩, num_lt _ _, uncut_iff.mpr fun l hl => ?_⟩
    obtain ⟨_, q1, q2⟩ := inn_mem.mp hl
    have key : ∀ x, x ∈ s :: tl → (x ∈ s :: lef tl (num (Rch (ls.filter (inn (s :: tl))) s) tl) ↔ Rch (ls.filter (inn (s :: tl))) s x) := fun x hx => by
      rw [List.mem_cons, num_lef]
      constructor
      · rintro (e | e)
        · rw [e]; exact .refl
        · exact e.2
      · intro hr
        rcases List.mem_cons.mp hx with e | e
        · exact .inl e
        · exact .inr ⟨e, hr⟩
    rw [key _ q1, key _ q2]
    exact ⟨fun h => .fwd hl h, fun h => .bwd hl h⟩
/-! ### the code -/
/-- a loop that returns True at the first -/
theorem forL_find {tg : D → List D → Option (List D)} {b : SF} (I J : List D → Prop) : ∀ (ds : List D) (P : D → Bool) (δ : List D), I δ →
    (∀ d ∈ ds, ∀ δ, I δ → ∃ δ1 δ2, tg d δ = some δ1 ∧ ((P d = true ∧ b δ1 = some (.rt (.bool true) δ2) ∧ J δ2) ∨ (P d = false ∧ b δ1 = some (.nx δ2) ∧ I δ2))) →
    (ds.any P = true ∧ ∃ δ', forL tg b ds δ = some (.rt (.bool true) δ') ∧ J δ') ∨ (ds.any P = false ∧ ∃ δ', forL tg b ds δ = some (.nx δ') ∧ I δ')
  | [], P, δ, h, _ => .inr ⟨rfl, δ, rfl, h⟩
  | d :: ds, P, δ, h, st => by
    obtain ⟨δ1, δ2, e1, h2⟩ := st d List.mem_cons_self δ h
    rcases h2 with ⟨p, e2, hJ⟩ | ⟨p, e2, h2⟩
    · refine .inl ⟨by rw [List.any_cons, p]; rfl, δ2, ?_, hJ⟩
      unfold forL
      rw [e1, Option.bind_some, e2]
      rfl
    · rw [List.any_cons, p, Bool.false_or]
      have ih := forL_find I J ds P δ2 h2 fun d hd => st d (List.mem_cons_of_mem _ hd)
      unfold forL
      rw [e1, Option.bind_some, e2]
      exact ih
theorem lef_snoc : ∀ (ws : List Int) (w : Int) (m : Nat), lef (ws ++ [w]) m = lef ws m ++ (if m / 2 ^ ws.length % 2 = 0 then [w] else [])
  | [], w, m => by
    simp [lef]
  | x :: ws, w, m => by
    rw [List.cons_append]
    unfold lef
    rw [lef_snoc ws w (m / 2), List.length_cons, Nat.pow_succ, Nat.div_div_eq_div_mul, Nat.mul_comm 2]
    split <;> rfl
def qBody : SF := sSeq (sIf (bE (x2 dEq (x2 dMd (xL oInt (xCons (xV 8) xNil)) (xK (.int 2))) (xK (.int 0)))) (sDrop (xApp 7 (mOf (x2 dIx (xV 1) (xV 5))))) sNil) (sSet 8 (x2 dFd (xV 8) (xK (.int 2))))
theorem qBody_e (L i h n b : D) {part left : List Int} {k : Nat} {w : Int} {r : Nat} (hw : part[k]? = some w) (hl : left.length ≤ 90000) :
    qBody [L, lotD part, i, .none, h, .int k, n, .list (left.map .int), .int r, b] = some (.nx [L, lotD part, i, .none, h, .int k, n, .list ((left ++ if r % 2 = 0 then [w] else []).map .int), .int ((r / 2 : Nat) : Int), b]) := by
  have sz := size_le
  have c : bE (x2 dEq (x2 dMd (xL oInt (xCons (xV 8) xNil)) (xK (.int 2))) (xK (.int 0))) [L, lotD part, i, .none, h, .int k, n, .list (left.map .int), .int r, b] = some (decide (r % 2 = 0)) := by
    have md : dMd (.int r) (.int 2) = some (.int ((r : Int) % 2)) := dMd_e (by omega)
    show (((dMd (.int r) (.int 2)).bind fun x => dEq x (.int 0))).bind toB = _
    rw [md, Option.bind_some, dEq_e, Option.bind_some, toB_e]
    congr 1
    rw [Bool.eq_iff_iff, beq_iff_eq, decide_eq_true_iff]
    omega
  have s2 : ∀ l : D, sSet 8 (x2 dFd (xV 8) (xK (.int 2))) [L, lotD part, i, .none, h, .int k, n, l, .int r, b] = some (.nx [L, lotD part, i, .none, h, .int k, n, l, .int ((r / 2 : Nat) : Int), b]) := fun l => by
    have fd : dFd (.int r) (.int 2) = some (.int ((r : Int) / 2)) := dFd_e (by omega) (by decide)
    rw [sSet_e]
    show (dFd (.int r) (.int 2)).bind _ = _
    rw [fd]
    rfl
  unfold qBody
  by_cases e : r % 2 = 0
  · have i1 : x2 dIx (xV 1) (xV 5) [L, lotD part, i, .none, h, .int k, n, .list (left.map .int), .int r, b] = some (.int w) := by
      show L2.atI (part.map PyData.int) (k : Int) = _
      rw [atI_nat (by rw [List.length_map]; exact (List.getElem?_eq_some_iff.mp hw).1), List.getElem?_map, hw]
      rfl
    have s1 : sIf (bE (x2 dEq (x2 dMd (xL oInt (xCons (xV 8) xNil)) (xK (.int 2))) (xK (.int 0)))) (sDrop (xApp 7 (mOf (x2 dIx (xV 1) (xV 5))))) sNil [L, lotD part, i, .none, h, .int k, n, .list (left.map .int), .int r, b] = some (.nx [L, lotD part, i, .none, h, .int k, n, .list ((left ++ [w]).map .int), .int r, b]) := by
      rw [sIf_e, c, Option.bind_some, if_pos (decide_eq_true e)]
      refine drop_e (d := .none) ?_
      rw [app_e (y := .int w) (ds := left.map .int) i1 rfl (by rw [List.length_map]; omega)]
      show some (PyData.none, [L, lotD part, i, .none, h, .int k, n, .list (left.map .int ++ [.int w]), .int r, b]) = some (PyData.none, [L, lotD part, i, .none, h, .int k, n, .list ((left ++ [w]).map .int), .int r, b])
      rw [List.map_append]
      rfl
    rw [sSeq_nx s1, s2, if_pos e]
  · have s1 : sIf (bE (x2 dEq (x2 dMd (xL oInt (xCons (xV 8) xNil)) (xK (.int 2))) (xK (.int 0)))) (sDrop (xApp 7 (mOf (x2 dIx (xV 1) (xV 5))))) sNil [L, lotD part, i, .none, h, .int k, n, .list (left.map .int), .int r, b] = some (.nx [L, lotD part, i, .none, h, .int k, n, .list (left.map .int), .int r, b]) := by
      rw [sIf_e, c, Option.bind_some, decide_eq_false e]
      rfl
    rw [sSeq_nx s1, s2, if_neg e, List.append_nil]
end LawK02

set_option linter.all false
set_option maxRecDepth 10000
namespace LawK02
open PySem Pv
/-! k02: parted, the code -/
theorem dNe_b (a b : Bool) : dNe (.bool a) (.bool b) = some (.bool (a != b)) := by cases a <;> cases b <;> rfl
theorem rng2_e {n : Nat} (h : n ≤ 1000000) : rng2 [.int 1, .int ((1 + n : Nat) : Int)] = some (rngD 1 n) := by
  have e : rng2 [.int 1, .int ((1 + n : Nat) : Int)] = if (-(2 ^ 62) ≤ (1 : Int) ∧ (1 : Int) < 2 ^ 62) ∧ (-(2 ^ 62) ≤ ((1 + n : Nat) : Int) ∧ ((1 + n : Nat) : Int) < 2 ^ 62) then some (rngD 1 (((1 + n : Nat) : Int) - 1).toNat) else none := rfl
  have e2 : (((1 + n : Nat) : Int) - 1).toNat = n := by omega
  rw [e, if_pos ⟨⟨by omega, by omega⟩, by omega, by omega⟩, e2]
theorem rngD1_get {n j : Nat} {d : D} (h : (rngD 1 n)[j]? = some d) : d = .int ((1 + j : Nat) : Int) ∧ j < n := by
  unfold rngD at h
  rw [List.getElem?_map] at h
  obtain ⟨k, h1, rfl⟩ := Option.map_eq_some_iff.mp h
  obtain ⟨h2, h3⟩ := List.getElem?_eq_some_iff.mp h1
  rw [List.length_range] at h2
  rw [List.getElem_range] at h3
  subst h3
  exact ⟨by congr 1, h2⟩
theorem rngD1_len (n : Nat) : (rngD 1 n).length = n := by simp [rngD]
theorem lef_len : ∀ (ws : List Int) (m : Nat), (lef ws m).length ≤ ws.length
  | [], _ => Nat.le_refl _
  | w :: ws, m => by
    have := lef_len ws (m / 2)
    unfold lef
    split <;> simp only [List.length_cons] <;> omega
def vBody : SF := sSeq (sSet 7 (xL mkLst (xCons (x2 dIx (xV 1) (xK (.int 0))) xNil))) (sSeq (sSet 8 (xV 6)) (sSeq (sFor (lOf rng2 (xCons (xK (.int 1)) (xCons (xL oLen (xCons (xV 1) xNil)) xNil))) (gSet 5) qBody) (sSeq (sSet 9 (xCmp (lSeq (xV 2)) (gSet 3) (bE (x2 dNe (x2 dIn (x2 dIx (xV 3) (xK (.int 0))) (xV 7)) (x2 dIn (x2 dIx (xV 3) (xK (.int 1))) (xV 7)))) (xV 3))) (sIf (bE (x2 dEq (xL oLen (xCons (xV 9) xNil)) (xK (.int 0)))) (sRet (xK (.bool true))) sNil))))
theorem vBody_e (L h a c d e : D) {ls : List Lf} (hl : ls.length ≤ 100000) (s : Int) {tl : List Int} (ht : tl.length ≤ 1000) (m : Nat) : ∃ δ2, (uncut ls (s :: tl) (s :: lef tl m) = true ∧ vBody [L, lotD (s :: tl), .list ((ls.filter (inn (s :: tl))).map leafD), .none, h, a, .int m, c, d, e] = some (.rt (.bool true) δ2) ∧ δ2.take 2 = [L, lotD (s :: tl)]) ∨
    (uncut ls (s :: tl) (s :: lef tl m) = false ∧ vBody [L, lotD (s :: tl), .list ((ls.filter (inn (s :: tl))).map leafD), .none, h, a, .int m, c, d, e] = some (.nx δ2) ∧ ∃ a b c d e, δ2 = [L, lotD (s :: tl), .list ((ls.filter (inn (s :: tl))).map leafD), .none, h, a, b, c, d, e]) := by
  have sz := size_le
  obtain ⟨part, hp⟩ : ∃ part, part = s :: tl := ⟨_, rfl⟩
  have hl7 := lef_len tl m
  have s1 : sSet 7 (xL mkLst (xCons (x2 dIx (xV 1) (xK (.int 0))) xNil)) [L, lotD (s :: tl), .list ((ls.filter (inn (s :: tl))).map leafD), .none, h, a, .int m, c, d, e] = some (.nx [L, lotD (s :: tl), .list ((ls.filter (inn (s :: tl))).map leafD), .none, h, a, .int m, .list (([s] : List Int).map .int), d, e]) := by
    have i0 : x2 dIx (xV 1) (xK (.int 0)) [L, lotD (s :: tl), .list ((ls.filter (inn (s :: tl))).map leafD), .none, h, a, .int m, c, d, e] = some (.int s) := at0 _ _
    have ml : mkLst [.int s] = some (.list [.int s]) := mkL _ (by simp)
    rw [sSet_e, xL_e, xCons_e, i0, Option.bind_some, xNil_e, Option.bind_some, Option.bind_some, ml]
    rfl
  obtain ⟨δ', l, b', e'⟩ := forL_inv (tg := gSet 5) (b := qBody) (fun j δ => ∃ b, δ = [L, lotD (s :: tl), .list ((ls.filter (inn (s :: tl))).map leafD), .none, h, b, .int m, .list ((s :: lef (tl.take j) m).map .int), .int ((m / 2 ^ j : Nat) : Int), e]) (rngD 1 tl.length) 0
    [L, lotD (s :: tl), .list ((ls.filter (inn (s :: tl))).map leafD), .none, h, a, .int m, .list (([s] : List Int).map .int), .int m, e] ⟨a, by rw [List.take_zero, Nat.pow_zero, Nat.div_one]; rfl⟩ fun j dd δ hd ⟨b, eb⟩ => by
      subst eb
      obtain ⟨rfl, hj⟩ := rngD1_get hd
      rw [Nat.zero_add]
      have hw : (s :: tl)[1 + j]? = some tl[j] := by rw [Nat.add_comm, List.getElem?_cons_succ, List.getElem?_eq_getElem hj]
      have hll := lef_len (tl.take j) m
      have htk : (tl.take j).length = j := by rw [List.length_take]; omega
      refine ⟨_, _, rfl, qBody_e L _ h (.int m) e (k := 1 + j) (r := m / 2 ^ j) (left := s :: lef (tl.take j) m) hw (by rw [List.length_cons]; omega), .int ((1 + j : Nat) : Int), ?_⟩
      have e1 : tl.take (j + 1) = tl.take j ++ [tl[j]] := by rw [List.take_succ, List.getElem?_eq_getElem hj]; rfl
      rw [e1, lef_snoc, htk, Nat.pow_succ, Nat.div_div_eq_div_mul]
      rfl
  subst e'
  rw [Nat.zero_add, rngD1_len, List.take_length] at l
  have s3 : sFor (lOf rng2 (xCons (xK (.int 1)) (xCons (xL oLen (xCons (xV 1) xNil)) xNil))) (gSet 5) qBody [L, lotD (s :: tl), .list ((ls.filter (inn (s :: tl))).map leafD), .none, h, a, .int m, .list (([s] : List Int).map .int), .int m, e] =
      some (.nx [L, lotD (s :: tl), .list ((ls.filter (inn (s :: tl))).map leafD), .none, h, b', .int m, .list ((s :: lef tl m).map .int), .int ((m / 2 ^ tl.length : Nat) : Int), e]) := by
    have ar : xCons (xK (.int 1)) (xCons (xL oLen (xCons (xV 1) xNil)) xNil) [L, lotD (s :: tl), .list ((ls.filter (inn (s :: tl))).map leafD), .none, h, a, .int m, .list (([s] : List Int).map .int), .int m, e] = some [.int 1, .int ((1 + tl.length : Nat) : Int)] := by
      show some [PyData.int 1, PyData.int (((s :: tl).map PyData.int).length : Nat)] = _
      rw [List.length_map, List.length_cons, Nat.add_comm]
    rw [sFor_e, lOf_e, ar, Option.bind_some, rng2_e (by omega), Option.bind_some, l]
  have s4 : sSet 9 (xCmp (lSeq (xV 2)) (gSet 3) (bE (x2 dNe (x2 dIn (x2 dIx (xV 3) (xK (.int 0))) (xV 7)) (x2 dIn (x2 dIx (xV 3) (xK (.int 1))) (xV 7)))) (xV 3)) [L, lotD (s :: tl), .list ((ls.filter (inn (s :: tl))).map leafD), .none, h, b', .int m, .list ((s :: lef tl m).map .int), .int ((m / 2 ^ tl.length : Nat) : Int), e] =
      some (.nx [L, lotD (s :: tl), .list ((ls.filter (inn (s :: tl))).map leafD), .none, h, b', .int m, .list ((s :: lef tl m).map .int), .int ((m / 2 ^ tl.length : Nat) : Int), .list (((ls.filter (inn (s :: tl))).filter fun l => (s :: lef tl m).contains l.1 != (s :: lef tl m).contains l.2).map leafD)]) := by
    have hs : cmpP (gSet 3) (bE (x2 dNe (x2 dIn (x2 dIx (xV 3) (xK (.int 0))) (xV 7)) (x2 dIn (x2 dIx (xV 3) (xK (.int 1))) (xV 7)))) (xV 3) [L, lotD (s :: tl), .list ((ls.filter (inn (s :: tl))).map leafD), .none, h, b', .int m, .list ((s :: lef tl m).map .int), .int ((m / 2 ^ tl.length : Nat) : Int), e] ((ls.filter (inn (s :: tl))).map leafD) =
        some (((ls.filter (inn (s :: tl))).filter fun l => (s :: lef tl m).contains l.1 != (s :: lef tl m).contains l.2).map leafD) := cmpP_flt (fun l => by
      have q : ∀ i, dIn (.int i) (.list ((s :: lef tl m).map .int)) = some (.bool ((s :: lef tl m).contains i)) := dIn_sq (sq_list _)
      simp only [bE_e, x2_e, xV_e, List.getElem?_cons_succ, List.getElem?_cons_zero, Option.bind_some, List.set_cons_succ, List.set_cons_zero, xK_e, at_leaf0, at_leaf1, q, dNe_b, toB_e]) (fun a => rfl) _
    have hq : lSeq (xV 2) [L, lotD (s :: tl), .list ((ls.filter (inn (s :: tl))).map leafD), .none, h, b', .int m, .list ((s :: lef tl m).map .int), .int ((m / 2 ^ tl.length : Nat) : Int), e] = some ((ls.filter (inn (s :: tl))).map leafD) := rfl
    have hf := List.length_filter_le (inn (s :: tl)) ls
    rw [sSet_e, xCmp_e, hq, Option.bind_some, if_pos (by rw [List.length_map]; omega), hs]
    rfl
  have c5 : ∀ K : List Lf, bE (x2 dEq (xL oLen (xCons (xV 9) xNil)) (xK (.int 0))) [L, lotD (s :: tl), .list ((ls.filter (inn (s :: tl))).map leafD), .none, h, b', .int m, .list ((s :: lef tl m).map .int), .int ((m / 2 ^ tl.length : Nat) : Int), .list (K.map leafD)] = some (decide (K.length = 0)) := fun K => by
    show (dEq (.int ((K.map leafD).length : Nat)) (.int 0)).bind toB = _
    have z : (((K.length : Nat) : Int) == 0) = decide (K.length = 0) := by
      rw [Bool.eq_iff_iff, beq_iff_eq, decide_eq_true_iff]
      omega
    rw [dEq_e, Option.bind_some, toB_e, List.length_map, z]
  refine ⟨[L, lotD (s :: tl), .list ((ls.filter (inn (s :: tl))).map leafD), .none, h, b', .int m, .list ((s :: lef tl m).map .int), .int ((m / 2 ^ tl.length : Nat) : Int), .list (((ls.filter (inn (s :: tl))).filter fun l => (s :: lef tl m).contains l.1 != (s :: lef tl m).contains l.2).map leafD)], ?_⟩
  have s5 := c5 ((ls.filter (inn (s :: tl))).filter fun l => (s :: lef tl m).contains l.1 != (s :: lef tl m).contains l.2)
  have run : vBody [L, lotD (s :: tl), .list ((ls.filter (inn (s :: tl))).map leafD), .none, h, a, .int m, c, d, e] = sIf (bE (x2 dEq (xL oLen (xCons (xV 9) xNil)) (xK (.int 0)))) (sRet (xK (.bool true))) sNil [L, lotD (s :: tl), .list ((ls.filter (inn (s :: tl))).map leafD), .none, h, b', .int m, .list ((s :: lef tl m).map .int), .int ((m / 2 ^ tl.length : Nat) : Int), .list (((ls.filter (inn (s :: tl))).filter fun l => (s :: lef tl m).contains l.1 != (s :: lef tl m).contains l.2).map leafD)] := by
    unfold vBody
    rw [sSeq_nx s1, sSeq_nx (δ' := [L, lotD (s :: tl), .list ((ls.filter (inn (s :: tl))).map leafD), .none, h, a, .int m, .list (([s] : List Int).map .int), .int m, e]) rfl, sSeq_nx s3, sSeq_nx s4]
  rw [run, sIf_e, s5, Option.bind_some]
  have eu : uncut ls (s :: tl) (s :: lef tl m) = decide (((ls.filter (inn (s :: tl))).filter fun l => (s :: lef tl m).contains l.1 != (s :: lef tl m).contains l.2).length = 0) := rfl
  rw [← eu]
  cases uncut ls (s :: tl) (s :: lef tl m) with
  | true => exact .inl ⟨rfl, by rw [if_pos rfl]; rfl, rfl⟩
  | false => exact .inr ⟨rfl, by rw [if_neg Bool.false_ne_true]; rfl, _, _, _, _, _, rfl⟩
theorem dbl_e (L p i a : D) (q : Int) : sSet 4 (x2 dMul (xV 4) (xK (.int 2))) [L, p, i, .none, .int q, a, .none, .none, .none, .none] = some (.nx [L, p, i, .none, .int (q * 2), a, .none, .none, .none, .none]) := by
  have pm : dMul (.int q) (.int 2) = some (.int (q * 2)) := dMul_e (mulOk_r (by omega) (by omega))
  rw [sSet_e]
  show (dMul (.int q) (.int 2)).bind _ = _
  rw [pm]
  rfl
theorem f_parted {N : Nat} {ls : List Lf} (hl : ls.length ≤ 100000) (s : Int) {tl : List Int} (nd : (s :: tl).Nodup) (ht : tl.length ≤ 5) : ∃ r : Bool, f__law_parted [pileD N ls, lotD (s :: tl)] = some (.bool r, [pileD N ls, lotD (s :: tl)]) ∧ (r = true ↔ ¬ ∀ w ∈ s :: tl, Rch (ls.filter (inn (s :: tl))) s w) := by
  have sz := size_le
  have u1 : sSet 2 (xCmp (lSeq (x2 dIx (xV 0) (xK (.int 1)))) (gSet 3) (bAnd (bE (x2 dIn (x2 dIx (xV 3) (xK (.int 0))) (xV 1))) (bE (x2 dIn (x2 dIx (xV 3) (xK (.int 1))) (xV 1)))) (xV 3)) [pileD N ls, lotD (s :: tl), .none, .none, .none, .none, .none, .none, .none, .none] = some (.nx [pileD N ls, lotD (s :: tl), .list ((ls.filter (inn (s :: tl))).map leafD), .none, .none, .none, .none, .none, .none, .none]) := by
    have hs : cmpP (gSet 3) (bAnd (bE (x2 dIn (x2 dIx (xV 3) (xK (.int 0))) (xV 1))) (bE (x2 dIn (x2 dIx (xV 3) (xK (.int 1))) (xV 1)))) (xV 3) [pileD N ls, lotD (s :: tl), .none, .none, .none, .none, .none, .none, .none, .none] (ls.map leafD) = some ((ls.filter (inn (s :: tl))).map leafD) := cmpP_flt (fun l => by
      have q : ∀ i, dIn (.int i) (lotD (s :: tl)) = some (.bool ((s :: tl).contains i)) := dIn_sq (sq_lot _)
      unfold inn
      simp only [bAnd_e, bE_e, x2_e, xV_e, List.getElem?_cons_succ, List.getElem?_cons_zero, Option.bind_some, List.set_cons_succ, List.set_cons_zero, xK_e, at_leaf0, at_leaf1, q, toB_e]
      cases (s :: tl).contains l.1 <;> rfl) (fun a => rfl) _
    have hq : lSeq (x2 dIx (xV 0) (xK (.int 1))) [pileD N ls, lotD (s :: tl), .none, .none, .none, .none, .none, .none, .none, .none] = some (ls.map leafD) := by
      show (dIx (pileD N ls) (.int 1)).bind asSeq = _
      rw [dIx_pile1]
      rfl
    rw [sSet_e, xCmp_e, hq, Option.bind_some, if_pos (by rw [List.length_map]; omega), hs]
    rfl
  obtain ⟨δ', l1, a, e⟩ := for_rng (i := 5) (n := tl.length) (f := xCons (x2 dSub (xL oLen (xCons (xV 1) xNil)) (xK (.int 1))) xNil) (b := sSet 4 (x2 dMul (xV 4) (xK (.int 2)))) (δ := [pileD N ls, lotD (s :: tl), .list ((ls.filter (inn (s :: tl))).map leafD), .none, .int 1, .none, .none, .none, .none, .none])
    (fun j δ => ∃ a, δ = [pileD N ls, lotD (s :: tl), .list ((ls.filter (inn (s :: tl))).map leafD), .none, .int ((2 ^ j : Nat) : Int), a, .none, .none, .none, .none])
    (by show some [PyData.int ((((s :: tl).map PyData.int).length : Nat) - 1 : Int)] = _
        have z : (((tl.length + 1 : Nat) : Int) - 1) = ((tl.length : Nat) : Int) := by omega
        rw [List.length_map, List.length_cons, z]) (by omega) ⟨.none, rfl⟩ fun j δ hj ⟨a, e⟩ => by
      subst e
      have z : ((2 ^ (j + 1) : Nat) : Int) = ((2 ^ j : Nat) : Int) * 2 := by rw [Nat.pow_succ, Int.natCast_mul]; rfl
      refine ⟨[pileD N ls, lotD (s :: tl), .list ((ls.filter (inn (s :: tl))).map leafD), .none, .int (((2 ^ j : Nat) : Int) * 2), .int j, .none, .none, .none, .none], dbl_e _ _ _ _ _, .int j, by rw [z]⟩
  subst e
  have hpw : 1 ≤ 2 ^ tl.length ∧ 2 ^ tl.length ≤ 32 := ⟨Nat.one_le_two_pow, Nat.pow_le_pow_right (n := 2) (by omega) ht⟩
  obtain ⟨H, hH⟩ : ∃ H, 2 ^ tl.length = 1 + H := ⟨2 ^ tl.length - 1, by omega⟩
  have find := forL_find (tg := gSet 6) (b := vBody) (fun δ => ∃ a b c d e, δ = [pileD N ls, lotD (s :: tl), .list ((ls.filter (inn (s :: tl))).map leafD), .none, .int ((2 ^ tl.length : Nat) : Int), a, b, c, d, e]) (fun δ => δ.take 2 = [pileD N ls, lotD (s :: tl)]) (rngD 1 H) (fun d => match d with | .int i => uncut ls (s :: tl) (s :: lef tl i.toNat) | _ => false)
    [pileD N ls, lotD (s :: tl), .list ((ls.filter (inn (s :: tl))).map leafD), .none, .int ((2 ^ tl.length : Nat) : Int), a, .none, .none, .none, .none] ⟨_, _, _, _, _, rfl⟩ fun d hd δ ⟨a, b, c, d', e, eq⟩ => by
      subst eq
      obtain ⟨j, hj⟩ := List.mem_iff_getElem?.mp hd
      obtain ⟨rfl, _⟩ := rngD1_get hj
      obtain ⟨δ2, h⟩ := vBody_e (pileD N ls) (.int ((2 ^ tl.length : Nat) : Int)) a c d' e hl s (by omega : tl.length ≤ 1000) (1 + j)
      exact ⟨_, δ2, rfl, h⟩
  have any_iff : (rngD 1 H).any (fun d => match d with | .int i => uncut ls (s :: tl) (s :: lef tl i.toNat) | _ => false) = true ↔ ¬ ∀ w ∈ s :: tl, Rch (ls.filter (inn (s :: tl))) s w := by
    rw [← part_iff ls s tl nd, List.any_eq_true]
    constructor
    · rintro ⟨d, hd, h⟩
      obtain ⟨j, hj⟩ := List.mem_iff_getElem?.mp hd
      obtain ⟨rfl, hjn⟩ := rngD1_get hj
      exact ⟨1 + j, by omega, by omega, h⟩
    · rintro ⟨m, h1, h2, h3⟩
      refine ⟨.int ((m : Nat) : Int), ?_, h3⟩
      unfold rngD
      exact List.mem_map.mpr ⟨m - 1, List.mem_range.mpr (by omega), by congr 1; omega⟩
  have ar : xCons (xK (.int 1)) (xCons (xV 4) xNil) [pileD N ls, lotD (s :: tl), .list ((ls.filter (inn (s :: tl))).map leafD), .none, .int ((2 ^ tl.length : Nat) : Int), a, .none, .none, .none, .none] = some [.int 1, .int ((1 + H : Nat) : Int)] := by
    show some [PyData.int 1, PyData.int ((2 ^ tl.length : Nat) : Int)] = _
    rw [hH]
  have fin : ∀ {r : Bool} {δ' : List D}, g__law_parted [pileD N ls, lotD (s :: tl), .none, .none, .none, .none, .none, .none, .none, .none] = some (.rt (.bool r) δ') → δ'.take 2 = [pileD N ls, lotD (s :: tl)] → f__law_parted [pileD N ls, lotD (s :: tl)] = some (.bool r, [pileD N ls, lotD (s :: tl)]) := fun {r δ'} h1 h2 => by
    unfold f__law_parted
    rw [fnF_e]
    show (g__law_parted [pileD N ls, lotD (s :: tl), .none, .none, .none, .none, .none, .none, .none, .none]).bind _ = _
    rw [h1, Option.bind_some, outF_rt]
    show some (_, δ'.take 2) = _
    rw [h2]
  unfold vBody qBody at find
  rcases find with ⟨h1, δ', h2, h3⟩ | ⟨h1, δ', h2, a', b', c', d', e', rfl⟩
  · refine ⟨true, fin (δ' := δ') ?_ h3, ⟨fun _ => any_iff.mp h1, fun _ => rfl⟩⟩
    unfold g__law_parted
    rw [sSeq_nx u1, sSeq_nx (δ' := [pileD N ls, lotD (s :: tl), .list ((ls.filter (inn (s :: tl))).map leafD), .none, .int 1, .none, .none, .none, .none, .none]) rfl, sSeq_nx l1]
    refine sSeq_rt ?_
    rw [sFor_e, lOf_e, ar, Option.bind_some, rng2_e (by omega), Option.bind_some, h2]
  · refine ⟨false, fin (δ' := [pileD N ls, lotD (s :: tl), .list ((ls.filter (inn (s :: tl))).map leafD), .none, .int ((2 ^ tl.length : Nat) : Int), a', b', c', d', e']) ?_ rfl, ⟨fun z => (nomatch z), fun z => ?_⟩⟩
    · unfold g__law_parted
      rw [sSeq_nx u1, sSeq_nx (δ' := [pileD N ls, lotD (s :: tl), .list ((ls.filter (inn (s :: tl))).map leafD), .none, .int 1, .none, .none, .none, .none, .none]) rfl, sSeq_nx l1, sSeq_nx (δ' := [pileD N ls, lotD (s :: tl), .list ((ls.filter (inn (s :: tl))).map leafD), .none, .int ((2 ^ tl.length : Nat) : Int), a', b', c', d', e']) (by rw [sFor_e, lOf_e, ar, Option.bind_some, rng2_e (by omega), Option.bind_some, h2])]
      rfl
    · rw [any_iff.mpr z] at h1
      cases h1
end LawK02

set_option linter.all false
set_option maxRecDepth 10000
namespace LawK02
open PySem Pv
/-! k02: whether a lot hangs together -/
theorem lay_ints : ∀ ws : List Int, PyData.canLayAll0 (ws.map PyData.int) = true
  | [] => by simp [PyData.canLayAll0]
  | w :: ws => by
    rw [List.map_cons]
    simp only [PyData.canLayAll0, PyData.canLay0, lay_ints ws, Bool.and_self]
theorem dep_ints : ∀ ws : List Int, PyData.depthAll (ws.map PyData.int) = 0
  | [] => by simp [PyData.depthAll]
  | w :: ws => by
    rw [List.map_cons]
    simp only [PyData.depthAll, PyData.depth, dep_ints ws, Nat.max_self]
theorem shp_lot (ws : List Int) : SeqAt.shaped (lotD ws) = true := by
  unfold SeqAt.shaped lotD
  simp only [PyData.canLay0, PyData.depth, lay_ints, dep_ints]
  rfl
theorem shp_list (ws : List Int) : SeqAt.shaped (.list (ws.map .int)) = true := by
  unfold SeqAt.shaped
  simp only [PyData.canLay0, PyData.depth, lay_ints, dep_ints]
  rfl
theorem eqv_ints : ∀ a b : List Int, PyData.eqvAll (a.map PyData.int) (b.map PyData.int) = decide (a = b)
  | [], [] => by simp [PyData.eqvAll]
  | [], _ :: _ => by simp [PyData.eqvAll]
  | _ :: _, [] => by simp [PyData.eqvAll]
  | x :: a, y :: b => by
    rw [List.map_cons, List.map_cons, PyData.eqvAll, eqv_int, eqv_ints a b, Bool.eq_iff_iff]
    simp
theorem dEq_lot (a b : List Int) : dEq (lotD a) (lotD b) = some (.bool (decide (a = b))) := by
  unfold dEq
  rw [shp_lot, shp_lot, Bool.and_self, if_pos rfl]
  show some (PyData.bool (PyData.eqv (.tuple (a.map .int)) (.tuple (b.map .int)))) = _
  rw [PyData.eqv, eqv_ints]
theorem dEq_list (a b : List Int) : dEq (.list (a.map .int)) (.list (b.map .int)) = some (.bool (decide (a = b))) := by
  unfold dEq
  rw [shp_list, shp_list, Bool.and_self, if_pos rfl, PyData.eqv, eqv_ints]
theorem dEq_b (a b : Bool) : dEq (.bool a) (.bool b) = some (.bool (a == b)) := by cases a <;> cases b <;> rfl
theorem map_int_inj {a b : List Int} (h : a.map PyData.int = b.map PyData.int) : a = b := by
  have := congrArg (List.map intD) h
  simp only [List.map_map] at this
  have e : (intD ∘ PyData.int) = id := by funext i; rfl
  rwa [e, List.map_id, List.map_id] at this
theorem asc_ext {a b : List Int} (ha : a.Pairwise (· < ·)) (hb : b.Pairwise (· < ·)) (h : ∀ w, w ∈ a ↔ w ∈ b) : a = b := by
  have hp : a.Perm b := (List.perm_ext_iff_of_nodup (asc_nd ha) (asc_nd hb)).mpr h
  exact map_int_inj ((srt_ints ha (.refl a)).symm.trans (srt_ints hb hp))
theorem pick_e {N : Nat} {ls : List Lf} {x y : D} (p : Lf → Bool) : ∀ (k : Nat) (xs : List Lf), (∀ j, xs[j]? = ls[k + j]?) → cmpP (gSet 3) bYes (x2 dIx (x2 dIx (xV 0) (xK (.int 1))) (xV 3)) [pileD N ls, x, y, .none] (sel p k xs) = some ((xs.filter p).map leafD)
  | _, [], _ => rfl
  | k, l :: xs, h => by
    have h0 : ls[k]? = some l := by have := h 0; simpa using this.symm
    have ih := pick_e (N := N) (x := x) (y := y) p (k + 1) xs fun j => by
      have := h (j + 1)
      rw [List.getElem?_cons_succ] at this
      rw [this]
      congr 1
      omega
    rw [sel, List.filter_cons]
    cases p l with
    | false => rw [if_neg Bool.false_ne_true, if_neg Bool.false_ne_true, ih]
    | true =>
      have e : x2 dIx (x2 dIx (xV 0) (xK (.int 1))) (xV 3) [pileD N ls, x, y, .int k] = some (leafD l) := by
        rw [x2_e]
        show ((dIx (pileD N ls) (.int 1))).bind _ = _
        rw [dIx_pile1]
        exact atI_leaves h0
      rw [if_pos rfl, if_pos rfl, cmpP, gSet_e, Option.bind_some, bYes_e, Option.bind_some, if_pos rfl, ih]
      show (x2 dIx (x2 dIx (xV 0) (xK (.int 1))) (xV 3) [pileD N ls, x, y, .int k]).bind _ = _
      rw [e]
      rfl
/-- all of a lot can be reached from its first word -/
def Hang (ls : List Lf) : List Int → Prop
  | [] => False
  | s :: tl => ∀ w ∈ s :: tl, Rch (ls.filter (inn (s :: tl))) s w
theorem f_hangs {N : Nat} {ls : List Lf} (hl : ls.length ≤ 100000) (hN : N ≤ 1000) {ws : List Int} (h : IsLot N ws) : ∃ r : Bool, f_hangs_together [pileD N ls, lotD ws] = some (.bool r, [pileD N ls, lotD ws]) ∧ (r = true ↔ Hang ls ws) := by
  have sz := size_le
  have hls : ls.length ≤ sizeLine := by omega
  have hw := f_within_e N ls ws h hls
  have u1 : sSet 2 (xCmp (lSeq (xCall f_within (xCons (xV 0) (xCons (xV 1) xNil)))) (gSet 3) bYes (x2 dIx (x2 dIx (xV 0) (xK (.int 1))) (xV 3))) [pileD N ls, lotD ws, .none, .none] = some (.nx [pileD N ls, lotD ws, .list ((ls.filter (inn ws)).map leafD), .none]) := by
    have t : xCons (xV 0) (xCons (xV 1) xNil) [pileD N ls, lotD ws, .none, .none] = some [pileD N ls, lotD ws] := rfl
    have hq : lSeq (xCall f_within (xCons (xV 0) (xCons (xV 1) xNil))) [pileD N ls, lotD ws, .none, .none] = some (sel (inn ws) 0 ls) := by
      rw [lSeq_e, xCall_e, t, Option.bind_some, hw]
      rfl
    have hs := pick_e (N := N) (ls := ls) (x := lotD ws) (y := .none) (inn ws) 0 ls fun j => by rw [Nat.zero_add]
    have hln := sel_len (inn ws) 0 ls
    rw [sSet_e, xCmp_e, hq, Option.bind_some, if_pos (by omega), hs]
    rfl
  have c : bE (x2 dEq (xL oLen (xCons (xV 1) xNil)) (xK (.int 0))) [pileD N ls, lotD ws, .list ((ls.filter (inn ws)).map leafD), .none] = some (((ws.length : Nat) : Int) == 0) := by
    show (dEq (.int ((ws.map PyData.int).length : Nat)) (.int 0)).bind toB = _
    rw [dEq_e, List.length_map]
    rfl
  have fin : ∀ {r : Bool} {δ' : List D}, g_hangs_together [pileD N ls, lotD ws, .none, .none] = some (.rt (.bool r) δ') → δ'.take 2 = [pileD N ls, lotD ws] → f_hangs_together [pileD N ls, lotD ws] = some (.bool r, [pileD N ls, lotD ws]) := fun {r δ'} h1 h2 => by
    unfold f_hangs_together
    rw [fnF_e]
    show (g_hangs_together [pileD N ls, lotD ws, .none, .none]).bind _ = _
    rw [h1, Option.bind_some, outF_rt]
    show some (_, δ'.take 2) = _
    rw [h2]
  cases ws with
  | nil =>
    refine ⟨false, fin (δ' := [pileD N ls, lotD [], .list ((ls.filter (inn [])).map leafD), .none]) ?_ rfl, ⟨fun z => (nomatch z), fun z => z.elim⟩⟩
    unfold g_hangs_together
    rw [sSeq_nx u1]
    refine sSeq_rt ?_
    rw [sIf_e, c]
    rfl
  | cons s tl =>
    obtain ⟨cs, p1, p2, p3, p4⟩ := f_piece (E := ls.filter (inn (s :: tl))) (U := s :: tl) (s := s) (fun l hl => (inn_mem.mp hl).2) h.1 (by have := h.len; omega) List.mem_cons_self
    have hb := f_bonds (d := .list ((ls.filter (inn (s :: tl))).map leafD)) (xs := ls.filter (inn (s :: tl))) rfl (by have := List.length_filter_le (inn (s :: tl)) ls; omega)
    refine ⟨decide (cs = s :: tl), fin (δ' := [pileD N ls, lotD (s :: tl), .list ((ls.filter (inn (s :: tl))).map leafD), .none]) ?_ rfl, ?_⟩
    · have c2 : sIf (bE (x2 dEq (xL oLen (xCons (xV 1) xNil)) (xK (.int 0)))) (sRet (xK (.bool false))) sNil [pileD N ls, lotD (s :: tl), .list ((ls.filter (inn (s :: tl))).map leafD), .none] = some (.nx [pileD N ls, lotD (s :: tl), .list ((ls.filter (inn (s :: tl))).map leafD), .none]) := by
        have z : ((((s :: tl).length : Nat) : Int) == 0) = false := beq_eq_false_iff_ne.mpr (by rw [List.length_cons]; omega)
        rw [sIf_e, c, z]
        rfl
      have t1 : xCons (xV 2) xNil [pileD N ls, lotD (s :: tl), .list ((ls.filter (inn (s :: tl))).map leafD), .none] = some [.list ((ls.filter (inn (s :: tl))).map leafD)] := rfl
      have t2 : xCall f_word_bonds (xCons (xV 2) xNil) [pileD N ls, lotD (s :: tl), .list ((ls.filter (inn (s :: tl))).map leafD), .none] = some (.dict (bD (bonds (ls.filter (inn (s :: tl)))))) := by
        rw [xCall_e, t1, Option.bind_some, hb]
        rfl
      have t3 : x2 dIx (xV 1) (xK (.int 0)) [pileD N ls, lotD (s :: tl), .list ((ls.filter (inn (s :: tl))).map leafD), .none] = some (.int s) := at0 _ _
      have t4 : xV 1 [pileD N ls, lotD (s :: tl), .list ((ls.filter (inn (s :: tl))).map leafD), .none] = some (lotD (s :: tl)) := rfl
      unfold g_hangs_together
      rw [sSeq_nx u1, sSeq_nx c2, sRet_e, x2_e, xCall_e, xCons_e, t2, Option.bind_some, xCons_e, t3, Option.bind_some, xNil_e, Option.bind_some, Option.bind_some, Option.bind_some, p1, Option.map_some, Option.bind_some, t4, Option.bind_some, dEq_lot]
      rfl
    · rw [decide_eq_true_iff]
      constructor
      · intro e w hw
        rw [← e] at hw
        exact (p3 w).mp hw
      · intro z
        exact asc_ext p2 h.1 fun w => ⟨p4 w, fun q => (p3 w).mpr (z w q)⟩
theorem f_lhangs {N : Nat} {ls : List Lf} (hl : ls.length ≤ 100000) (hN : N ≤ 1000) {ws : List Int} (h : IsLot N ws) : ∃ d', f__law_hangs [pileD N ls, lotD ws] = some (.bool true, d') := by
  obtain ⟨r, e1, e2⟩ := f_hangs hl hN h
  have u1 : sSet 2 (xCall f_hangs_together (xCons (xV 0) (xCons (xV 1) xNil))) [pileD N ls, lotD ws, .none] = some (.nx [pileD N ls, lotD ws, .bool r]) := by
    have t : xCons (xV 0) (xCons (xV 1) xNil) [pileD N ls, lotD ws, .none] = some [pileD N ls, lotD ws] := rfl
    rw [sSet_e, xCall_e, t, Option.bind_some, e1]
    rfl
  have u2 : sIf (bNot (bE (x1 (dIsi "bool") (xV 2)))) (sRet (xK (.bool false))) sNil [pileD N ls, lotD ws, .bool r] = some (.nx [pileD N ls, lotD ws, .bool r]) := rfl
  have cl : xL oLen (xCons (xV 1) xNil) [pileD N ls, lotD ws, .bool r] = some (.int ((ws.length : Nat) : Int)) := by
    show some (PyData.int ((ws.map PyData.int).length : Nat)) = _
    rw [List.length_map]
  have fin : ∀ {δ' : List D}, g__law_hangs [pileD N ls, lotD ws, .none] = some (.rt (.bool true) δ') → ∃ d', f__law_hangs [pileD N ls, lotD ws] = some (.bool true, d') := fun {δ'} h1 => by
    refine ⟨δ'.take 2, ?_⟩
    unfold f__law_hangs
    rw [fnF_e]
    show (g__law_hangs [pileD N ls, lotD ws, .none]).bind _ = _
    rw [h1]
    rfl
  have c0 : bE (x2 dEq (xL oLen (xCons (xV 1) xNil)) (xK (.int 0))) [pileD N ls, lotD ws, .bool r] = some (((ws.length : Nat) : Int) == 0) := by
    rw [bE_e, x2_e, cl, Option.bind_some, xK_e, Option.bind_some, dEq_e]
    rfl
  cases ws with
  | nil =>
    have hr : r = false := by
      cases r with
      | false => rfl
      | true => exact (e2.mp rfl).elim
    subst hr
    refine fin (δ' := [pileD N ls, lotD [], .bool false]) ?_
    unfold g__law_hangs
    rw [sSeq_nx u1, sSeq_nx u2]
    refine sSeq_rt ?_
    rw [sIf_e, c0]
    rfl
  | cons s tl =>
    refine fin (δ' := [pileD N ls, lotD (s :: tl), .bool r]) ?_
    have u3 : sIf (bE (x2 dEq (xL oLen (xCons (xV 1) xNil)) (xK (.int 0)))) (sRet (xNot (xV 2))) sNil [pileD N ls, lotD (s :: tl), .bool r] = some (.nx [pileD N ls, lotD (s :: tl), .bool r]) := by
      have z : ((((s :: tl).length : Nat) : Int) == 0) = false := beq_eq_false_iff_ne.mpr (by rw [List.length_cons]; omega)
      rw [sIf_e, c0, z]
      rfl
    have c6 : bE (x2 dLe (xL oLen (xCons (xV 1) xNil)) (xK (.int 6))) [pileD N ls, lotD (s :: tl), .bool r] = some (decide ((((s :: tl).length : Nat) : Int) ≤ 6)) := by
      rw [bE_e, x2_e, cl, Option.bind_some, xK_e, Option.bind_some, dLe_e]
      rfl
    have t2 : xV 2 [pileD N ls, lotD (s :: tl), .bool r] = some (.bool r) := rfl
    unfold g__law_hangs
    rw [sSeq_nx u1, sSeq_nx u2, sSeq_nx u3]
    by_cases q : (((s :: tl).length : Nat) : Int) ≤ 6
    · refine sSeq_rt ?_
      obtain ⟨p, f1, f2⟩ := f_parted (N := N) hl s (IsLot.nd h) (by rw [List.length_cons] at q; omega)
      have t : xCons (xV 0) (xCons (xV 1) xNil) [pileD N ls, lotD (s :: tl), .bool r] = some [pileD N ls, lotD (s :: tl)] := rfl
      have hp : (r == !p) = true := by
        cases r <;> cases p
        · have := mt f2.mpr Bool.false_ne_true
          exact absurd (e2.mpr (Classical.not_not.mp this)) Bool.false_ne_true
        · rfl
        · rfl
        · exact absurd (e2.mp rfl) (f2.mp rfl)
      rw [sIf_e, c6, decide_eq_true q, Option.bind_some, if_pos rfl, sRet_e, x2_e, t2, Option.bind_some, xNot_e, xCall_e, t, Option.bind_some, f1, Option.map_some, Option.bind_some, toB_e, Option.bind_some, Option.bind_some, dEq_b, hp]
      rfl
    · have u4 : sIf (bE (x2 dLe (xL oLen (xCons (xV 1) xNil)) (xK (.int 6)))) (sRet (x2 dEq (xV 2) (xNot (xCall f__law_parted (xCons (xV 0) (xCons (xV 1) xNil)))))) sNil [pileD N ls, lotD (s :: tl), .bool r] = some (.nx [pileD N ls, lotD (s :: tl), .bool r]) := by
        rw [sIf_e, c6, decide_eq_false q]
        rfl
      have lw := h.len
      obtain ⟨cs, g1, g2, g3, g4⟩ := f_grown (N := N) (ls := ls) (P := lotD (s :: tl)) (part := s :: tl) (s := s) (sq_lot _) h.1 (by omega) List.mem_cons_self (by
        show some (PyData.int (((s :: tl).map PyData.int).length : Nat)) = _
        rw [List.length_map])
      have t3 : x2 dIx (xV 1) (xK (.int 0)) [pileD N ls, lotD (s :: tl), .bool r] = some (.int s) := at0 _ _
      have t : xCons (xV 0) (xCons (x2 dIx (xV 1) (xK (.int 0))) (xCons (xV 1) xNil)) [pileD N ls, lotD (s :: tl), .bool r] = some [pileD N ls, .int s, lotD (s :: tl)] := by
        rw [xCons_e, xCons_e, t3]
        rfl
      have t4 : xV 1 [pileD N ls, lotD (s :: tl), .bool r] = some (lotD (s :: tl)) := rfl
      have hp : (r == decide (cs = s :: tl)) = true := by
        have hc : cs = s :: tl ↔ Hang ls (s :: tl) := by
          constructor
          · intro e w hw
            rw [← e] at hw
            exact (g3 w).mp hw
          · intro z
            exact asc_ext g2 h.1 fun w => ⟨g4 w, fun q => (g3 w).mpr (z w q)⟩
        by_cases e : cs = s :: tl
        · rw [decide_eq_true e, e2.mpr (hc.mp e)]; rfl
        · have : r = false := by
            cases r with
            | false => rfl
            | true => exact absurd (hc.mpr (e2.mp rfl)) e
          rw [decide_eq_false e, this]; rfl
      rw [sSeq_nx u4, sRet_e, x2_e, t2, Option.bind_some, x2_e, xCall_e, t, Option.bind_some, g1, Option.map_some, Option.bind_some, t4, Option.bind_some, dEq_lot, Option.bind_some, dEq_b, hp]
      rfl
end LawK02

set_option linter.all false
set_option maxRecDepth 10000
namespace LawK02
open PySem Pv
/-! k02: the pieces -/
theorem Rch.trans {E : List Lf} {a b c : Int} (h1 : Rch E a b) (h2 : Rch E b c) : Rch E a c := by
  induction h2 with
  | refl => exact h1
  | fwd hl _ ih => exact .fwd hl ih
  | bwd hl _ ih => exact .bwd hl ih
theorem Rch.symm {E : List Lf} {a b : Int} (h : Rch E a b) : Rch E b a := by
  induction h with
  | refl => exact .refl
  | fwd hl _ ih => exact Rch.trans (.bwd hl .refl) ih
  | bwd hl _ ih => exact Rch.trans (.fwd hl .refl) ih
open Classical in
noncomputable def cmpW (N : Nat) (ls : List Lf) (w : Int) : List Int := (rngI N).filter fun v => decide (Rch ls w v)
theorem cmpW_lot (N : Nat) (ls : List Lf) (w : Int) : IsLot N (cmpW N ls w) := (rngI_lot N).flt _
theorem Rch.inN {N : Nat} {ls : List Lf} (hp : IsPile N ls) {w v : Int} (hw : 0 ≤ w ∧ w < (N : Int)) (h : Rch ls w v) : 0 ≤ v ∧ v < (N : Int) := by
  induction h with
  | refl => exact hw
  | fwd hl _ _ => exact hp.snd _ hl
  | bwd hl _ _ => exact hp.fst _ hl
open Classical in
theorem cmpW_mem {N : Nat} {ls : List Lf} (hp : IsPile N ls) {w v : Int} (hw : 0 ≤ w ∧ w < (N : Int)) : v ∈ cmpW N ls w ↔ Rch ls w v := by
  unfold cmpW
  rw [List.mem_filter, rngI_mem, decide_eq_true_iff]
  exact ⟨fun h => h.2, fun h => ⟨h.inN hp hw, h⟩⟩
theorem inn_all {N : Nat} {ls : List Lf} (hp : IsPile N ls) : ls.filter (inn (rngI N)) = ls := by
  rw [List.filter_eq_self]
  intro l hl
  unfold inn
  simp only [Bool.and_eq_true, List.contains_iff_mem]
  exact ⟨rngI_mem.mpr (hp.fst l hl), rngI_mem.mpr (hp.snd l hl)⟩
/-- the pieces met by the words below k -/
noncomputable def pcs (N : Nat) (ls : List Lf) : Nat → List (List Int)
  | 0 => []
  | k + 1 => if (pcs N ls k).any (fun p => p.contains (k : Int)) then pcs N ls k else pcs N ls k ++ [cmpW N ls k]
theorem pcs_old {N : Nat} {ls : List Lf} {k : Nat} (h : ((pcs N ls k).any fun p => p.contains (k : Int)) = true) : pcs N ls (k + 1) = pcs N ls k := by
  rw [pcs, if_pos h]
theorem pcs_new {N : Nat} {ls : List Lf} {k : Nat} (h : ¬ ((pcs N ls k).any fun p => p.contains (k : Int)) = true) : pcs N ls (k + 1) = pcs N ls k ++ [cmpW N ls k] := by
  rw [pcs, if_neg h]
/-- a piece -/
def IsPc (N : Nat) (ls : List Lf) (p : List Int) : Prop := ∃ k : Nat, k < N ∧ p = cmpW N ls k
theorem pcs_pc {N : Nat} {ls : List Lf} : ∀ k ≤ N, ∀ p ∈ pcs N ls k, IsPc N ls p
  | 0, _, _, h => nomatch h
  | k + 1, hk, p, h => by
    unfold pcs at h
    split at h
    · exact pcs_pc k (by omega) p h
    · rcases List.mem_append.mp h with q | q
      · exact pcs_pc k (by omega) p q
      · have : p = cmpW N ls k := by simpa using q
        exact ⟨k, by omega, this⟩
theorem IsPc.lot {N : Nat} {ls : List Lf} {p : List Int} (h : IsPc N ls p) : IsLot N p := by
  obtain ⟨k, _, rfl⟩ := h
  exact cmpW_lot _ _ _
theorem pcs_len (N : Nat) (ls : List Lf) : ∀ k, (pcs N ls k).length ≤ k
  | 0 => Nat.le_refl _
  | k + 1 => by
    have := pcs_len N ls k
    unfold pcs
    split
    · omega
    · rw [List.length_append, List.length_singleton]; omega
theorem pcs_cov {N : Nat} {ls : List Lf} (hp : IsPile N ls) : ∀ k ≤ N, ∀ j < k, ∃ p ∈ pcs N ls k, (j : Int) ∈ p
  | 0, _, _, h => absurd h (Nat.not_lt_zero _)
  | k + 1, hk, j, hj => by
    unfold pcs
    rcases Nat.lt_or_ge j k with q | q
    · obtain ⟨p, h1, h2⟩ := pcs_cov hp k (by omega) j q
      split
      · exact ⟨p, h1, h2⟩
      · exact ⟨p, List.mem_append_left _ h1, h2⟩
    · have : j = k := by omega
      subst this
      split
      · rename_i h
        obtain ⟨p, h1, h2⟩ := List.any_eq_true.mp h
        exact ⟨p, h1, by simpa using h2⟩
      · exact ⟨cmpW N ls j, by simp, (cmpW_mem hp ⟨by omega, by omega⟩).mpr .refl⟩
theorem pcs_dis {N : Nat} {ls : List Lf} (hp : IsPile N ls) : ∀ k ≤ N, (pcs N ls k).Pairwise fun p q => ∀ x ∈ p, x ∉ q
  | 0, _ => .nil
  | k + 1, hk => by
    have ih := pcs_dis hp k (by omega)
    unfold pcs
    split
    · exact ih
    · rename_i h
      refine List.pairwise_append.mpr ⟨ih, List.pairwise_singleton _ _, fun p h1 q h2 x h3 h4 => ?_⟩
      have : q = cmpW N ls k := by simpa using h2
      subst this
      obtain ⟨j, hj, rfl⟩ := pcs_pc k (by omega) p h1
      have r1 := (cmpW_mem hp ⟨by omega, by omega⟩).mp h3
      have r2 := (cmpW_mem hp ⟨by omega, by omega⟩).mp h4
      refine h (List.any_eq_true.mpr ⟨_, h1, ?_⟩)
      have := (cmpW_mem (N := N) (ls := ls) hp (w := (j : Int)) (v := (k : Int)) ⟨by omega, by omega⟩).mpr (r1.trans r2.symm)
      simpa using this
theorem IsPc.clo {N : Nat} {ls : List Lf} (hp : IsPile N ls) {p : List Int} (h : IsPc N ls p) : ∀ l ∈ ls, (l.1 ∈ p ↔ l.2 ∈ p) := fun l hl => by
  obtain ⟨k, hk, rfl⟩ := h
  rw [cmpW_mem hp ⟨by omega, by omega⟩, cmpW_mem hp ⟨by omega, by omega⟩]
  exact ⟨fun h => .fwd hl h, fun h => .bwd hl h⟩
theorem IsPc.hang {N : Nat} {ls : List Lf} (hp : IsPile N ls) {p : List Int} (h : IsPc N ls p) : Hang ls p := by
  have clo := h.clo hp
  obtain ⟨k, hk, e⟩ := h
  have mem : ∀ v, v ∈ p ↔ Rch ls k v := fun v => by rw [e]; exact cmpW_mem hp ⟨by omega, by omega⟩
  cases p with
  | nil =>
    have := (mem k).mpr .refl
    cases this
  | cons s tl =>
    intro w hw
    have r : Rch ls s w := ((mem s).mp List.mem_cons_self).symm.trans ((mem w).mp hw)
    have key : ∀ w, Rch ls s w → w ∈ s :: tl ∧ Rch (ls.filter (inn (s :: tl))) s w := fun w h => by
      induction h with
      | refl => exact ⟨List.mem_cons_self, .refl⟩
      | fwd hl _ ih =>
        have q := (clo _ hl).mp ih.1
        exact ⟨q, .fwd (inn_mem.mpr ⟨hl, ih.1, q⟩) ih.2⟩
      | bwd hl _ ih =>
        have q := (clo _ hl).mpr ih.1
        exact ⟨q, .bwd (inn_mem.mpr ⟨hl, q, ih.1⟩) ih.2⟩
    exact (key w r).2
/-! ### the program's pieces -/
def rput (R : List Int) (w : Int) : List Int := if R.contains w then R else R ++ [w]
theorem put_rD (R : List Int) (w : Int) : putD (rD R) (.int w) (.bool true) = rD (rput R w) := by
  unfold putD rput
  rw [rD_pos]
  cases e : R.contains w with
  | true =>
    rw [if_pos rfl, if_pos rfl]
    unfold rD
    rw [List.map_map]
    refine List.map_congr_left fun r _ => ?_
    show (if PyData.eqv (.int r) (.int w) = true then (PyData.int r, PyData.bool true) else (PyData.int r, PyData.bool true)) = _
    split <;> rfl
  | false =>
    rw [if_neg Bool.false_ne_true, if_neg Bool.false_ne_true]
    unfold rD
    rw [List.map_append]
    rfl
structure Pl (N : Nat) (R : List Int) : Prop where
  nd : R.Nodup
  sub : ∀ w ∈ R, w ∈ rngI N
theorem Pl.len {N : Nat} {R : List Int} (h : Pl N R) : R.length ≤ N := by
  have := h.nd.length_le_of_subset (l₂ := rngI N) h.sub
  rwa [rngI_len] at this
theorem Pl.put {N : Nat} {R : List Int} {w : Int} (h : Pl N R) (hw : w ∈ rngI N) : Pl N (rput R w) := by
  unfold rput
  split
  · exact h
  · rename_i c
    have hc : w ∉ R := fun z => c (by simpa using z)
    refine ⟨nd_snoc h.nd hc, fun v hv => ?_⟩
    rcases List.mem_append.mp hv with q | q
    · exact h.sub v q
    · have : v = w := by simpa using q
      rw [this]; exact hw
theorem mem_rput {R : List Int} {w v : Int} : v ∈ rput R w ↔ v ∈ R ∨ v = w := by
  unfold rput
  split
  · rename_i c
    have c' : w ∈ R := by simpa using c
    exact ⟨.inl, fun h => h.elim id fun e => e ▸ c'⟩
  · simp
theorem fold_rput {N : Nat} : ∀ (p R : List Int), (∀ w ∈ p, w ∈ rngI N) → Pl N R → Pl N (p.foldl rput R) ∧ ∀ v, v ∈ p.foldl rput R ↔ v ∈ R ∨ v ∈ p
  | [], R, _, h => ⟨h, fun v => by simp⟩
  | w :: p, R, hw, h => by
    rw [List.foldl_cons]
    obtain ⟨a, b⟩ := fold_rput p (rput R w) (fun v hv => hw v (List.mem_cons_of_mem _ hv)) (h.put (hw w List.mem_cons_self))
    refine ⟨a, fun v => ?_⟩
    rw [b, mem_rput, List.mem_cons, or_assoc]
theorem sPut_e {L B P x y : D} {N : Nat} {R : List Int} {w : Int} (hN : N ≤ 1000) (h : Pl N R) : sPutK 2 (mOf (xK (.bool true))) (xV 6) [L, B, .dict (rD R), P, x, y, .int w] = some (.nx [L, B, .dict (rD (rput R w)), P, x, y, .int w]) := by
  have sz := size_le
  have hl := h.len
  have rl : (rD R).length < sizeLine := by unfold rD; rw [List.length_map]; omega
  show (if (rD R).length < sizeLine then some (Out.nx [L, B, .dict (putD (rD R) (.int w) (.bool true)), P, x, y, .int w]) else none) = _
  rw [if_pos rl, put_rD]
def lotsD (Ls : List (List Int)) : List D := Ls.map lotD
theorem any_dis {P : List (List Int)} {R : List Int} {k : Int} (h : ∀ v, v ∈ R ↔ ∃ p ∈ P, v ∈ p) : R.contains k = P.any fun p => p.contains k := by
  rw [Bool.eq_iff_iff, List.any_eq_true, List.contains_iff_mem, h]
  exact ⟨fun ⟨p, a, b⟩ => ⟨p, a, by simpa using b⟩, fun ⟨p, a, b⟩ => ⟨p, a, by simpa using b⟩⟩
theorem f_pieces {N : Nat} {ls : List Lf} (hp : IsPile N ls) (hN : N ≤ 1000) : f_pieces_of [pileD N ls] = some (.tuple (lotsD (pcs N ls N)), [pileD N ls]) := by
  have sz := size_le
  have hb := f_bonds (d := leavesD ls) (xs := ls) rfl hp.len
  have u1 : sSet 1 (xCall f_word_bonds (xCons (x2 dIx (xV 0) (xK (.int 1))) xNil)) [pileD N ls, .none, .none, .none, .none, .none, .none] = some (.nx [pileD N ls, .dict (bD (bonds ls)), .none, .none, .none, .none, .none]) := by
    have i1 : x2 dIx (xV 0) (xK (.int 1)) [pileD N ls, .none, .none, .none, .none, .none, .none] = some (leavesD ls) := dIx_pile1 _ _
    rw [sSet_e, xCall_e, xCons_e, i1, Option.bind_some, xNil_e, Option.bind_some, Option.bind_some, hb]
    rfl
  obtain ⟨δ', l, R, a, b, c, e, _, _⟩ := for_rng (i := 4) (n := N) (f := xCons (x2 dIx (xV 0) (xK (.int 0))) xNil) (b := sIf (bE (x2 dDNotIn (xV 4) (xV 2))) (sSeq (sSet 5 (xCall f_piece_by (xCons (xV 1) (xCons (xV 4) xNil)))) (sSeq (sDrop (xApp 3 (mOf (xV 5)))) (sFor (lSeq (xV 5)) (gSet 6) (sPutK 2 (mOf (xK (.bool true))) (xV 6))))) sNil)
    (δ := [pileD N ls, .dict (bD (bonds ls)), .dict (rD []), .list [], .none, .none, .none])
    (fun k δ => ∃ R a b c, δ = [pileD N ls, .dict (bD (bonds ls)), .dict (rD R), .list (lotsD (pcs N ls k)), a, b, c] ∧ Pl N R ∧ ∀ v, v ∈ R ↔ ∃ p ∈ pcs N ls k, v ∈ p)
    (by show ((dIx (pileD N ls) (.int 0)).bind fun x => some [x]) = _
        rw [dIx_pile0]; rfl) (by omega) ⟨[], .none, .none, .none, rfl, ⟨.nil, (fun _ h => nomatch h)⟩, fun v => ⟨(fun h => nomatch h), fun ⟨_, h, _⟩ => nomatch h⟩⟩ fun k δ hk ⟨R, a, b, c, e, hR, hm⟩ => by
      subst e
      have cc : bE (x2 dDNotIn (xV 4) (xV 2)) [pileD N ls, .dict (bD (bonds ls)), .dict (rD R), .list (lotsD (pcs N ls k)), .int k, b, c] = some (!(pcs N ls k).any fun p => p.contains (k : Int)) := by
        show (dDNotIn (.int k) (.dict (rD R))).bind toB = _
        unfold dDNotIn
        rw [dct_rD, Option.bind_some]
        show (if (true : Bool) = true then some (PyData.bool (!(posD (rD R) (.int k)).isSome)) else none).bind toB = _
        rw [if_pos rfl, rD_pos, any_dis hm]
        rfl
      show ∃ δ2, sIf _ _ _ [pileD N ls, .dict (bD (bonds ls)), .dict (rD R), .list (lotsD (pcs N ls k)), .int k, b, c] = some (.nx δ2) ∧ _
      rw [sIf_e, cc, Option.bind_some]
      cases q : (pcs N ls k).any fun p => p.contains (k : Int) with
      | true =>
        refine ⟨[pileD N ls, .dict (bD (bonds ls)), .dict (rD R), .list (lotsD (pcs N ls k)), .int k, b, c], by rw [if_neg (by decide)]; rfl, R, .int k, b, c, ?_, hR, ?_⟩
        · rw [pcs_old q]
        · rw [pcs_old q]
          exact hm
      | false =>
        have q' : ¬ ((pcs N ls k).any fun p => p.contains (k : Int)) = true := by rw [q]; exact Bool.false_ne_true
        have hkN : 0 ≤ (k : Int) ∧ (k : Int) < (N : Int) := ⟨by omega, by omega⟩
        obtain ⟨cs, p1, p2, p3, p4⟩ := f_piece (E := ls) (U := rngI N) (s := (k : Int)) (fun l hl => ⟨rngI_mem.mpr (hp.fst l hl), rngI_mem.mpr (hp.snd l hl)⟩) (rngI_lot N).1 (by rw [rngI_len]; exact hN) (rngI_mem.mpr hkN)
        have ec : cs = cmpW N ls k := asc_ext p2 (cmpW_lot N ls k).1 fun w => by rw [p3, cmpW_mem hp hkN]
        subst ec
        have pl := pcs_len N ls k
        have s1 : sSet 5 (xCall f_piece_by (xCons (xV 1) (xCons (xV 4) xNil))) [pileD N ls, .dict (bD (bonds ls)), .dict (rD R), .list (lotsD (pcs N ls k)), .int k, b, c] = some (.nx [pileD N ls, .dict (bD (bonds ls)), .dict (rD R), .list (lotsD (pcs N ls k)), .int k, lotD (cmpW N ls k), c]) := by
          have t : xCons (xV 1) (xCons (xV 4) xNil) [pileD N ls, .dict (bD (bonds ls)), .dict (rD R), .list (lotsD (pcs N ls k)), .int k, b, c] = some [.dict (bD (bonds ls)), .int k] := rfl
          rw [sSet_e, xCall_e, t, Option.bind_some, p1]
          rfl
        have s2 : sDrop (xApp 3 (mOf (xV 5))) [pileD N ls, .dict (bD (bonds ls)), .dict (rD R), .list (lotsD (pcs N ls k)), .int k, lotD (cmpW N ls k), c] = some (.nx [pileD N ls, .dict (bD (bonds ls)), .dict (rD R), .list (lotsD (pcs N ls k ++ [cmpW N ls k])), .int k, lotD (cmpW N ls k), c]) := by
          refine drop_e (d := .none) ?_
          rw [app_e (y := lotD (cmpW N ls k)) (ds := lotsD (pcs N ls k)) rfl rfl (by unfold lotsD; rw [List.length_map]; omega)]
          unfold lotsD
          rw [List.map_append]
          rfl
        obtain ⟨δ3, l3, c3, e3, hR3⟩ := forL_inv (tg := gSet 6) (b := sPutK 2 (mOf (xK (.bool true))) (xV 6)) (fun j δ => ∃ c, δ = [pileD N ls, .dict (bD (bonds ls)), .dict (rD (((cmpW N ls k).take j).foldl rput R)), .list (lotsD (pcs N ls k ++ [cmpW N ls k])), .int k, lotD (cmpW N ls k), c] ∧ Pl N (((cmpW N ls k).take j).foldl rput R)) ((cmpW N ls k).map .int) 0
          [pileD N ls, .dict (bD (bonds ls)), .dict (rD R), .list (lotsD (pcs N ls k ++ [cmpW N ls k])), .int k, lotD (cmpW N ls k), c] ⟨c, by rw [List.take_zero]; rfl, by rw [List.take_zero]; exact hR⟩ fun j d δ hd ⟨c, e, hj⟩ => by
            subst e
            rw [Nat.zero_add] at hj ⊢
            rw [List.getElem?_map] at hd
            obtain ⟨w, hw, rfl⟩ := Option.map_eq_some_iff.mp hd
            have tk : (cmpW N ls k).take (j + 1) = (cmpW N ls k).take j ++ [w] := by rw [List.take_succ, hw]; rfl
            have hwN := p4 w (List.mem_of_getElem? hw)
            rw [tk, List.foldl_append]
            exact ⟨_, _, rfl, sPut_e hN hj, .int w, rfl, hj.put hwN⟩
        subst e3
        rw [Nat.zero_add, List.length_map, List.take_length] at l3
        obtain ⟨f1, f2⟩ := fold_rput (N := N) (cmpW N ls k) R p4 hR
        refine ⟨[pileD N ls, .dict (bD (bonds ls)), .dict (rD ((cmpW N ls k).foldl rput R)), .list (lotsD (pcs N ls k ++ [cmpW N ls k])), .int k, lotD (cmpW N ls k), c3], ?_, (cmpW N ls k).foldl rput R, .int k, lotD (cmpW N ls k), c3, ?_, f1, fun v => ?_⟩
        · have hq : lSeq (xV 5) [pileD N ls, .dict (bD (bonds ls)), .dict (rD R), .list (lotsD (pcs N ls k ++ [cmpW N ls k])), .int k, lotD (cmpW N ls k), c] = some ((cmpW N ls k).map .int) := rfl
          rw [if_pos (by decide), sSeq_nx s1, sSeq_nx s2, sFor_e, hq, Option.bind_some, l3]
        · rw [pcs_new q']
        · rw [pcs_new q']; rw [f2, hm]
          constructor
          · rintro (⟨p, h1, h2⟩ | h)
            · exact ⟨p, List.mem_append_left _ h1, h2⟩
            · exact ⟨_, List.mem_append_right _ (List.mem_singleton.mpr rfl), h⟩
          · rintro ⟨p, h1, h2⟩
            rcases List.mem_append.mp h1 with h | h
            · exact .inl ⟨p, h, h2⟩
            · rw [List.mem_singleton.mp h] at h2
              exact .inr h2
  subst e
  have g : g_pieces_of [pileD N ls, .none, .none, .none, .none, .none, .none] = some (.rt (.tuple (lotsD (pcs N ls N))) [pileD N ls, .dict (bD (bonds ls)), .dict (rD R), .list (lotsD (pcs N ls N)), a, b, c]) := by
    unfold g_pieces_of
    rw [sSeq_nx u1, sSeq_nx (δ' := [pileD N ls, .dict (bD (bonds ls)), .dict (rD []), .none, .none, .none, .none]) rfl, sSeq_nx (δ' := [pileD N ls, .dict (bD (bonds ls)), .dict (rD []), .list [], .none, .none, .none]) rfl, sSeq_nx l]
    rfl
  unfold f_pieces_of
  rw [fnF_e]
  show (g_pieces_of [pileD N ls, .none, .none, .none, .none, .none, .none]).bind _ = _
  rw [g]
  rfl
end LawK02

set_option linter.all false
set_option maxRecDepth 10000
namespace LawK02
open PySem Pv
/-! k02: the pieces, counted -/
def selI (p : Lf → Bool) : Nat → List Lf → List Int
  | _, [] => []
  | k, l :: ls => if p l then (k : Int) :: selI p (k + 1) ls else selI p (k + 1) ls
theorem sel_I (p : Lf → Bool) : ∀ (k : Nat) (xs : List Lf), sel p k xs = (selI p k xs).map .int
  | _, [] => rfl
  | k, l :: ls => by
    rw [sel, selI, sel_I p (k + 1) ls]
    split <;> rfl
theorem selI_mem (p : Lf → Bool) : ∀ (k : Nat) (xs : List Lf) (i : Int), i ∈ selI p k xs ↔ ∃ (j : Nat) (l : Lf), xs[j]? = some l ∧ p l = true ∧ i = ((k + j : Nat) : Int)
  | _, [], i => ⟨(fun h => nomatch h), fun ⟨_, _, h, _⟩ => by simp at h⟩
  | k, x :: xs, i => by
    have ih := selI_mem p (k + 1) xs i
    rw [selI]
    constructor
    · intro h
      split at h
      · rename_i hx
        rcases List.mem_cons.mp h with e | e
        · exact ⟨0, x, rfl, hx, e⟩
        · obtain ⟨j, l, h1, h2, h3⟩ := ih.mp e
          exact ⟨j + 1, l, h1, h2, by rw [h3]; congr 1; omega⟩
      · obtain ⟨j, l, h1, h2, h3⟩ := ih.mp h
        exact ⟨j + 1, l, h1, h2, by rw [h3]; congr 1; omega⟩
    · rintro ⟨j, l, h1, h2, h3⟩
      cases j with
      | zero =>
        have : x = l := by simpa using h1
        subst this
        rw [if_pos h2, h3]
        exact List.mem_cons_self
      | succ j =>
        have := ih.mpr ⟨j, l, by simpa using h1, h2, by rw [h3]; congr 1; omega⟩
        split
        · exact List.mem_cons_of_mem _ this
        · exact this
theorem selI_asc (p : Lf → Bool) : ∀ (k : Nat) (xs : List Lf), (selI p k xs).Pairwise (· < ·)
  | _, [] => .nil
  | k, x :: xs => by
    have ih := selI_asc p (k + 1) xs
    rw [selI]
    split
    · refine List.pairwise_cons.mpr ⟨fun i hi => ?_, ih⟩
      obtain ⟨j, l, _, _, h⟩ := (selI_mem p (k + 1) xs i).mp hi
      omega
    · exact ih
theorem fm_nd {f : List Int → List Int} : ∀ {P : List (List Int)}, (P.Pairwise fun p q => ∀ i ∈ f p, i ∉ f q) → (∀ p ∈ P, (f p).Nodup) → (P.flatMap f).Nodup
  | [], _, _ => by simp
  | p :: P, h, g => by
    obtain ⟨h1, h2⟩ := List.pairwise_cons.mp h
    rw [List.flatMap_cons]
    refine List.nodup_append.mpr ⟨g p List.mem_cons_self, fm_nd h2 fun q hq => g q (List.mem_cons_of_mem _ hq), fun i hi j hj e => ?_⟩
    obtain ⟨q, q1, q2⟩ := List.mem_flatMap.mp hj
    exact h1 q q1 i hi (e ▸ q2)
/-- the leaves of some pieces -/
def held (ls : List Lf) (P : List (List Int)) : List Int := P.flatMap fun p => selI (inn p) 0 ls
theorem held_nd {N : Nat} {ls : List Lf} (hp : IsPile N ls) (j : Nat) : (held ls ((pcs N ls N).take j)).Nodup := by
  refine fm_nd ?_ fun p _ => asc_nd (selI_asc _ _ _)
  refine List.Pairwise.sublist (List.take_sublist j _) ((pcs_dis hp N (Nat.le_refl N)).imp fun {p q} h i hi hq => ?_)
  obtain ⟨a, l, h1, h2, h3⟩ := (selI_mem _ _ _ _).mp hi
  obtain ⟨b, m, g1, g2, g3⟩ := (selI_mem _ _ _ _).mp hq
  have : a = b := by omega
  subst this
  rw [h1] at g1
  cases g1
  unfold inn at h2 g2
  simp only [Bool.and_eq_true, List.contains_iff_mem] at h2 g2
  exact h _ h2.1 g2.1
theorem held_sub {ls : List Lf} {P : List (List Int)} {i : Int} (h : i ∈ held ls P) : i ∈ rngI ls.length := by
  obtain ⟨p, _, h⟩ := List.mem_flatMap.mp h
  obtain ⟨a, l, h1, _, h3⟩ := (selI_mem _ _ _ _).mp h
  have := (List.getElem?_eq_some_iff.mp h1).1
  exact rngI_mem.mpr ⟨by omega, by omega⟩
theorem held_len {N : Nat} {ls : List Lf} (hp : IsPile N ls) (j : Nat) : (held ls ((pcs N ls N).take j)).length ≤ ls.length := by
  have := (held_nd hp j).length_le_of_subset (l₂ := rngI ls.length) fun i hi => held_sub hi
  rwa [rngI_len] at this
theorem held_all {N : Nat} {ls : List Lf} (hp : IsPile N ls) : (held ls (pcs N ls N)).Perm (rngI ls.length) := by
  have nd := held_nd hp (pcs N ls N).length
  rw [List.take_length] at nd
  refine (List.perm_ext_iff_of_nodup nd (rngI_lot ls.length).nd).mpr fun i => ⟨held_sub, fun h => ?_⟩
  obtain ⟨h0, h1⟩ := rngI_mem.mp h
  obtain ⟨j, rfl⟩ := Int.eq_ofNat_of_zero_le h0
  have hj : j < ls.length := by omega
  have hl := List.getElem_mem hj
  obtain ⟨a, ha⟩ := Int.eq_ofNat_of_zero_le (hp.fst _ hl).1
  obtain ⟨p, p1, p2⟩ := pcs_cov hp N (Nat.le_refl N) a (by have := (hp.fst _ hl).2; omega)
  rw [← ha] at p2
  have p3 := ((pcs_pc N (Nat.le_refl N) p p1).clo hp _ hl).mp p2
  refine List.mem_flatMap.mpr ⟨p, p1, (selI_mem _ _ _ _).mpr ⟨j, ls[j], List.getElem?_eq_getElem hj, ?_, by rw [Nat.zero_add]⟩⟩
  unfold inn
  simp only [Bool.and_eq_true, List.contains_iff_mem]
  exact ⟨p2, p3⟩
theorem cmpP_fltL {i : Nat} {c : BF} {δ : List D} {p : List Int → Bool} (hc : ∀ w, c (δ.set i (lotD w)) = some (p w)) (hi : ∀ a : D, (δ.set i a)[i]? = some a) : ∀ ws : List (List Int), cmpP (gSet i) c (xV i) δ (ws.map lotD) = some ((ws.filter p).map lotD)
  | [] => rfl
  | l :: ls => by
    rw [List.map_cons, cmpP, gSet_e, Option.bind_some, hc l, Option.bind_some, cmpP_fltL hc hi ls, List.filter_cons]
    cases p l with
    | true => rw [if_pos rfl, if_pos rfl, xV_e, hi, Option.bind_some, Option.bind_some]; rfl
    | false => rw [if_neg Bool.false_ne_true, if_neg Bool.false_ne_true]
theorem ok_ints (k : Nat) : ∀ ws : List Int, (ws.map PyData.int).all (okS (k + 1)) = true
  | [] => rfl
  | w :: ws => by rw [List.map_cons, List.all_cons, ok_ints k ws]; rfl
theorem ok_lots {P : List (List Int)} (h1 : P.length ≤ 1000) (h2 : ∀ p ∈ P, p.length ≤ 1000) : okS 6 (.tuple (lotsD P)) = true := by
  have sz := size_le
  have e : (lotsD P).length ≤ sizeLine := by unfold lotsD; rw [List.length_map]; omega
  rw [okS_t, decide_eq_true e, Bool.true_and]
  unfold lotsD
  rw [List.all_map, List.all_eq_true]
  intro p hp
  have := h2 p hp
  show okS 5 (.tuple (p.map .int)) = true
  rw [okS_t, ok_ints, decide_eq_true (by rw [List.length_map]; omega)]
  rfl
theorem lst_rng5 {n : Nat} (h : n ≤ 100000) : oLstRng (.int n) = some (.list ((rngI n).map .int)) := by
  have e : oLstRng (.int n) = if -(2 ^ 62) ≤ (n : Int) ∧ (n : Int) ≤ 2 ^ 24 then some (.list (rngD 0 (n : Int).toNat)) else none := rfl
  rw [e, if_pos ⟨by omega, by omega⟩, Int.toNat_natCast, rngD_I]
theorem pc_gates {N : Nat} {ls : List Lf} (hp : IsPile N ls) {p : List Int} (h : IsPc N ls p) : (sel (gon p) 0 ls).length = 0 := by
  rw [sel_cnt, List.countP_eq_zero]
  intro l hl
  have := h.clo hp l hl
  unfold gon
  by_cases q : l.1 ∈ p
  · simp [q, this.mp q]
  · simp [q]
end LawK02

set_option linter.all false
set_option maxRecDepth 10000
namespace LawK02
open PySem Pv
/-! k02: the law's pieces -/
def dBody2 : SF := sIf (bE (x2 dEq (xL oLen (xCons (xCmp (lSeq (xV 3)) (gSet 5) (bE (x2 dIn (xV 4) (xV 5))) (xV 5)) xNil)) (xK (.int 0)))) (sDrop (xApp 3 (mOf (xCall f__law_grown (xCons (xV 0) (xCons (xV 4) (xCons (x1 oLstRng (xV 1)) xNil))))))) sNil
theorem dBody2_e {N : Nat} {ls : List Lf} (hp : IsPile N ls) (hN : N ≤ 1000) {k : Nat} (hk : k < N) (t h : D) : dBody2 [pileD N ls, .int N, leavesD ls, .list (lotsD (pcs N ls k)), .int k, .none, t, h] = some (.nx [pileD N ls, .int N, leavesD ls, .list (lotsD (pcs N ls (k + 1))), .int k, .none, t, h]) := by
  have sz := size_le
  have pl := pcs_len N ls k
  have hkN : 0 ≤ (k : Int) ∧ (k : Int) < (N : Int) := ⟨by omega, by omega⟩
  have xc : xCmp (lSeq (xV 3)) (gSet 5) (bE (x2 dIn (xV 4) (xV 5))) (xV 5) [pileD N ls, .int N, leavesD ls, .list (lotsD (pcs N ls k)), .int k, .none, t, h] = some (.list (((pcs N ls k).filter fun p => p.contains (k : Int)).map lotD)) := by
    have hs : cmpP (gSet 5) (bE (x2 dIn (xV 4) (xV 5))) (xV 5) [pileD N ls, .int N, leavesD ls, .list (lotsD (pcs N ls k)), .int k, .none, t, h] ((pcs N ls k).map lotD) = some (((pcs N ls k).filter fun p => p.contains (k : Int)).map lotD) := cmpP_fltL (fun p => by
      show (dIn (.int k) (lotD p)).bind toB = _
      rw [dIn_sq (sq_lot p)]
      rfl) (fun a => rfl) _
    have hq : lSeq (xV 3) [pileD N ls, .int N, leavesD ls, .list (lotsD (pcs N ls k)), .int k, .none, t, h] = some ((pcs N ls k).map lotD) := rfl
    rw [xCmp_e, hq, Option.bind_some, if_pos (by rw [List.length_map]; omega), hs]
    rfl
  have c : bE (x2 dEq (xL oLen (xCons (xCmp (lSeq (xV 3)) (gSet 5) (bE (x2 dIn (xV 4) (xV 5))) (xV 5)) xNil)) (xK (.int 0))) [pileD N ls, .int N, leavesD ls, .list (lotsD (pcs N ls k)), .int k, .none, t, h] = some (!(pcs N ls k).any fun p => p.contains (k : Int)) := by
    have z : (((((pcs N ls k).filter fun p => p.contains (k : Int)).length : Nat) : Int) == 0) = (!(pcs N ls k).any fun p => p.contains (k : Int)) := by
      rw [Bool.eq_iff_iff, beq_iff_eq, Bool.not_eq_true', List.any_eq_false]
      constructor
      · intro h p hp
        have h' : ((pcs N ls k).filter fun p => p.contains (k : Int)).length = 0 := by omega
        rw [List.length_eq_zero_iff, List.filter_eq_nil_iff] at h'
        exact h' p hp
      · intro h
        have h' : ((pcs N ls k).filter fun p => p.contains (k : Int)) = [] := List.filter_eq_nil_iff.mpr h
        rw [h']
        rfl
    rw [bE_e, x2_e, xL_e, xCons_e, xc, Option.bind_some, xNil_e, Option.bind_some, Option.bind_some, oLen_l, Option.bind_some, xK_e, Option.bind_some, dEq_e, Option.bind_some, toB_e, List.length_map, z]
  unfold dBody2
  rw [sIf_e, c, Option.bind_some]
  cases q : (pcs N ls k).any fun p => p.contains (k : Int) with
  | true =>
    rw [pcs_old q, if_neg (by decide)]
    rfl
  | false =>
    rw [pcs_new (by rw [q]; exact Bool.false_ne_true), if_pos (by decide)]
    obtain ⟨cs, g1, g2, g3, g4⟩ := f_grown (N := N) (ls := ls) (P := .list ((rngI N).map .int)) (part := rngI N) (s := (k : Int)) (sq_list _) (rngI_lot N).1 (by rw [rngI_len]; exact hN) (rngI_mem.mpr hkN) (by rw [oLen_l, List.length_map])
    rw [inn_all hp] at g3
    have ec : cs = cmpW N ls k := asc_ext g2 (cmpW_lot N ls k).1 fun w => by rw [g3, cmpW_mem hp hkN]
    subst ec
    have r : x1 oLstRng (xV 1) [pileD N ls, .int N, leavesD ls, .list (lotsD (pcs N ls k)), .int k, .none, t, h] = some (.list ((rngI N).map .int)) := lst_rng5 (by omega)
    have ar : xCons (xV 0) (xCons (xV 4) (xCons (x1 oLstRng (xV 1)) xNil)) [pileD N ls, .int N, leavesD ls, .list (lotsD (pcs N ls k)), .int k, .none, t, h] = some [pileD N ls, .int k, .list ((rngI N).map .int)] := by
      rw [xCons_e, xCons_e, xCons_e, r]
      rfl
    have y : xCall f__law_grown (xCons (xV 0) (xCons (xV 4) (xCons (x1 oLstRng (xV 1)) xNil))) [pileD N ls, .int N, leavesD ls, .list (lotsD (pcs N ls k)), .int k, .none, t, h] = some (lotD (cmpW N ls k)) := by
      rw [xCall_e, ar, Option.bind_some, g1]
      rfl
    refine drop_e (d := .none) ?_
    rw [app_e (y := lotD (cmpW N ls k)) (ds := lotsD (pcs N ls k)) y rfl (by unfold lotsD; rw [List.length_map]; omega)]
    show some (PyData.none, [pileD N ls, .int N, leavesD ls, .list (lotsD (pcs N ls k) ++ [lotD (cmpW N ls k)]), .int k, .none, t, h]) = some (PyData.none, [pileD N ls, .int N, leavesD ls, .list (lotsD (pcs N ls k ++ [cmpW N ls k])), .int k, .none, t, h])
    unfold lotsD
    rw [List.map_append]
    rfl
def tBody2 : SF := sSeq (sDrop (xExt 7 (mOf (xL oLst (xCons (xCall f_within (xCons (xV 0) (xCons (xV 5) xNil))) xNil))))) (sIf (bOr (bE (x2 dNotB (xCall f_hangs_together (xCons (xV 0) (xCons (xV 5) xNil))) (xK (.bool true)))) (bE (x2 dNe (xCall f_gates_of (xCons (xV 0) (xCons (xV 5) xNil))) (xK (.int 0))))) (sRet (xK (.bool false))) sNil)
theorem tBody2_e {N : Nat} {ls : List Lf} (hp : IsPile N ls) (hN : N ≤ 1000) {p : List Int} (h : IsPc N ls p) (x y z w t : D) (hs : List Int) (hl : hs.length ≤ 100000) : tBody2 [pileD N ls, x, y, z, w, lotD p, t, .list (hs.map .int)] = some (.nx [pileD N ls, x, y, z, w, lotD p, t, .list ((hs ++ selI (inn p) 0 ls).map .int)]) := by
  have sz : 300000 < sizeLine := by decide
  have hls := hp.sz
  have ps := hp.len
  have ar : ∀ q : D, xCons (xV 0) (xCons (xV 5) xNil) [pileD N ls, x, y, z, w, lotD p, t, q] = some [pileD N ls, lotD p] := fun q => rfl
  have hw := f_within_e N ls p h.lot hls
  have s1 : sDrop (xExt 7 (mOf (xL oLst (xCons (xCall f_within (xCons (xV 0) (xCons (xV 5) xNil))) xNil)))) [pileD N ls, x, y, z, w, lotD p, t, .list (hs.map .int)] = some (.nx [pileD N ls, x, y, z, w, lotD p, t, .list ((hs ++ selI (inn p) 0 ls).map .int)]) := by
    have e : xL oLst (xCons (xCall f_within (xCons (xV 0) (xCons (xV 5) xNil))) xNil) [pileD N ls, x, y, z, w, lotD p, t, .list (hs.map .int)] = some (.list ((selI (inn p) 0 ls).map .int)) := by
      rw [xL_e, xCons_e, xCall_e, ar, Option.bind_some, hw, Option.map_some, Option.bind_some, xNil_e, Option.bind_some, Option.bind_some, oLst_t, sel_I]
    have sl : (selI (inn p) 0 ls).length ≤ ls.length := by
      have := sel_len (inn p) 0 ls
      rw [sel_I, List.length_map] at this
      exact this
    refine drop_e (d := .none) ?_
    unfold xExt
    rw [mOf_e, e, Option.map_some, Option.bind_some]
    show (getL [pileD N ls, x, y, z, w, lotD p, t, .list (hs.map .int)] 7).bind _ = _
    rw [getL_e (ds := hs.map .int) rfl, Option.bind_some, if_pos (by rw [List.length_map, List.length_map]; omega), List.map_append]
    rfl
  obtain ⟨r, e1, e2⟩ := f_hangs hp.len hN h.lot
  have hr : r = true := e2.mpr (h.hang hp)
  subst hr
  have hg := f_gates N ls p h.lot hls
  rw [pc_gates hp h] at hg
  have c1 : bE (x2 dNotB (xCall f_hangs_together (xCons (xV 0) (xCons (xV 5) xNil))) (xK (.bool true))) [pileD N ls, x, y, z, w, lotD p, t, .list ((hs ++ selI (inn p) 0 ls).map .int)] = some false := by
    rw [bE_e, x2_e, xCall_e, ar, Option.bind_some, e1]
    rfl
  have c2 : bE (x2 dNe (xCall f_gates_of (xCons (xV 0) (xCons (xV 5) xNil))) (xK (.int 0))) [pileD N ls, x, y, z, w, lotD p, t, .list ((hs ++ selI (inn p) 0 ls).map .int)] = some false := by
    rw [bE_e, x2_e, xCall_e, ar, Option.bind_some, hg, Option.map_some, Option.bind_some, xK_e, Option.bind_some, dNe_e]
    rfl
  unfold tBody2
  rw [sSeq_nx s1, sIf_e, bOr_e, c1, Option.bind_some, if_neg Bool.false_ne_true, c2]
  rfl
theorem f_lpieces {N : Nat} {ls : List Lf} (hp : IsPile N ls) (hN : N ≤ 1000) : ∃ d', f__law_pieces [pileD N ls] = some (.bool true, d') := by
  have sz := size_le
  have ps := hp.len
  obtain ⟨δ', l1, a, e⟩ := for_rng (i := 4) (n := N) (f := xCons (xV 1) xNil) (b := dBody2) (δ := [pileD N ls, .int N, leavesD ls, .list [], .none, .none, .none, .none])
    (fun k δ => ∃ a, δ = [pileD N ls, .int N, leavesD ls, .list (lotsD (pcs N ls k)), a, .none, .none, .none]) rfl (by omega) ⟨.none, rfl⟩ fun k δ hk ⟨a, e⟩ => by
      subst e
      exact ⟨_, dBody2_e hp hN hk .none .none, .int k, rfl⟩
  subst e
  have u1 : sUnp (xV 0) (gTupD [1, 2]) [pileD N ls, .none, .none, .none, .none, .none, .none, .none] = some (.nx [pileD N ls, .int N, leavesD ls, .none, .none, .none, .none, .none]) := rfl
  have u2 : sSet 3 (xK (.list [])) [pileD N ls, .int N, leavesD ls, .none, .none, .none, .none, .none] = some (.nx [pileD N ls, .int N, leavesD ls, .list [], .none, .none, .none, .none]) := rfl
  have u3 : sSet 6 (xCall f_pieces_of (xRo [0] (xCons (xV 0) xNil))) [pileD N ls, .int N, leavesD ls, .list (lotsD (pcs N ls N)), a, .none, .none, .none] = some (.nx [pileD N ls, .int N, leavesD ls, .list (lotsD (pcs N ls N)), a, .none, .tuple (lotsD (pcs N ls N)), .none]) := by
    have t : xRo [0] (xCons (xV 0) xNil) [pileD N ls, .int N, leavesD ls, .list (lotsD (pcs N ls N)), a, .none, .none, .none] = some [pileD N ls] := rfl
    rw [sSet_e, xCall_e, t, Option.bind_some, f_pieces hp hN]
    rfl
  have ok : okS 6 (.tuple (lotsD (pcs N ls N))) = true := ok_lots (by have := pcs_len N ls N; omega) fun p hp' => by
    have := (pcs_pc N (Nat.le_refl N) p hp').lot.len
    omega
  have u4 : sIf (bNot (bE (xCall (f__law_same 6) (xCons (xV 6) (xCons (xL oTup (xCons (xV 3) xNil)) xNil))))) (sRet (xK (.bool false))) sNil [pileD N ls, .int N, leavesD ls, .list (lotsD (pcs N ls N)), a, .none, .tuple (lotsD (pcs N ls N)), .none] = some (.nx [pileD N ls, .int N, leavesD ls, .list (lotsD (pcs N ls N)), a, .none, .tuple (lotsD (pcs N ls N)), .none]) := by
    have t : xCons (xV 6) (xCons (xL oTup (xCons (xV 3) xNil)) xNil) [pileD N ls, .int N, leavesD ls, .list (lotsD (pcs N ls N)), a, .none, .tuple (lotsD (pcs N ls N)), .none] = some [.tuple (lotsD (pcs N ls N)), .tuple (lotsD (pcs N ls N))] := rfl
    rw [sIf_e, bNot_e, bE_e, xCall_e, t, Option.bind_some, same_refl 6 _ ok]
    rfl
  have u5 : sSet 7 (xK (.list [])) [pileD N ls, .int N, leavesD ls, .list (lotsD (pcs N ls N)), a, .none, .tuple (lotsD (pcs N ls N)), .none] = some (.nx [pileD N ls, .int N, leavesD ls, .list (lotsD (pcs N ls N)), a, .none, .tuple (lotsD (pcs N ls N)), .list (([] : List Int).map .int)]) := rfl
  obtain ⟨δ2, l2, b, e2⟩ := forL_inv (tg := gSet 5) (b := tBody2) (fun j δ => ∃ b, δ = [pileD N ls, .int N, leavesD ls, .list (lotsD (pcs N ls N)), a, b, .tuple (lotsD (pcs N ls N)), .list ((held ls ((pcs N ls N).take j)).map .int)]) ((pcs N ls N).map lotD) 0
    [pileD N ls, .int N, leavesD ls, .list (lotsD (pcs N ls N)), a, .none, .tuple (lotsD (pcs N ls N)), .list (([] : List Int).map .int)] ⟨.none, rfl⟩ fun j d δ hd ⟨b, e⟩ => by
      subst e
      rw [Nat.zero_add]
      rw [List.getElem?_map] at hd
      obtain ⟨p, hj, rfl⟩ := Option.map_eq_some_iff.mp hd
      have hpc := pcs_pc N (Nat.le_refl N) p (List.mem_of_getElem? hj)
      have hl := held_len hp j
      refine ⟨_, _, rfl, tBody2_e hp hN hpc _ _ _ _ _ _ (by omega), lotD p, ?_⟩
      have tk : (pcs N ls N).take (j + 1) = (pcs N ls N).take j ++ [p] := by rw [List.take_succ, hj]; rfl
      rw [tk]
      unfold held
      rw [List.flatMap_append, List.flatMap_singleton]
  subst e2
  rw [Nat.zero_add, List.length_map, List.take_length] at l2
  have u6 : sFor (lSeq (xV 6)) (gSet 5) tBody2 [pileD N ls, .int N, leavesD ls, .list (lotsD (pcs N ls N)), a, .none, .tuple (lotsD (pcs N ls N)), .list (([] : List Int).map .int)] = some (.nx [pileD N ls, .int N, leavesD ls, .list (lotsD (pcs N ls N)), a, b, .tuple (lotsD (pcs N ls N)), .list ((held ls (pcs N ls N)).map .int)]) := by
    have q : lSeq (xV 6) [pileD N ls, .int N, leavesD ls, .list (lotsD (pcs N ls N)), a, .none, .tuple (lotsD (pcs N ls N)), .list (([] : List Int).map .int)] = some ((pcs N ls N).map lotD) := rfl
    rw [sFor_e, q, Option.bind_some, l2]
  have u7 : sRet (x2 dEq (x1 oSorted (xV 7)) (x1 oLstRng (xL oLen (xCons (xV 2) xNil)))) [pileD N ls, .int N, leavesD ls, .list (lotsD (pcs N ls N)), a, b, .tuple (lotsD (pcs N ls N)), .list ((held ls (pcs N ls N)).map .int)] = some (.rt (.bool true) [pileD N ls, .int N, leavesD ls, .list (lotsD (pcs N ls N)), a, b, .tuple (lotsD (pcs N ls N)), .list ((held ls (pcs N ls N)).map .int)]) := by
    have o1 : x1 oSorted (xV 7) [pileD N ls, .int N, leavesD ls, .list (lotsD (pcs N ls N)), a, b, .tuple (lotsD (pcs N ls N)), .list ((held ls (pcs N ls N)).map .int)] = some (.list ((rngI ls.length).map .int)) := sorted_ints (rngI_lot ls.length).1 (held_all hp)
    have o2 : x1 oLstRng (xL oLen (xCons (xV 2) xNil)) [pileD N ls, .int N, leavesD ls, .list (lotsD (pcs N ls N)), a, b, .tuple (lotsD (pcs N ls N)), .list ((held ls (pcs N ls N)).map .int)] = some (.list ((rngI ls.length).map .int)) := by
      have o3 : xL oLen (xCons (xV 2) xNil) [pileD N ls, .int N, leavesD ls, .list (lotsD (pcs N ls N)), a, b, .tuple (lotsD (pcs N ls N)), .list ((held ls (pcs N ls N)).map .int)] = some (.int ((ls.length : Nat) : Int)) := by
        show some (PyData.int ((ls.map leafD).length : Nat)) = _
        rw [List.length_map]
      rw [x1_e, o3, Option.bind_some, lst_rng5 hp.len]
    rw [sRet_e, x2_e, o1, Option.bind_some, o2, Option.bind_some, dEq_list, decide_eq_true rfl]
    rfl
  unfold dBody2 at l1
  unfold tBody2 at u6
  refine ⟨[pileD N ls], ?_⟩
  have g : g__law_pieces [pileD N ls, .none, .none, .none, .none, .none, .none, .none] = some (.rt (.bool true) [pileD N ls, .int N, leavesD ls, .list (lotsD (pcs N ls N)), a, b, .tuple (lotsD (pcs N ls N)), .list ((held ls (pcs N ls N)).map .int)]) := by
    unfold g__law_pieces
    rw [sSeq_nx u1, sSeq_nx u2, sSeq_nx l1, sSeq_nx u3, sSeq_nx u4, sSeq_nx u5, sSeq_nx u6]
    exact u7
  unfold f__law_pieces
  rw [fnF_e]
  show (g__law_pieces [pileD N ls, .none, .none, .none, .none, .none, .none, .none]).bind _ = _
  rw [g]
  rfl
end LawK02

set_option linter.all false
set_option maxRecDepth 10000
namespace LawK02
open PySem Pv
/-! k02: the gates -/
theorem cmpP_mapI {i : Nat} {f : EF} {δ : List D} {g : Int → D} : ∀ ws : List Int, (∀ w ∈ ws, f (δ.set i (.int w)) = some (g w)) → cmpP (gSet i) bYes f δ (ws.map .int) = some (ws.map g)
  | [], _ => rfl
  | w :: ws, h => by
    rw [List.map_cons, cmpP, gSet_e, Option.bind_some, bYes_e, Option.bind_some, if_pos rfl, h w List.mem_cons_self, Option.bind_some, cmpP_mapI ws fun v hv => h v (List.mem_cons_of_mem _ hv)]
    rfl
theorem ints_e : ∀ ns : List Int, intsD (ns.map .int) = some ns
  | [] => rfl
  | n :: ns => by
    rw [List.map_cons, intsD, ints_e ns]
    rfl
theorem cnt_cong {ls : List Lf} {p q : Lf → Bool} (h : ∀ l ∈ ls, p l = q l) : ls.countP p = ls.countP q := by
  refine List.countP_congr fun l hl => ?_
  rw [h l hl]
theorem out_mem {N : Nat} {ws : List Int} {x : Int} (h : 0 ≤ x ∧ x < (N : Int)) : ((rngI N).filter fun w => !ws.contains w).contains x = !ws.contains x := by
  have : (rngI N).contains x = true := by simpa using rngI_mem.mpr h
  rw [cont_flt, this, Bool.true_and]
def gBody3 : SF := sSeq (sSet 10 (xCmp (lOf rng1 (xCons (x2 dIx (xV 0) (xK (.int 0))) xNil)) (gSet 4) (bE (x2 dNotIn (xV 4) (xV 9))) (xV 4))) (sSeq (sIf (bNot (bE (xCall (f__law_same 6) (xCons (xCall f_gates_of (xCons (xV 0) (xCons (xV 9) xNil))) (xCons (xCall f__law_across (xCons (xV 0) (xCons (xV 9) (xCons (xV 10) xNil)))) xNil))))) (sRet (xK (.bool false))) sNil) (sSeq (sSet 11 (x2 dSub (xL oLen (xCons (xCall f_entering (xRo [1, 0] (xCons (xV 9) (xCons (xV 0) xNil)))) xNil)) (xL oLen (xCons (xCall f_leaving (xCons (xV 0) (xCons (xV 9) xNil))) xNil)))) (sSeq (sIf (bE (x2 dNe (xV 11) (xL oSum (xCons (xCmp (lSeq (xV 9)) (gSet 4) bYes (xCall f_surplus_of (xCons (xV 0) (xCons (xV 4) xNil)))) xNil)))) (sRet (xK (.bool false))) sNil) (sIf (bOr (bE (x2 dNe (xL oLen (xCons (xCall f_within (xCons (xV 0) (xCons (xV 9) xNil))) xNil)) (xCall f__law_across (xCons (xV 0) (xCons (xV 9) (xCons (xV 9) xNil)))))) (bNot (bE (xCall f__law_hangs (xCons (xV 0) (xCons (xV 9) xNil)))))) (sRet (xK (.bool false))) sNil))))
theorem gBody3_e {N : Nat} {ls : List Lf} (hp : IsPile N ls) (hN : N ≤ 1000) {ws : List Int} (h : IsLot N ws) (a b c d e f g o u : D) : ∃ o' u', gBody3 [pileD N ls, a, b, c, .none, d, e, f, g, lotD ws, o, u] = some (.nx [pileD N ls, a, b, c, .none, d, e, f, g, lotD ws, o', u']) := by
  have sz := size_le
  have hls := hp.sz
  have ps := hp.len
  have wl := h.len
  obtain ⟨O, hO⟩ : ∃ O, O = (rngI N).filter fun w => !ws.contains w := ⟨_, rfl⟩
  have s1 : sSet 10 (xCmp (lOf rng1 (xCons (x2 dIx (xV 0) (xK (.int 0))) xNil)) (gSet 4) (bE (x2 dNotIn (xV 4) (xV 9))) (xV 4)) [pileD N ls, a, b, c, .none, d, e, f, g, lotD ws, o, u] = some (.nx [pileD N ls, a, b, c, .none, d, e, f, g, lotD ws, .list (O.map .int), u]) := by
    have r := rng_of (n := N) (δ := [pileD N ls, a, b, c, .none, d, e, f, g, lotD ws, o, u]) (f := xCons (x2 dIx (xV 0) (xK (.int 0))) xNil) (by
      show ((dIx (pileD N ls) (.int 0)).bind fun x => some [x]) = _
      rw [dIx_pile0]; rfl) (by omega)
    have hs : cmpP (gSet 4) (bE (x2 dNotIn (xV 4) (xV 9))) (xV 4) [pileD N ls, a, b, c, .none, d, e, f, g, lotD ws, o, u] ((rngI N).map .int) = some (O.map .int) := by
      rw [hO]
      exact cmpP_fltI (fun a => rfl) (rngI N) fun w _ => by
        show (dNotIn (.int w) (lotD ws)).bind toB = _
        rw [dNotIn_sq (sq_lot ws)]
        rfl
    rw [sSet_e, xCmp_e, r, Option.bind_some, if_pos (by rw [rng_len]; omega), rngD_I, hs]
    rfl
  have hg := f_gates N ls ws h hls
  have ha := f_across (N := N) hls (sq_lot ws) (sq_list O)
  have he := f_entering_e N ls ws h hls
  have hv := f_leaving_e N ls ws h hls
  have hw := f_within_e N ls ws h hls
  have ha2 := f_across (N := N) hls (sq_lot ws) (sq_lot ws)
  have eqc : ls.countP (fun l => ws.contains l.1 && O.contains l.2) = ls.countP (gon ws) := cnt_cong fun l hl => by
    rw [hO, out_mem (hp.snd l hl)]
    rfl
  rw [eqc] at ha
  rw [sel_cnt] at hg
  have t2 : ∀ x y : D, xCons (xV 0) (xCons (xV 9) xNil) [pileD N ls, a, b, c, .none, d, e, f, g, lotD ws, x, y] = some [pileD N ls, lotD ws] := fun x y => rfl
  have s2 : sIf (bNot (bE (xCall (f__law_same 6) (xCons (xCall f_gates_of (xCons (xV 0) (xCons (xV 9) xNil))) (xCons (xCall f__law_across (xCons (xV 0) (xCons (xV 9) (xCons (xV 10) xNil)))) xNil))))) (sRet (xK (.bool false))) sNil [pileD N ls, a, b, c, .none, d, e, f, g, lotD ws, .list (O.map .int), u] = some (.nx [pileD N ls, a, b, c, .none, d, e, f, g, lotD ws, .list (O.map .int), u]) := by
    have t3 : xCons (xV 0) (xCons (xV 9) (xCons (xV 10) xNil)) [pileD N ls, a, b, c, .none, d, e, f, g, lotD ws, .list (O.map .int), u] = some [pileD N ls, lotD ws, .list (O.map .int)] := rfl
    rw [sIf_e, bNot_e, bE_e, xCall_e, xCons_e, xCall_e, t2, Option.bind_some, hg, Option.map_some, Option.bind_some, xCons_e, xCall_e, t3, Option.bind_some, ha, Option.map_some, Option.bind_some, xNil_e, Option.bind_some, Option.bind_some, Option.bind_some, same_int]
    rfl
  have s3 : sSet 11 (x2 dSub (xL oLen (xCons (xCall f_entering (xRo [1, 0] (xCons (xV 9) (xCons (xV 0) xNil)))) xNil)) (xL oLen (xCons (xCall f_leaving (xCons (xV 0) (xCons (xV 9) xNil))) xNil))) [pileD N ls, a, b, c, .none, d, e, f, g, lotD ws, .list (O.map .int), u] =
      some (.nx [pileD N ls, a, b, c, .none, d, e, f, g, lotD ws, .list (O.map .int), .int (((ls.countP (com ws) : Nat) : Int) - ((ls.countP (gon ws) : Nat) : Int))]) := by
    have t4 : xRo [1, 0] (xCons (xV 9) (xCons (xV 0) xNil)) [pileD N ls, a, b, c, .none, d, e, f, g, lotD ws, .list (O.map .int), u] = some [pileD N ls, lotD ws] := rfl
    rw [sSet_e, x2_e, xL_e, xCons_e, xCall_e, t4, Option.bind_some, he, Option.map_some, Option.bind_some, xNil_e, Option.bind_some, Option.bind_some, oLen_t, Option.bind_some, xL_e, xCons_e, xCall_e, t2, Option.bind_some, hv, Option.map_some, Option.bind_some, xNil_e, Option.bind_some, Option.bind_some, oLen_t, Option.bind_some, dSub_e, sel_cnt, sel_cnt]
    rfl
  have s4 : sIf (bE (x2 dNe (xV 11) (xL oSum (xCons (xCmp (lSeq (xV 9)) (gSet 4) bYes (xCall f_surplus_of (xCons (xV 0) (xCons (xV 4) xNil)))) xNil)))) (sRet (xK (.bool false))) sNil [pileD N ls, a, b, c, .none, d, e, f, g, lotD ws, .list (O.map .int), .int (((ls.countP (com ws) : Nat) : Int) - ((ls.countP (gon ws) : Nat) : Int))] =
      some (.nx [pileD N ls, a, b, c, .none, d, e, f, g, lotD ws, .list (O.map .int), .int (((ls.countP (com ws) : Nat) : Int) - ((ls.countP (gon ws) : Nat) : Int))]) := by
    have hs := cmpP_mapI (i := 4) (f := xCall f_surplus_of (xCons (xV 0) (xCons (xV 4) xNil))) (δ := [pileD N ls, a, b, c, .none, d, e, f, g, lotD ws, .list (O.map .int), .int (((ls.countP (com ws) : Nat) : Int) - ((ls.countP (gon ws) : Nat) : Int))]) (g := fun w => .int (((ls.countP fun l => l.2 == w : Nat) : Int) - ((ls.countP fun l => l.1 == w : Nat) : Int))) ws fun w hw => by
      have q := h.2 w hw
      have sp := f_surplus N ls w q.1 q.2 hls
      rw [sel_cnt, sel_cnt] at sp
      show (f_surplus_of [pileD N ls, .int w]).map (·.1) = _
      rw [sp]
      rfl
    have xc : xCmp (lSeq (xV 9)) (gSet 4) bYes (xCall f_surplus_of (xCons (xV 0) (xCons (xV 4) xNil))) [pileD N ls, a, b, c, .none, d, e, f, g, lotD ws, .list (O.map .int), .int (((ls.countP (com ws) : Nat) : Int) - ((ls.countP (gon ws) : Nat) : Int))] = some (.list ((ws.map fun w => ((ls.countP fun l => l.2 == w : Nat) : Int) - ((ls.countP fun l => l.1 == w : Nat) : Int)).map .int)) := by
      have hq : lSeq (xV 9) [pileD N ls, a, b, c, .none, d, e, f, g, lotD ws, .list (O.map .int), .int (((ls.countP (com ws) : Nat) : Int) - ((ls.countP (gon ws) : Nat) : Int))] = some (ws.map .int) := rfl
      rw [xCmp_e, hq, Option.bind_some, if_pos (by rw [List.length_map]; omega), hs, List.map_map]
      rfl
    have os : oSum [.list ((ws.map fun w => ((ls.countP fun l => l.2 == w : Nat) : Int) - ((ls.countP fun l => l.1 == w : Nat) : Int)).map .int)] = some (.int (((ls.countP (com ws) : Nat) : Int) - ((ls.countP (gon ws) : Nat) : Int))) := by
      unfold oSum
      simp only [ints_e, Option.map_some]
      rw [sur_sum ls ws h.nd, ent_lea]
    have t11 : xV 11 [pileD N ls, a, b, c, .none, d, e, f, g, lotD ws, .list (O.map .int), .int (((ls.countP (com ws) : Nat) : Int) - ((ls.countP (gon ws) : Nat) : Int))] = some (.int (((ls.countP (com ws) : Nat) : Int) - ((ls.countP (gon ws) : Nat) : Int))) := rfl
    rw [sIf_e, bE_e, x2_e, t11, Option.bind_some, xL_e, xCons_e, xc, Option.bind_some, xNil_e, Option.bind_some, Option.bind_some, os, Option.bind_some, dNe_e, beq_self_eq_true]
    rfl
  obtain ⟨d', hh⟩ := f_lhangs hp.len hN h
  have s5 : sIf (bOr (bE (x2 dNe (xL oLen (xCons (xCall f_within (xCons (xV 0) (xCons (xV 9) xNil))) xNil)) (xCall f__law_across (xCons (xV 0) (xCons (xV 9) (xCons (xV 9) xNil)))))) (bNot (bE (xCall f__law_hangs (xCons (xV 0) (xCons (xV 9) xNil)))))) (sRet (xK (.bool false))) sNil [pileD N ls, a, b, c, .none, d, e, f, g, lotD ws, .list (O.map .int), .int (((ls.countP (com ws) : Nat) : Int) - ((ls.countP (gon ws) : Nat) : Int))] =
      some (.nx [pileD N ls, a, b, c, .none, d, e, f, g, lotD ws, .list (O.map .int), .int (((ls.countP (com ws) : Nat) : Int) - ((ls.countP (gon ws) : Nat) : Int))]) := by
    have t5 : xCons (xV 0) (xCons (xV 9) (xCons (xV 9) xNil)) [pileD N ls, a, b, c, .none, d, e, f, g, lotD ws, .list (O.map .int), .int (((ls.countP (com ws) : Nat) : Int) - ((ls.countP (gon ws) : Nat) : Int))] = some [pileD N ls, lotD ws, lotD ws] := rfl
    have ei : ls.countP (inn ws) = ls.countP (fun l => ws.contains l.1 && ws.contains l.2) := rfl
    rw [sIf_e, bOr_e, bE_e, x2_e, xL_e, xCons_e, xCall_e, t2, Option.bind_some, hw, Option.map_some, Option.bind_some, xNil_e, Option.bind_some, Option.bind_some, oLen_t, Option.bind_some, xCall_e, t5, Option.bind_some, ha2, Option.map_some, Option.bind_some, sel_cnt, ei, dNe_e, beq_self_eq_true]
    show (((bNot (bE (xCall f__law_hangs (xCons (xV 0) (xCons (xV 9) xNil)))) [pileD N ls, a, b, c, .none, d, e, f, g, lotD ws, .list (O.map .int), .int (((ls.countP (com ws) : Nat) : Int) - ((ls.countP (gon ws) : Nat) : Int))]))).bind _ = _
    rw [bNot_e, bE_e, xCall_e, t2, Option.bind_some, hh]
    rfl
  refine ⟨.list (O.map .int), .int (((ls.countP (com ws) : Nat) : Int) - ((ls.countP (gon ws) : Nat) : Int)), ?_⟩
  unfold gBody3
  rw [sSeq_nx s1, sSeq_nx s2, sSeq_nx s3, sSeq_nx s4, s5]
theorem f_lgates {N : Nat} {ls : List Lf} (hp : IsPile N ls) (hN : N ≤ 1000) {A B : List Int} (hA : IsLot N A) (hB : IsLot N B) : ∃ d', f__law_gates [pileD N ls, lotD A, lotD B] = some (.bool true, d') := by
  have sz := size_le
  have hls := hp.sz
  have la := hA.len
  have lb := hB.len
  obtain ⟨C, hC⟩ : ∃ C, C = A.filter fun w => B.contains w := ⟨_, rfl⟩
  obtain ⟨J, hJ⟩ : ∃ J, J = (rngI N).filter fun w => A.contains w || B.contains w := ⟨_, rfl⟩
  obtain ⟨P, hP⟩ : ∃ P, P = A.filter fun w => !B.contains w := ⟨_, rfl⟩
  obtain ⟨Q, hQ⟩ : ∃ Q, Q = B.filter fun w => !A.contains w := ⟨_, rfl⟩
  have lC : IsLot N C := by rw [hC]; exact hA.flt _
  have lJ : IsLot N J := by rw [hJ]; exact (rngI_lot N).flt _
  have u1 : sSet 3 (xL oTup (xCons (xCmp (lSeq (xV 1)) (gSet 4) (bE (x2 dIn (xV 4) (xV 2))) (xV 4)) xNil)) [pileD N ls, lotD A, lotD B, .none, .none, .none, .none, .none, .none, .none, .none, .none] = some (.nx [pileD N ls, lotD A, lotD B, lotD C, .none, .none, .none, .none, .none, .none, .none, .none]) := by
    have hs : cmpP (gSet 4) (bE (x2 dIn (xV 4) (xV 2))) (xV 4) [pileD N ls, lotD A, lotD B, .none, .none, .none, .none, .none, .none, .none, .none, .none] (A.map .int) = some (C.map .int) := by
      rw [hC]
      exact cmpP_fltI (fun a => rfl) A fun w _ => by
        show (dIn (.int w) (lotD B)).bind toB = _
        rw [dIn_sq (sq_lot B)]
        rfl
    have hq : lSeq (xV 1) [pileD N ls, lotD A, lotD B, .none, .none, .none, .none, .none, .none, .none, .none, .none] = some (A.map .int) := rfl
    rw [sSet_e, xL_e, xCons_e, xCmp_e, hq, Option.bind_some, if_pos (by rw [List.length_map]; omega), hs]
    rfl
  have u2 : sSet 5 (xL oTup (xCons (xCmp (lOf rng1 (xCons (x2 dIx (xV 0) (xK (.int 0))) xNil)) (gSet 4) (bOr (bE (x2 dIn (xV 4) (xV 1))) (bE (x2 dIn (xV 4) (xV 2)))) (xV 4)) xNil)) [pileD N ls, lotD A, lotD B, lotD C, .none, .none, .none, .none, .none, .none, .none, .none] = some (.nx [pileD N ls, lotD A, lotD B, lotD C, .none, lotD J, .none, .none, .none, .none, .none, .none]) := by
    have r := rng_of (n := N) (δ := [pileD N ls, lotD A, lotD B, lotD C, .none, .none, .none, .none, .none, .none, .none, .none]) (f := xCons (x2 dIx (xV 0) (xK (.int 0))) xNil) (by
      show ((dIx (pileD N ls) (.int 0)).bind fun x => some [x]) = _
      rw [dIx_pile0]; rfl) (by omega)
    have hs : cmpP (gSet 4) (bOr (bE (x2 dIn (xV 4) (xV 1))) (bE (x2 dIn (xV 4) (xV 2)))) (xV 4) [pileD N ls, lotD A, lotD B, lotD C, .none, .none, .none, .none, .none, .none, .none, .none] ((rngI N).map .int) = some (J.map .int) := by
      rw [hJ]
      exact cmpP_fltI (fun a => rfl) (rngI N) fun w _ => by
        show ((dIn (.int w) (lotD A)).bind toB).bind (fun b => if b then some true else (dIn (.int w) (lotD B)).bind toB) = _
        rw [dIn_sq (sq_lot A), dIn_sq (sq_lot B), Option.bind_some, toB_e, Option.bind_some]
        cases A.contains w <;> rfl
    rw [sSet_e, xL_e, xCons_e, xCmp_e, r, Option.bind_some, if_pos (by rw [rng_len]; omega), rngD_I, hs]
    rfl
  have u3 : sSet 6 (xCmp (lSeq (xV 1)) (gSet 4) (bE (x2 dNotIn (xV 4) (xV 2))) (xV 4)) [pileD N ls, lotD A, lotD B, lotD C, .none, lotD J, .none, .none, .none, .none, .none, .none] = some (.nx [pileD N ls, lotD A, lotD B, lotD C, .none, lotD J, .list (P.map .int), .none, .none, .none, .none, .none]) := by
    have hs : cmpP (gSet 4) (bE (x2 dNotIn (xV 4) (xV 2))) (xV 4) [pileD N ls, lotD A, lotD B, lotD C, .none, lotD J, .none, .none, .none, .none, .none, .none] (A.map .int) = some (P.map .int) := by
      rw [hP]
      exact cmpP_fltI (fun a => rfl) A fun w _ => by
        show (dNotIn (.int w) (lotD B)).bind toB = _
        rw [dNotIn_sq (sq_lot B)]
        rfl
    have hq : lSeq (xV 1) [pileD N ls, lotD A, lotD B, lotD C, .none, lotD J, .none, .none, .none, .none, .none, .none] = some (A.map .int) := rfl
    rw [sSet_e, xCmp_e, hq, Option.bind_some, if_pos (by rw [List.length_map]; omega), hs]
    rfl
  have u4 : sSet 7 (xCmp (lSeq (xV 2)) (gSet 4) (bE (x2 dNotIn (xV 4) (xV 1))) (xV 4)) [pileD N ls, lotD A, lotD B, lotD C, .none, lotD J, .list (P.map .int), .none, .none, .none, .none, .none] = some (.nx [pileD N ls, lotD A, lotD B, lotD C, .none, lotD J, .list (P.map .int), .list (Q.map .int), .none, .none, .none, .none]) := by
    have hs : cmpP (gSet 4) (bE (x2 dNotIn (xV 4) (xV 1))) (xV 4) [pileD N ls, lotD A, lotD B, lotD C, .none, lotD J, .list (P.map .int), .none, .none, .none, .none, .none] (B.map .int) = some (Q.map .int) := by
      rw [hQ]
      exact cmpP_fltI (fun a => rfl) B fun w _ => by
        show (dNotIn (.int w) (lotD A)).bind toB = _
        rw [dNotIn_sq (sq_lot A)]
        rfl
    have hq : lSeq (xV 2) [pileD N ls, lotD A, lotD B, lotD C, .none, lotD J, .list (P.map .int), .none, .none, .none, .none, .none] = some (B.map .int) := rfl
    rw [sSet_e, xCmp_e, hq, Option.bind_some, if_pos (by rw [List.length_map]; omega), hs]
    rfl
  have a1 := f_across (N := N) hls (sq_list P) (sq_list Q)
  have a2 := f_across (N := N) hls (sq_list Q) (sq_list P)
  obtain ⟨x, hx⟩ : ∃ x, x = ls.countP fun l => P.contains l.1 && Q.contains l.2 := ⟨_, rfl⟩
  obtain ⟨y, hy⟩ : ∃ y, y = ls.countP fun l => Q.contains l.1 && P.contains l.2 := ⟨_, rfl⟩
  rw [← hx] at a1
  rw [← hy] at a2
  have u5 : sSet 8 (x2 dAdd (xCall f__law_across (xCons (xV 0) (xCons (xV 6) (xCons (xV 7) xNil)))) (xCall f__law_across (xCons (xV 0) (xCons (xV 7) (xCons (xV 6) xNil))))) [pileD N ls, lotD A, lotD B, lotD C, .none, lotD J, .list (P.map .int), .list (Q.map .int), .none, .none, .none, .none] = some (.nx [pileD N ls, lotD A, lotD B, lotD C, .none, lotD J, .list (P.map .int), .list (Q.map .int), .int (((x : Nat) : Int) + ((y : Nat) : Int)), .none, .none, .none]) := by
    have t1 : xCons (xV 0) (xCons (xV 6) (xCons (xV 7) xNil)) [pileD N ls, lotD A, lotD B, lotD C, .none, lotD J, .list (P.map .int), .list (Q.map .int), .none, .none, .none, .none] = some [pileD N ls, .list (P.map .int), .list (Q.map .int)] := rfl
    have t2 : xCons (xV 0) (xCons (xV 7) (xCons (xV 6) xNil)) [pileD N ls, lotD A, lotD B, lotD C, .none, lotD J, .list (P.map .int), .list (Q.map .int), .none, .none, .none, .none] = some [pileD N ls, .list (Q.map .int), .list (P.map .int)] := rfl
    rw [sSet_e, x2_e, xCall_e, t1, Option.bind_some, a1, Option.map_some, Option.bind_some, xCall_e, t2, Option.bind_some, a2, Option.map_some, Option.bind_some, dAdd_e]
    rfl
  have gA := f_gates N ls A hA hls
  have gB := f_gates N ls B hB hls
  have gC := f_gates N ls C lC hls
  have gJ := f_gates N ls J lJ hls
  rw [sel_cnt] at gA gB gC gJ
  have id := cnt42 (ls := ls) (p1 := gon C) (p2 := gon J) (p3 := fun l => P.contains l.1 && Q.contains l.2) (p4 := fun l => Q.contains l.1 && P.contains l.2) (q1 := gon A) (q2 := gon B) fun l hl => by
    have r1 : ∀ z, 0 ≤ z ∧ z < (N : Int) → J.contains z = (A.contains z || B.contains z) := fun z hz => by
      have : (rngI N).contains z = true := by simpa using rngI_mem.mpr hz
      rw [hJ, cont_flt, this, Bool.true_and]
    unfold gon
    rw [r1 _ (hp.fst l hl), r1 _ (hp.snd l hl), hC, hP, hQ]
    simp only [cont_flt]
    cases A.contains l.1 <;> cases B.contains l.1 <;> cases A.contains l.2 <;> cases B.contains l.2 <;> rfl
  rw [← hx, ← hy] at id
  have u6 : sIf (bNot (bE (xCall (f__law_same 6) (xCons (x2 dAdd (x2 dAdd (xCall f_gates_of (xCons (xV 0) (xCons (xV 3) xNil))) (xCall f_gates_of (xCons (xV 0) (xCons (xV 5) xNil)))) (xV 8)) (xCons (x2 dAdd (xCall f_gates_of (xCons (xV 0) (xCons (xV 1) xNil))) (xCall f_gates_of (xCons (xV 0) (xCons (xV 2) xNil)))) xNil))))) (sRet (xK (.bool false))) sNil [pileD N ls, lotD A, lotD B, lotD C, .none, lotD J, .list (P.map .int), .list (Q.map .int), .int (((x : Nat) : Int) + ((y : Nat) : Int)), .none, .none, .none] =
      some (.nx [pileD N ls, lotD A, lotD B, lotD C, .none, lotD J, .list (P.map .int), .list (Q.map .int), .int (((x : Nat) : Int) + ((y : Nat) : Int)), .none, .none, .none]) := by
    have t3 : xCons (xV 0) (xCons (xV 3) xNil) [pileD N ls, lotD A, lotD B, lotD C, .none, lotD J, .list (P.map .int), .list (Q.map .int), .int (((x : Nat) : Int) + ((y : Nat) : Int)), .none, .none, .none] = some [pileD N ls, lotD C] := rfl
    have t5 : xCons (xV 0) (xCons (xV 5) xNil) [pileD N ls, lotD A, lotD B, lotD C, .none, lotD J, .list (P.map .int), .list (Q.map .int), .int (((x : Nat) : Int) + ((y : Nat) : Int)), .none, .none, .none] = some [pileD N ls, lotD J] := rfl
    have t1 : xCons (xV 0) (xCons (xV 1) xNil) [pileD N ls, lotD A, lotD B, lotD C, .none, lotD J, .list (P.map .int), .list (Q.map .int), .int (((x : Nat) : Int) + ((y : Nat) : Int)), .none, .none, .none] = some [pileD N ls, lotD A] := rfl
    have t2 : xCons (xV 0) (xCons (xV 2) xNil) [pileD N ls, lotD A, lotD B, lotD C, .none, lotD J, .list (P.map .int), .list (Q.map .int), .int (((x : Nat) : Int) + ((y : Nat) : Int)), .none, .none, .none] = some [pileD N ls, lotD B] := rfl
    have t8 : xV 8 [pileD N ls, lotD A, lotD B, lotD C, .none, lotD J, .list (P.map .int), .list (Q.map .int), .int (((x : Nat) : Int) + ((y : Nat) : Int)), .none, .none, .none] = some (.int (((x : Nat) : Int) + ((y : Nat) : Int))) := rfl
    have e : ((ls.countP (gon C) : Nat) : Int) + ((ls.countP (gon J) : Nat) : Int) + (((x : Nat) : Int) + ((y : Nat) : Int)) = ((ls.countP (gon A) : Nat) : Int) + ((ls.countP (gon B) : Nat) : Int) := by omega
    rw [sIf_e, bNot_e, bE_e, xCall_e, xCons_e, x2_e, x2_e, xCall_e, t3, Option.bind_some, gC, Option.map_some, Option.bind_some, xCall_e, t5, Option.bind_some, gJ, Option.map_some, Option.bind_some, dAdd_e, Option.bind_some, t8, Option.bind_some, dAdd_e, Option.bind_some, xCons_e, x2_e, xCall_e, t1, Option.bind_some, gA, Option.map_some, Option.bind_some, xCall_e, t2, Option.bind_some, gB, Option.map_some, Option.bind_some, dAdd_e, Option.bind_some, xNil_e, Option.bind_some, Option.bind_some, Option.bind_some, e, same_int]
    rfl
  obtain ⟨δ', l, p, o, u, e⟩ := forL_inv (tg := gSet 9) (b := gBody3) (fun j δ => ∃ p o u, δ = [pileD N ls, lotD A, lotD B, lotD C, .none, lotD J, .list (P.map .int), .list (Q.map .int), .int (((x : Nat) : Int) + ((y : Nat) : Int)), p, o, u]) [lotD A, lotD B, lotD C, lotD J] 0
    [pileD N ls, lotD A, lotD B, lotD C, .none, lotD J, .list (P.map .int), .list (Q.map .int), .int (((x : Nat) : Int) + ((y : Nat) : Int)), .none, .none, .none] ⟨_, _, _, rfl⟩ fun j d δ hd ⟨p, o, u, e⟩ => by
      subst e
      have hm := List.mem_of_getElem? hd
      obtain ⟨ws, rfl, hw⟩ : ∃ ws, d = lotD ws ∧ IsLot N ws := by
        simp only [List.mem_cons, List.not_mem_nil, or_false] at hm
        rcases hm with z | z | z | z
        · exact ⟨A, z, hA⟩
        · exact ⟨B, z, hB⟩
        · exact ⟨C, z, lC⟩
        · exact ⟨J, z, lJ⟩
      obtain ⟨o', u', q⟩ := gBody3_e hp hN hw (lotD A) (lotD B) (lotD C) (lotD J) (.list (P.map .int)) (.list (Q.map .int)) (.int (((x : Nat) : Int) + ((y : Nat) : Int))) o u
      exact ⟨_, _, rfl, q, _, _, _, rfl⟩
  subst e
  have u7 : sFor (lSeq (xL mkLst (xCons (xV 1) (xCons (xV 2) (xCons (xV 3) (xCons (xV 5) xNil)))))) (gSet 9) gBody3 [pileD N ls, lotD A, lotD B, lotD C, .none, lotD J, .list (P.map .int), .list (Q.map .int), .int (((x : Nat) : Int) + ((y : Nat) : Int)), .none, .none, .none] = some (.nx [pileD N ls, lotD A, lotD B, lotD C, .none, lotD J, .list (P.map .int), .list (Q.map .int), .int (((x : Nat) : Int) + ((y : Nat) : Int)), p, o, u]) := by
    have q : lSeq (xL mkLst (xCons (xV 1) (xCons (xV 2) (xCons (xV 3) (xCons (xV 5) xNil))))) [pileD N ls, lotD A, lotD B, lotD C, .none, lotD J, .list (P.map .int), .list (Q.map .int), .int (((x : Nat) : Int) + ((y : Nat) : Int)), .none, .none, .none] = some [lotD A, lotD B, lotD C, lotD J] := by
      show (mkLst [lotD A, lotD B, lotD C, lotD J]).bind asSeq = _
      rw [lst4]
      rfl
    rw [sFor_e, q, Option.bind_some, l]
  unfold gBody3 at u7
  refine ⟨[pileD N ls, lotD A, lotD B], ?_⟩
  have g : g__law_gates [pileD N ls, lotD A, lotD B, .none, .none, .none, .none, .none, .none, .none, .none, .none] = some (.rt (.bool true) [pileD N ls, lotD A, lotD B, lotD C, .none, lotD J, .list (P.map .int), .list (Q.map .int), .int (((x : Nat) : Int) + ((y : Nat) : Int)), p, o, u]) := by
    unfold g__law_gates
    rw [sSeq_nx u1, sSeq_nx u2, sSeq_nx u3, sSeq_nx u4, sSeq_nx u5, sSeq_nx u6, sSeq_nx u7]
    rfl
  unfold f__law_gates
  rw [fnF_e]
  show (g__law_gates [pileD N ls, lotD A, lotD B, .none, .none, .none, .none, .none, .none, .none, .none, .none]).bind _ = _
  rw [g]
  rfl
end LawK02

set_option linter.all false
set_option maxRecDepth 10000
namespace LawK02
open PySem Pv
/-! k02: the lots drawn -/
theorem cmpM_subG {P n g : D} {c : BM} (hc : ∀ (cs : List Int) (w : Int), ∃ (b : Bool) (cs' : List Int), c [cellsD cs, P, n, .int w, g] = some (b, [cellsD cs', P, n, .int w, g])) : ∀ (ws : List Int) (cs : List Int) (a : D), ∃ (vs : List Int) (cs' : List Int) (a' : D), cmpM (gSet 3) c (mOf (xV 3)) (ws.map .int) [cellsD cs, P, n, a, g] = some (vs.map .int, [cellsD cs', P, n, a', g]) ∧ vs.Sublist ws
  | [], cs, a => ⟨[], cs, a, rfl, .slnil⟩
  | w :: ws, cs, a => by
    obtain ⟨b, cs1, e1⟩ := hc cs w
    obtain ⟨vs, cs', a', e2, h⟩ := cmpM_subG hc ws cs1 (.int w)
    have g' : gSet 3 (.int w) [cellsD cs, P, n, a, g] = some [cellsD cs, P, n, .int w, g] := rfl
    cases b with
    | true =>
      refine ⟨w :: vs, cs', a', ?_, .cons₂ _ h⟩
      rw [List.map_cons, cmpM, g', Option.bind_some, e1, Option.bind_some, if_pos rfl]
      show ((some ((.int w : D), [cellsD cs1, P, n, .int w, g])).bind fun q => (cmpM (gSet 3) c (mOf (xV 3)) _ q.2).bind _) = _
      rw [Option.bind_some, e2]
      rfl
    | false =>
      refine ⟨vs, cs', a', ?_, .cons _ h⟩
      rw [List.map_cons, cmpM, g', Option.bind_some, e1, Option.bind_some, if_neg Bool.false_ne_true]
      exact e2
theorem IsLot.sb {N : Int} {vs ws : List Int} (h : IsLot N ws) (s : vs.Sublist ws) : IsLot N vs := ⟨h.1.sublist s, fun w hw => h.2 w (s.subset hw)⟩
theorem pkGt {i : Nat} {c m : Int} {δ : List D} {cs : List Int} (h : δ[i]? = some (cellsD cs)) (hm : 0 < m) : ∃ (b : Bool) (cs' : List Int), bME (x2M dGt (pk i (xK (.int m))) (mOf (xK (.int c)))) δ = some (b, δ.set i (cellsD cs')) := by
  obtain ⟨p, cs', e, h1, h2⟩ := pk_e (f := xK (.int m)) h rfl hm
  refine ⟨decide (c < p), cs', ?_⟩
  rw [bME_e, x2M_e, e, Option.bind_some, mOf_e, xK_e, Option.map_some, Option.bind_some, dGt_e, Option.map_some, Option.bind_some, toB_e]
  rfl
theorem f_llot {N : Nat} {ls : List Lf} (hp : IsPile N ls) (h1 : 1 ≤ N) (hN : N ≤ 1000) (cs : List Int) : ∃ (ws : List Int) (cs' : List Int), f__law_lot [cellsD cs, pileD N ls] = some (lotD ws, [cellsD cs', pileD N ls]) ∧ IsLot N ws := by
  have sz := size_le
  have fin : ∀ {ws : List Int} {cs' : List Int} {a b c : D}, g__law_lot [cellsD cs, pileD N ls, .none, .none, .none] = some (.rt (lotD ws) [cellsD cs', pileD N ls, a, b, c]) → f__law_lot [cellsD cs, pileD N ls] = some (lotD ws, [cellsD cs', pileD N ls]) := fun {ws cs' a b c} h => by
    unfold f__law_lot
    rw [fnF_e]
    show (g__law_lot [cellsD cs, pileD N ls, .none, .none, .none]).bind _ = _
    rw [h]
    rfl
  have u1 : sSet 2 (x2 dIx (xV 1) (xK (.int 0))) [cellsD cs, pileD N ls, .none, .none, .none] = some (.nx [cellsD cs, pileD N ls, .int N, .none, .none]) := by
    rw [sSet_e]
    show (dIx (pileD N ls) (.int 0)).bind _ = _
    rw [dIx_pile0]
    rfl
  obtain ⟨b1, cs1, e1⟩ := pkIf (i := 0) (c := 0) (m := 2) (δ := [cellsD cs, pileD N ls, .int N, .none, .none]) (cs := cs) rfl (by omega)
  have e1' : bME (x2M dEq (pk 0 (xK (.int 2))) (mOf (xK (.int 0)))) [cellsD cs, pileD N ls, .int N, .none, .none] = some (b1, [cellsD cs1, pileD N ls, .int N, .none, .none]) := e1
  cases b1 with
  | true =>
    obtain ⟨vs, cs2, a2, e2, hs⟩ := cmpM_subG (P := pileD N ls) (n := .int N) (g := .none) (c := bME (x2M dEq (pk 0 (xK (.int 2))) (mOf (xK (.int 1))))) (fun cs w => pkIf (i := 0) (c := 1) (m := 2) (δ := [cellsD cs, pileD N ls, .int N, .int w, .none]) rfl (by omega)) (rngI N) cs1 .none
    have r := rng_of (n := N) (δ := [cellsD cs1, pileD N ls, .int N, .none, .none]) (f := xCons (xV 2) xNil) rfl (by omega)
    have t : xLM oTup (xmCons (xCmpM (lmOf (lOf rng1 (xCons (xV 2) xNil))) (gSet 3) (bME (x2M dEq (pk 0 (xK (.int 2))) (mOf (xK (.int 1))))) (mOf (xV 3))) xmNil) [cellsD cs1, pileD N ls, .int N, .none, .none] = some (lotD vs, [cellsD cs2, pileD N ls, .int N, a2, .none]) := by
      have q : xCmpM (lmOf (lOf rng1 (xCons (xV 2) xNil))) (gSet 3) (bME (x2M dEq (pk 0 (xK (.int 2))) (mOf (xK (.int 1))))) (mOf (xV 3)) [cellsD cs1, pileD N ls, .int N, .none, .none] = some (.list (vs.map .int), [cellsD cs2, pileD N ls, .int N, a2, .none]) := by
        rw [xCmpM_e, lmOf_e, r, Option.map_some, Option.bind_some, if_pos (by rw [rng_len]; omega), rngD_I, e2]
        rfl
      rw [xLM_e, xmCons_e, q, Option.bind_some, xmNil_e, Option.bind_some, Option.bind_some]
      rfl
    refine ⟨vs, cs2, fin (a := .int N) (b := a2) (c := .none) ?_, (rngI_lot N).sb hs⟩
    unfold pk at e1' t
    unfold g__law_lot
    rw [sSeq_nx u1]
    refine sSeq_rt ?_
    rw [sIfM_e, e1', Option.bind_some, if_pos rfl, sRetM_e, t]
    rfl
  | false =>
    have u2 : sIfM (bME (x2M dEq (pk 0 (xK (.int 2))) (mOf (xK (.int 0))))) (sRetM (xLM oTup (xmCons (xCmpM (lmOf (lOf rng1 (xCons (xV 2) xNil))) (gSet 3) (bME (x2M dEq (pk 0 (xK (.int 2))) (mOf (xK (.int 1))))) (mOf (xV 3))) xmNil))) sNil [cellsD cs, pileD N ls, .int N, .none, .none] = some (.nx [cellsD cs1, pileD N ls, .int N, .none, .none]) := by
      rw [sIfM_e, e1', Option.bind_some, if_neg Bool.false_ne_true]
      rfl
    obtain ⟨p, cs2, e2, p0, p1⟩ := pk_e (i := 0) (f := xV 2) (δ := [cellsD cs1, pileD N ls, .int N, .none, .none]) (m := N) rfl rfl (by omega)
    have e2' : pk 0 (xV 2) [cellsD cs1, pileD N ls, .int N, .none, .none] = some (.int p, [cellsD cs2, pileD N ls, .int N, .none, .none]) := e2
    obtain ⟨gs, g1, g2, g3, g4⟩ := f_grown (N := N) (ls := ls) (P := .list ((rngI N).map .int)) (part := rngI N) (s := p) (sq_list _) (rngI_lot N).1 (by rw [rngI_len]; exact hN) (rngI_mem.mpr ⟨p0, p1⟩) (by rw [oLen_l, List.length_map])
    have lg : IsLot N gs := ⟨g2, fun w hw => rngI_mem.mp (g4 w hw)⟩
    have u3 : sSetM 4 (xCallM [none, none, none] f__law_grown (xmCons (mOf (xV 1)) (xmCons (pk 0 (xV 2)) (xmCons (mOf (x1 oLstRng (xV 2))) xmNil)))) [cellsD cs1, pileD N ls, .int N, .none, .none] = some (.nx [cellsD cs2, pileD N ls, .int N, .none, lotD gs]) := by
      have r : x1 oLstRng (xV 2) [cellsD cs2, pileD N ls, .int N, .none, .none] = some (.list ((rngI N).map .int)) := lst_rng5 (by omega)
      have ar : xmCons (mOf (xV 1)) (xmCons (pk 0 (xV 2)) (xmCons (mOf (x1 oLstRng (xV 2))) xmNil)) [cellsD cs1, pileD N ls, .int N, .none, .none] = some ([pileD N ls, .int p, .list ((rngI N).map .int)], [cellsD cs2, pileD N ls, .int N, .none, .none]) := by
        have a1 : mOf (xV 1) [cellsD cs1, pileD N ls, .int N, .none, .none] = some (pileD N ls, [cellsD cs1, pileD N ls, .int N, .none, .none]) := rfl
        have a3 : mOf (x1 oLstRng (xV 2)) [cellsD cs2, pileD N ls, .int N, .none, .none] = some (.list ((rngI N).map .int), [cellsD cs2, pileD N ls, .int N, .none, .none]) := by
          rw [mOf_e, r]
          rfl
        rw [xmCons_e, a1, Option.bind_some, xmCons_e, e2', Option.bind_some, xmCons_e, a3, Option.bind_some, xmNil_e, Option.bind_some, Option.bind_some, Option.bind_some]
      rw [sSetM_e, xCallM_e, ar, Option.bind_some]
      dsimp only
      rw [g1]
      rfl
    obtain ⟨b3, cs3, e3⟩ := pkIf (i := 0) (c := 0) (m := 2) (δ := [cellsD cs2, pileD N ls, .int N, .none, lotD gs]) (cs := cs2) rfl (by omega)
    have e3' : bME (x2M dEq (pk 0 (xK (.int 2))) (mOf (xK (.int 0)))) [cellsD cs2, pileD N ls, .int N, .none, lotD gs] = some (b3, [cellsD cs3, pileD N ls, .int N, .none, lotD gs]) := e3
    cases b3 with
    | true =>
      refine ⟨gs, cs3, fin (a := .int N) (b := .none) (c := lotD gs) ?_, lg⟩
      unfold pk at u2 u3 e3'
      unfold g__law_lot
      rw [sSeq_nx u1, sSeq_nx u2, sSeq_nx u3]
      refine sSeq_rt ?_
      rw [sIfM_e, e3', Option.bind_some, if_pos rfl]
      rfl
    | false =>
      have u4 : sIfM (bME (x2M dEq (pk 0 (xK (.int 2))) (mOf (xK (.int 0))))) (sRet (xV 4)) sNil [cellsD cs2, pileD N ls, .int N, .none, lotD gs] = some (.nx [cellsD cs3, pileD N ls, .int N, .none, lotD gs]) := by
        rw [sIfM_e, e3', Option.bind_some, if_neg Bool.false_ne_true]
        rfl
      obtain ⟨vs, cs4, a4, e4, hs⟩ := cmpM_subG (P := pileD N ls) (n := .int N) (g := lotD gs) (c := bME (x2M dGt (pk 0 (xK (.int 4))) (mOf (xK (.int 0))))) (fun cs w => pkGt (i := 0) (c := 0) (m := 4) (δ := [cellsD cs, pileD N ls, .int N, .int w, lotD gs]) rfl (by omega)) gs cs3 .none
      have lgl := lg.len
      have t : xLM oTup (xmCons (xCmpM (lmOf (lSeq (xV 4))) (gSet 3) (bME (x2M dGt (pk 0 (xK (.int 4))) (mOf (xK (.int 0))))) (mOf (xV 3))) xmNil) [cellsD cs3, pileD N ls, .int N, .none, lotD gs] = some (lotD vs, [cellsD cs4, pileD N ls, .int N, a4, lotD gs]) := by
        have hq : lSeq (xV 4) [cellsD cs3, pileD N ls, .int N, .none, lotD gs] = some (gs.map .int) := rfl
        have q : xCmpM (lmOf (lSeq (xV 4))) (gSet 3) (bME (x2M dGt (pk 0 (xK (.int 4))) (mOf (xK (.int 0))))) (mOf (xV 3)) [cellsD cs3, pileD N ls, .int N, .none, lotD gs] = some (.list (vs.map .int), [cellsD cs4, pileD N ls, .int N, a4, lotD gs]) := by
          rw [xCmpM_e, lmOf_e, hq, Option.map_some, Option.bind_some, if_pos (by rw [List.length_map]; omega), e4]
          rfl
        rw [xLM_e, xmCons_e, q, Option.bind_some, xmNil_e, Option.bind_some, Option.bind_some]
        rfl
      refine ⟨vs, cs4, fin (a := .int N) (b := a4) (c := lotD gs) ?_, lg.sb hs⟩
      unfold pk at u2 u3 u4 t
      unfold g__law_lot
      rw [sSeq_nx u1, sSeq_nx u2, sSeq_nx u3, sSeq_nx u4, sRetM_e, t]
      rfl
end LawK02

set_option linter.all false
set_option maxRecDepth 10000
namespace LawK02
open PySem Pv
/-! k02: books side by side -/
theorem pAdd {i : Nat} {c : Int} {m : Int} {δ : List D} {cs : List Int} (h : δ[i]? = some (cellsD cs)) (hm : 0 < m) (hc : 0 ≤ c) : ∃ (p : Nat) (cs' : List Int), x2M dAdd (mOf (xK (.int c))) (pk i (xK (.int m))) δ = some (.int ((p : Nat) : Int), δ.set i (cellsD cs')) ∧ c ≤ (p : Int) ∧ (p : Int) < c + m := by
  obtain ⟨p, cs', e, p0, p1⟩ := pkAdd (c := c) h hm
  obtain ⟨q, hq⟩ := Int.eq_ofNat_of_zero_le (show 0 ≤ c + p by omega)
  exact ⟨q, cs', by rw [e, hq], by omega, by omega⟩
def sft (S : Nat) (l : Lf) : Lf := (l.1 + (S : Int), l.2 + (S : Int))
def sAdd : SF := sDrop (xApp 3 (mOf (xL mkTup (xCons (x2 dAdd (x2 dIx (xV 6) (xK (.int 0))) (xV 2)) (xCons (x2 dAdd (x2 dIx (xV 6) (xK (.int 1))) (xV 2)) xNil)))))
theorem sAdd_e (C q k h n : D) (S : Nat) (L : List Lf) (l : Lf) (hL : L.length ≤ 90000) : sAdd [C, q, .int S, .list (L.map leafD), k, h, leafD l, n] = some (.nx [C, q, .int S, .list ((L ++ [sft S l]).map leafD), k, h, leafD l, n]) := by
  have sz := size_le
  have i0 : x2 dIx (xV 6) (xK (.int 0)) [C, q, .int S, .list (L.map leafD), k, h, leafD l, n] = some (.int l.1) := at_leaf0 l
  have i1 : x2 dIx (xV 6) (xK (.int 1)) [C, q, .int S, .list (L.map leafD), k, h, leafD l, n] = some (.int l.2) := at_leaf1 l
  have i2 : xV 2 [C, q, .int S, .list (L.map leafD), k, h, leafD l, n] = some (.int S) := rfl
  have y : xL mkTup (xCons (x2 dAdd (x2 dIx (xV 6) (xK (.int 0))) (xV 2)) (xCons (x2 dAdd (x2 dIx (xV 6) (xK (.int 1))) (xV 2)) xNil)) [C, q, .int S, .list (L.map leafD), k, h, leafD l, n] = some (leafD (sft S l)) := by
    rw [xL_e, xCons_e, x2_e, i0, Option.bind_some, i2, Option.bind_some, dAdd_e, Option.bind_some, xCons_e, x2_e, i1, Option.bind_some, i2, Option.bind_some, dAdd_e, Option.bind_some, xNil_e, Option.bind_some, Option.bind_some, Option.bind_some, tup2]
    rfl
  unfold sAdd
  refine drop_e (d := .none) ?_
  rw [app_e (y := leafD (sft S l)) (ds := L.map leafD) y rfl (by rw [List.length_map]; omega)]
  show some (PyData.none, [C, q, .int S, .list (L.map leafD ++ [leafD (sft S l)]), k, h, leafD l, n]) = some (PyData.none, [C, q, .int S, .list ((L ++ [sft S l]).map leafD), k, h, leafD l, n])
  rw [List.map_append]
  rfl
/-- so far -/
structure Sd (S : Nat) (L : List Lf) (k : Nat) : Prop where
  sz : S ≤ 3 * k
  pos : k ≤ S
  len : L.length ≤ 10 * k
  mem : ∀ l ∈ L, (0 ≤ l.1 ∧ l.1 < (S : Int)) ∧ (0 ≤ l.2 ∧ l.2 < (S : Int))
def sBody : SF := sSeq (sSetM 5 (x2M dAdd (mOf (xK (.int 1))) (pk 0 (xK (.int 3))))) (sSeq (sForM (lSeqM (xCallM [some 0, none, none] f__law_ring (xmIoL 0 (xmCons (mOf (xV 5)) (xmCons (pk 0 (xK (.int 3))) xmNil))))) (gSet 6) sAdd) (sSet 2 (x2 dAdd (xV 2) (xV 5))))
theorem ring2 {i j : Nat} {m : Int} {f : EF} {δ : List D} {cs : List Int} {N : Nat} (h : δ[i]? = some (cellsD cs)) (hf : ∀ C, f (δ.set i C) = some (.int N)) (hf0 : f δ = some (.int N)) (hi : i < δ.length) (h1 : 1 ≤ N) (h2 : N ≤ 1000) (hm : 0 < m) (hm2 : m ≤ 100) :
    ∃ (ls : List Lf) (cs' : List Int), xCallM [some i, none, none] f__law_ring (xmIoL i (xmCons (mOf f) (xmCons (pk i (xK (.int m))) xmNil))) δ = some (.list (ls.map leafD), δ.set i (cellsD cs')) ∧ IsPile N ls ∧ ls ≠ [] ∧ ls.length ≤ 100 + N ∧ (ls.length : Int) < m + N := by
  obtain ⟨p, cs1, e1, p0, p1⟩ := pk_e (f := xK (.int m)) h rfl hm
  obtain ⟨E, rfl⟩ := Int.eq_ofNat_of_zero_le p0
  obtain ⟨ls, cs2, e2, hp, hne, hl⟩ := f_ring (N := N) (E := E) cs1 h1 h2 (by omega)
  refine ⟨ls, cs2, ?_, hp, hne, by omega, by omega⟩
  have ar : xmIoL i (xmCons (mOf f) (xmCons (pk i (xK (.int m))) xmNil)) δ = some ([cellsD cs1, .int N, .int (E : Nat)], δ.set i (cellsD cs1)) := by
    have a : (δ.set i (cellsD cs1))[i]? = some (cellsD cs1) := List.getElem?_set_self hi
    rw [xmIoL_e, xmCons_e, mOf_e, hf0, Option.map_some, Option.bind_some, xmCons_e, e1, Option.bind_some, xmNil_e, Option.bind_some, Option.bind_some, Option.bind_some]
    dsimp only
    rw [a]
    rfl
  rw [xCallM_e, ar, Option.bind_some]
  dsimp only
  rw [e2, Option.map_some]
  show some (PyData.list (ls.map leafD), (δ.set i (cellsD cs1)).set i (cellsD cs2)) = _
  rw [List.set_set]
theorem sBody_e (q : D) (S k : Nat) (L : List Lf) (cs : List Int) (a b n : D) (hk : k ≤ 3) (h : Sd S L k) : ∃ (S' : Nat) (L' : List Lf) (cs' : List Int) (a' b' : D), sBody [cellsD cs, q, .int S, .list (L.map leafD), .int k, a, b, n] = some (.nx [cellsD cs', q, .int S', .list (L'.map leafD), .int k, a', b', n]) ∧ Sd S' L' (k + 1) := by
  obtain ⟨N, cs1, e1, n0, n1⟩ := pAdd (i := 0) (c := 1) (m := 3) (δ := [cellsD cs, q, .int S, .list (L.map leafD), .int k, a, b, n]) (cs := cs) rfl (by omega) (by omega)
  have u1 : sSetM 5 (x2M dAdd (mOf (xK (.int 1))) (pk 0 (xK (.int 3)))) [cellsD cs, q, .int S, .list (L.map leafD), .int k, a, b, n] = some (.nx [cellsD cs1, q, .int S, .list (L.map leafD), .int k, .int N, b, n]) := by
    rw [sSetM_e, e1]
    rfl
  obtain ⟨ls, cs2, e2, hp, _, hl, hl2⟩ := ring2 (i := 0) (j := 5) (m := 3) (f := xV 5) (δ := [cellsD cs1, q, .int S, .list (L.map leafD), .int k, .int N, b, n]) (cs := cs1) (N := N) rfl (fun C => rfl) rfl (by simp) (by omega) (by omega) (by omega) (by omega)
  have e2' : xCallM [some 0, none, none] f__law_ring (xmIoL 0 (xmCons (mOf (xV 5)) (xmCons (pk 0 (xK (.int 3))) xmNil))) [cellsD cs1, q, .int S, .list (L.map leafD), .int k, .int N, b, n] = some (.list (ls.map leafD), [cellsD cs2, q, .int S, .list (L.map leafD), .int k, .int N, b, n]) := e2
  obtain ⟨δ', l, b', e⟩ := forL_inv (tg := gSet 6) (b := sAdd) (fun j δ => ∃ b, δ = [cellsD cs2, q, .int S, .list ((L ++ (ls.take j).map (sft S)).map leafD), .int k, .int N, b, n]) (ls.map leafD) 0 [cellsD cs2, q, .int S, .list (L.map leafD), .int k, .int N, b, n] ⟨b, by rw [List.take_zero]; simp⟩ fun j d δ hd ⟨b, e⟩ => by
    subst e
    rw [Nat.zero_add]
    rw [List.getElem?_map] at hd
    obtain ⟨l, hj, rfl⟩ := Option.map_eq_some_iff.mp hd
    refine ⟨_, _, rfl, sAdd_e _ _ _ _ _ _ _ _ (by
      have := h.len
      simp only [List.length_append, List.length_map, List.length_take]
      omega), leafD l, ?_⟩
    have e1 : L ++ (ls.take (j + 1)).map (sft S) = L ++ (ls.take j).map (sft S) ++ [sft S l] := by
      rw [take_step hj, List.map_append, List.append_assoc]
      rfl
    rw [e1]
  subst e
  rw [Nat.zero_add, List.length_map, List.take_length] at l
  have u2 : sForM (lSeqM (xCallM [some 0, none, none] f__law_ring (xmIoL 0 (xmCons (mOf (xV 5)) (xmCons (pk 0 (xK (.int 3))) xmNil))))) (gSet 6) sAdd [cellsD cs1, q, .int S, .list (L.map leafD), .int k, .int N, b, n] = some (.nx [cellsD cs2, q, .int S, .list ((L ++ ls.map (sft S)).map leafD), .int k, .int N, b', n]) := by
    have hq : lSeqM (xCallM [some 0, none, none] f__law_ring (xmIoL 0 (xmCons (mOf (xV 5)) (xmCons (pk 0 (xK (.int 3))) xmNil)))) [cellsD cs1, q, .int S, .list (L.map leafD), .int k, .int N, b, n] = some (ls.map leafD, [cellsD cs2, q, .int S, .list (L.map leafD), .int k, .int N, b, n]) := by
      unfold lSeqM
      rw [e2']
      rfl
    unfold sForM
    rw [hq]
    exact l
  have u3 : sSet 2 (x2 dAdd (xV 2) (xV 5)) [cellsD cs2, q, .int S, .list ((L ++ ls.map (sft S)).map leafD), .int k, .int N, b', n] = some (.nx [cellsD cs2, q, .int ((S + N : Nat) : Int), .list ((L ++ ls.map (sft S)).map leafD), .int k, .int N, b', n]) := by
    rw [sSet_e]
    show (dAdd (.int S) (.int N)).bind _ = _
    rw [dAdd_e]
    rfl
  refine ⟨S + N, L ++ ls.map (sft S), cs2, .int N, b', ?_, ⟨by have := h.sz; omega, by have := h.pos; omega, ?_, fun l hl => ?_⟩⟩
  · unfold sBody
    rw [sSeq_nx u1, sSeq_nx u2, u3]
  · have := h.len
    rw [List.length_append, List.length_map]
    omega
  · rcases List.mem_append.mp hl with z | z
    · have := h.mem l z
      omega
    · obtain ⟨m, hm, rfl⟩ := List.mem_map.mp z
      have q1 := hp.fst m hm
      have q2 := hp.snd m hm
      unfold sft
      show (0 ≤ m.1 + (S : Int) ∧ m.1 + (S : Int) < ((S + N : Nat) : Int)) ∧ (0 ≤ m.2 + (S : Int) ∧ m.2 + (S : Int) < ((S + N : Nat) : Int))
      omega
theorem back_int {L : List Int} : ∀ {out : List D}, (∀ d ∈ out, d ∈ L.map PyData.int) → ∃ ls : List Int, out = ls.map .int ∧ ∀ l ∈ ls, l ∈ L
  | [], _ => ⟨[], rfl, fun _ h => nomatch h⟩
  | d :: out, h => by
    obtain ⟨l, hl, rfl⟩ := List.mem_map.mp (h d List.mem_cons_self)
    obtain ⟨ls, rfl, h2⟩ := back_int (out := out) fun e he => h e (List.mem_cons_of_mem _ he)
    refine ⟨l :: ls, rfl, fun m hm => ?_⟩
    rcases List.mem_cons.mp hm with e | e
    · rw [e]; exact hl
    · exact h2 m e
def ren (ns : List Int) (l : Lf) : Lf := (ns.getD l.1.toNat 0, ns.getD l.2.toNat 0)
theorem f_side (q : Nat) (hq : q ≤ 3) (hq1 : 1 ≤ q) (cs : List Int) : ∃ (S : Nat) (ls : List Lf) (cs' : List Int), f__law_side_by_side [cellsD cs, .int q] = some (.tuple [.int S, .list (ls.map leafD)], [cellsD cs', .int q]) ∧ IsPile S ls ∧ 1 ≤ S ∧ S ≤ 1000 := by
  have sz := size_le
  obtain ⟨δ', l1, S, L, cs1, a, b, c, e, hS⟩ := for_rng (i := 4) (n := q) (f := xCons (xV 1) xNil) (b := sBody) (δ := [cellsD cs, .int q, .int 0, .list [], .none, .none, .none, .none])
    (fun k δ => ∃ S L cs a b c, δ = [cellsD cs, .int q, .int (S : Nat), .list (L.map leafD), c, a, b, .none] ∧ Sd S L k) rfl (by omega) ⟨0, [], cs, .none, .none, .none, rfl, ⟨by omega, by omega, by simp, fun _ h => nomatch h⟩⟩ fun k δ hk ⟨S, L, cs, a, b, c, e, h⟩ => by
      subst e
      obtain ⟨S', L', cs', a', b', e, h'⟩ := sBody_e (.int q) S k L cs a b .none (by omega) h
      exact ⟨_, e, S', L', cs', a', b', .int k, rfl, h'⟩
  subst e
  have hs1 := hS.sz
  have hs2 := hS.len
  have hs3 := hS.pos
  obtain ⟨out, cs2, ed, ol, om⟩ := f_dealt cs1 ((rngI S).map .int) (by rw [List.length_map, rngI_len]; omega)
  obtain ⟨ns, rfl, hns⟩ := back_int om
  rw [List.length_map, List.length_map, rngI_len] at ol
  have u1 : sSetM 7 (xCallM [some 0, none] f__law_dealt (xmCons (xMov 0) (xmCons (mOf (x1 oLstRng (xV 2))) xmNil))) [cellsD cs1, .int q, .int (S : Nat), .list (L.map leafD), c, a, b, .none] = some (.nx [cellsD cs2, .int q, .int (S : Nat), .list (L.map leafD), c, a, b, .list (ns.map .int)]) := by
    have r : x1 oLstRng (xV 2) [cellsD cs1, .int q, .int (S : Nat), .list (L.map leafD), c, a, b, .none] = some (.list ((rngI S).map .int)) := lst_rng5 (by omega)
    rw [sSetM_e, callM1 (c := cellsD cs1) (x := .list ((rngI S).map .int)) rfl r ed]
    rfl
  have nm : ∀ i : Int, 0 ≤ i ∧ i < (S : Int) → dIx (.list (ns.map .int)) (.int i) = some (.int (ns.getD i.toNat 0)) ∧ 0 ≤ ns.getD i.toNat 0 ∧ ns.getD i.toNat 0 < (S : Int) := fun i hi => by
    obtain ⟨k, rfl⟩ := Int.eq_ofNat_of_zero_le hi.1
    have hk : k < ns.length := by omega
    have e1 : ns.getD (k : Int).toNat 0 = ns[k] := by rw [Int.toNat_natCast]; simp [hk]
    have hm := rngI_mem.mp (hns _ (List.getElem_mem hk))
    refine ⟨?_, by rw [e1]; exact hm⟩
    rw [e1]
    exact dIx_list (by rw [List.getElem?_map, List.getElem?_eq_getElem hk]; rfl)
  have hc : ∀ K : List Lf, (∀ l ∈ K, (0 ≤ l.1 ∧ l.1 < (S : Int)) ∧ (0 ≤ l.2 ∧ l.2 < (S : Int))) → cmpP (gSet 6) bYes (xL mkTup (xCons (x2 dIx (xV 7) (x2 dIx (xV 6) (xK (.int 0)))) (xCons (x2 dIx (xV 7) (x2 dIx (xV 6) (xK (.int 1)))) xNil))) [cellsD cs2, .int q, .int (S : Nat), .list (L.map leafD), c, a, b, .list (ns.map .int)] (K.map leafD) = some ((K.map (ren ns)).map leafD) := by
    intro K
    induction K with
    | nil => intro _; rfl
    | cons l K ih =>
      intro h
      obtain ⟨h1, h2⟩ := h l List.mem_cons_self
      have i0 : x2 dIx (xV 7) (x2 dIx (xV 6) (xK (.int 0))) [cellsD cs2, .int q, .int (S : Nat), .list (L.map leafD), c, a, leafD l, .list (ns.map .int)] = some (.int (ns.getD l.1.toNat 0)) := by
        have t : x2 dIx (xV 6) (xK (.int 0)) [cellsD cs2, .int q, .int (S : Nat), .list (L.map leafD), c, a, leafD l, .list (ns.map .int)] = some (.int l.1) := at_leaf0 l
        have t7 : xV 7 [cellsD cs2, .int q, .int (S : Nat), .list (L.map leafD), c, a, leafD l, .list (ns.map .int)] = some (.list (ns.map .int)) := rfl
        rw [x2_e, t7, Option.bind_some, t, Option.bind_some, (nm _ h1).1]
      have i1 : x2 dIx (xV 7) (x2 dIx (xV 6) (xK (.int 1))) [cellsD cs2, .int q, .int (S : Nat), .list (L.map leafD), c, a, leafD l, .list (ns.map .int)] = some (.int (ns.getD l.2.toNat 0)) := by
        have t : x2 dIx (xV 6) (xK (.int 1)) [cellsD cs2, .int q, .int (S : Nat), .list (L.map leafD), c, a, leafD l, .list (ns.map .int)] = some (.int l.2) := at_leaf1 l
        have t7 : xV 7 [cellsD cs2, .int q, .int (S : Nat), .list (L.map leafD), c, a, leafD l, .list (ns.map .int)] = some (.list (ns.map .int)) := rfl
        rw [x2_e, t7, Option.bind_some, t, Option.bind_some, (nm _ h2).1]
      have y : xL mkTup (xCons (x2 dIx (xV 7) (x2 dIx (xV 6) (xK (.int 0)))) (xCons (x2 dIx (xV 7) (x2 dIx (xV 6) (xK (.int 1)))) xNil)) [cellsD cs2, .int q, .int (S : Nat), .list (L.map leafD), c, a, leafD l, .list (ns.map .int)] = some (leafD (ren ns l)) := by
        rw [xL_e, xCons_e, i0, Option.bind_some, xCons_e, i1, Option.bind_some, xNil_e, Option.bind_some, Option.bind_some, Option.bind_some, tup2]
        rfl
      rw [List.map_cons, cmpP, gSet_e, Option.bind_some, bYes_e, Option.bind_some, if_pos rfl, ih fun m hm => h m (List.mem_cons_of_mem _ hm)]
      show (xL mkTup _ [cellsD cs2, .int q, .int (S : Nat), .list (L.map leafD), c, a, leafD l, .list (ns.map .int)]).bind _ = _
      rw [y]
      rfl
  obtain ⟨out2, cs3, ed2, ol2, om2⟩ := f_dealt cs2 ((L.map (ren ns)).map leafD) (by rw [List.length_map, List.length_map]; omega)
  obtain ⟨ls, rfl, hin⟩ := back_leaf om2
  rw [List.length_map, List.length_map, List.length_map] at ol2
  have u2 : sRetM (xLM mkPr (xmCons (mOf (xV 2)) (xmCons (xCallM [some 0, none] f__law_dealt (xmCons (xMov 0) (xmCons (mOf (xCmp (lSeq (xV 3)) (gSet 6) bYes (xL mkTup (xCons (x2 dIx (xV 7) (x2 dIx (xV 6) (xK (.int 0)))) (xCons (x2 dIx (xV 7) (x2 dIx (xV 6) (xK (.int 1)))) xNil))))) xmNil))) xmNil))) [cellsD cs2, .int q, .int (S : Nat), .list (L.map leafD), c, a, b, .list (ns.map .int)] =
      some (.rt (.tuple [.int (S : Nat), .list (ls.map leafD)]) [cellsD cs3, .int q, .int (S : Nat), .list (L.map leafD), c, a, b, .list (ns.map .int)]) := by
    have xc : xCmp (lSeq (xV 3)) (gSet 6) bYes (xL mkTup (xCons (x2 dIx (xV 7) (x2 dIx (xV 6) (xK (.int 0)))) (xCons (x2 dIx (xV 7) (x2 dIx (xV 6) (xK (.int 1)))) xNil))) [cellsD cs2, .int q, .int (S : Nat), .list (L.map leafD), c, a, b, .list (ns.map .int)] = some (.list ((L.map (ren ns)).map leafD)) := by
      have hq : lSeq (xV 3) [cellsD cs2, .int q, .int (S : Nat), .list (L.map leafD), c, a, b, .list (ns.map .int)] = some (L.map leafD) := rfl
      rw [xCmp_e, hq, Option.bind_some, if_pos (by rw [List.length_map]; omega), hc L hS.mem]
      rfl
    have cl := callM1 (i := 0) (F := f__law_dealt) (δ := [cellsD cs2, .int q, .int (S : Nat), .list (L.map leafD), c, a, b, .list (ns.map .int)]) (c := cellsD cs2) rfl xc ed2
    have t2 : mOf (xV 2) [cellsD cs2, .int q, .int (S : Nat), .list (L.map leafD), c, a, b, .list (ns.map .int)] = some (.int (S : Nat), [cellsD cs2, .int q, .int (S : Nat), .list (L.map leafD), c, a, b, .list (ns.map .int)]) := rfl
    rw [sRetM_e, xLM_e, xmCons_e, t2, Option.bind_some, xmCons_e, cl, Option.bind_some, xmNil_e, Option.bind_some, Option.bind_some, Option.bind_some]
    rfl
  refine ⟨S, ls, cs3, ?_, ⟨by omega, fun l hl => ?_, fun l hl => ?_⟩, by omega, by omega⟩
  · unfold sBody sAdd pk at l1
    have g : g__law_side_by_side [cellsD cs, .int q, .none, .none, .none, .none, .none, .none] = some (.rt (.tuple [.int (S : Nat), .list (ls.map leafD)]) [cellsD cs3, .int q, .int (S : Nat), .list (L.map leafD), c, a, b, .list (ns.map .int)]) := by
      unfold g__law_side_by_side
      rw [sSeq_nx (δ' := [cellsD cs, .int q, .int 0, .none, .none, .none, .none, .none]) rfl, sSeq_nx (δ' := [cellsD cs, .int q, .int 0, .list [], .none, .none, .none, .none]) rfl, sSeq_nx l1, sSeq_nx u1]
      exact u2
    unfold f__law_side_by_side
    rw [fnF_e]
    show (g__law_side_by_side [cellsD cs, .int q, .none, .none, .none, .none, .none, .none]).bind _ = _
    rw [g]
    rfl
  · obtain ⟨m, hm, rfl⟩ := List.mem_map.mp (hin l hl)
    exact (nm _ (hS.mem m hm).1).2
  · obtain ⟨m, hm, rfl⟩ := List.mem_map.mp (hin l hl)
    exact (nm _ (hS.mem m hm).2).2
end LawK02

set_option linter.all false
set_option maxRecDepth 10000
namespace LawK02
open PySem Pv
/-! k02: the heap -/
theorem pair_pk {N : Nat} (hN : 0 < N) (cs : List Int) (q L a : D) : ∃ (l : Lf) (cs' : List Int), xLM mkTup (xmCons (pk 0 (xV 2)) (xmCons (pk 0 (xV 2)) xmNil)) [cellsD cs, q, .int N, L, a] = some (leafD l, [cellsD cs', q, .int N, L, a]) ∧ (0 ≤ l.1 ∧ l.1 < (N : Int)) ∧ (0 ≤ l.2 ∧ l.2 < (N : Int)) := by
  obtain ⟨p, cs1, e1, p0, p1⟩ := pk_e (i := 0) (f := xV 2) (δ := [cellsD cs, q, .int N, L, a]) (m := N) rfl rfl (by omega)
  obtain ⟨r, cs2, e2, r0, r1⟩ := pk_e (i := 0) (f := xV 2) (δ := [cellsD cs1, q, .int N, L, a]) (m := N) rfl rfl (by omega)
  refine ⟨(p, r), cs2, ?_, ⟨p0, p1⟩, ⟨r0, r1⟩⟩
  have e1' : pk 0 (xV 2) [cellsD cs, q, .int N, L, a] = some (.int p, [cellsD cs1, q, .int N, L, a]) := e1
  have e2' : pk 0 (xV 2) [cellsD cs1, q, .int N, L, a] = some (.int r, [cellsD cs2, q, .int N, L, a]) := e2
  rw [xLM_e, xmCons_e, e1', Option.bind_some, xmCons_e, e2', Option.bind_some, xmNil_e, Option.bind_some, Option.bind_some, Option.bind_some, tup2]
  rfl
theorem cmpM_pair {N : Nat} (hN : 0 < N) (q L : D) : ∀ (ds : List D) (cs : List Int) (a : D), ∃ (ls : List Lf) (cs' : List Int) (a' : D), cmpM (gSet 4) (bMOf bYes) (xLM mkTup (xmCons (pk 0 (xV 2)) (xmCons (pk 0 (xV 2)) xmNil))) ds [cellsD cs, q, .int N, L, a] = some (ls.map leafD, [cellsD cs', q, .int N, L, a']) ∧ ls.length = ds.length ∧
    ∀ l ∈ ls, (0 ≤ l.1 ∧ l.1 < (N : Int)) ∧ (0 ≤ l.2 ∧ l.2 < (N : Int))
  | [], cs, a => ⟨[], cs, a, rfl, rfl, fun _ h => nomatch h⟩
  | d :: ds, cs, a => by
    obtain ⟨l, cs1, e1, h1⟩ := pair_pk hN cs q L d
    obtain ⟨ls, cs', a', e2, h2, h3⟩ := cmpM_pair hN q L ds cs1 d
    refine ⟨l :: ls, cs', a', cmpM_cons rfl rfl e1 e2, by simp [h2], fun m hm => ?_⟩
    rcases List.mem_cons.mp hm with e | e
    · rw [e]; exact h1
    · exact h3 m e
theorem kind_e (q c : Int) (δ : List D) (h : δ[1]? = some (.int q)) : bE (x2 dEq (xV 1) (xK (.int c))) δ = some (q == c) := by
  rw [bE_e, x2_e, xV_e, h, Option.bind_some, xK_e, Option.bind_some, dEq_e, Option.bind_some, toB_e]
def hKind : SF := sIf (bE (x2 dEq (xV 1) (xK (.int 0)))) (sSetM 3 (xCmpM (lOfM rng1 (xmCons (pk 0 (x2 dAdd (xV 2) (xK (.int 3)))) xmNil)) (gSet 4) (bMOf bYes) (xLM mkTup (xmCons (pk 0 (xV 2)) (xmCons (pk 0 (xV 2)) xmNil))))) (sIf (bE (x2 dEq (xV 1) (xK (.int 1)))) (sSetM 3 (xCallM [some 0, none, none] f__law_ring (xmIoL 0 (xmCons (mOf (xV 2)) (xmCons (pk 0 (xK (.int 7))) xmNil))))) (sUnpPr 2 3 (xCallM [some 0, none] f__law_side_by_side (xmIoL 0 (xmCons (x2M dAdd (mOf (xK (.int 2))) (pk 0 (xK (.int 2)))) xmNil)))))
theorem hKind_e {N : Nat} (h1 : 1 ≤ N) (h2 : N ≤ 100) (cs : List Int) (q : Int) : ∃ (M : Nat) (ls : List Lf) (cs' : List Int) (a : D), hKind [cellsD cs, .int q, .int N, .none, .none] = some (.nx [cellsD cs', .int q, .int M, .list (ls.map leafD), a]) ∧ IsPile M ls ∧ 1 ≤ M ∧ M ≤ 1000 := by
  have sz := size_le
  unfold hKind
  by_cases q0 : q = 0
  · subst q0
    obtain ⟨p, cs1, e1, p0, p1⟩ := pk_e (i := 0) (f := x2 dAdd (xV 2) (xK (.int 3))) (δ := [cellsD cs, .int 0, .int N, .none, .none]) (m := (N : Int) + 3) rfl rfl (by omega)
    obtain ⟨r, rfl⟩ := Int.eq_ofNat_of_zero_le p0
    have e1' : pk 0 (x2 dAdd (xV 2) (xK (.int 3))) [cellsD cs, .int 0, .int N, .none, .none] = some (.int (r : Nat), [cellsD cs1, .int 0, .int N, .none, .none]) := e1
    obtain ⟨ls, cs2, a', e2, h3, h4⟩ := cmpM_pair (N := N) (by omega) (.int 0) .none (rngD 0 r) cs1 .none
    have src : lOfM rng1 (xmCons (pk 0 (x2 dAdd (xV 2) (xK (.int 3)))) xmNil) [cellsD cs, .int 0, .int N, .none, .none] = some (rngD 0 r, [cellsD cs1, .int 0, .int N, .none, .none]) := by
      rw [lOfM_e, xmCons_e, e1', Option.bind_some, xmNil_e, Option.bind_some, Option.bind_some, rng1_e (by omega)]
      rfl
    refine ⟨N, ls, cs2, a', ?_, ⟨by rw [h3, rng_len]; omega, fun l hl => (h4 l hl).1, fun l hl => (h4 l hl).2⟩, h1, by omega⟩
    rw [sIf_e, kind_e 0 0 _ rfl]
    show sSetM _ _ _ = _
    rw [sSetM_e, xCmpM_e, src, Option.bind_some, if_pos (by rw [rng_len]; omega), e2]
    rfl
  · rw [sIf_e, kind_e q 0 _ rfl, beq_eq_false_iff_ne.mpr q0, Option.bind_some, if_neg Bool.false_ne_true]
    by_cases q1 : q = 1
    · subst q1
      obtain ⟨ls, cs2, e2, hp, _, _, _⟩ := ring2 (i := 0) (j := 2) (m := 7) (f := xV 2) (δ := [cellsD cs, .int 1, .int N, .none, .none]) (cs := cs) (N := N) rfl (fun C => rfl) rfl (by simp) h1 (by omega) (by omega) (by omega)
      refine ⟨N, ls, cs2, .none, ?_, hp, h1, by omega⟩
      rw [sIf_e, kind_e 1 1 _ rfl]
      show sSetM _ _ _ = _
      rw [sSetM_e, e2]
      rfl
    · rw [sIf_e, kind_e q 1 _ rfl, beq_eq_false_iff_ne.mpr q1, Option.bind_some, if_neg Bool.false_ne_true]
      obtain ⟨p, cs1, e1, p0, p1⟩ := pAdd (i := 0) (c := 2) (m := 2) (δ := [cellsD cs, .int q, .int N, .none, .none]) (cs := cs) rfl (by omega) (by omega)
      have e1' : x2M dAdd (mOf (xK (.int 2))) (pk 0 (xK (.int 2))) [cellsD cs, .int q, .int N, .none, .none] = some (.int (p : Nat), [cellsD cs1, .int q, .int N, .none, .none]) := e1
      obtain ⟨S, ls, cs2, e2, hp, s1, s2⟩ := f_side p (by omega) (by omega) cs1
      refine ⟨S, ls, cs2, .none, ?_, hp, s1, s2⟩
      have ar : xmIoL 0 (xmCons (x2M dAdd (mOf (xK (.int 2))) (pk 0 (xK (.int 2)))) xmNil) [cellsD cs, .int q, .int N, .none, .none] = some ([cellsD cs1, .int (p : Nat)], [cellsD cs1, .int q, .int N, .none, .none]) := by
        rw [xmIoL_e, xmCons_e, e1', Option.bind_some, xmNil_e, Option.bind_some, Option.bind_some]
        rfl
      have cl : xCallM [some 0, none] f__law_side_by_side (xmIoL 0 (xmCons (x2M dAdd (mOf (xK (.int 2))) (pk 0 (xK (.int 2)))) xmNil)) [cellsD cs, .int q, .int N, .none, .none] = some (.tuple [.int S, .list (ls.map leafD)], [cellsD cs2, .int q, .int N, .none, .none]) := by
        rw [xCallM_e, ar, Option.bind_some]
        dsimp only
        rw [e2]
        rfl
      unfold sUnpPr
      rw [cl]
      rfl
def hPop : SF := sIfM (bAndM (bMOf (bE (x2 dGt (xL oLen (xCons (xV 3) xNil)) (xK (.int 0))))) (bME (x2M dEq (pk 0 (xK (.int 2))) (mOf (xK (.int 1)))))) (sDrop (xPopAt 3 (pk 0 (xL oLen (xCons (xV 3) xNil))))) sNil
theorem IsPile.era {N : Nat} {ls : List Lf} (h : IsPile N ls) (k : Nat) : IsPile N (ls.eraseIdx k) :=
  ⟨Nat.le_trans (List.length_eraseIdx_le ls k) h.len, fun l hl => h.fst l (List.mem_of_mem_eraseIdx hl), fun l hl => h.snd l (List.mem_of_mem_eraseIdx hl)⟩
theorem map_era {α β : Type} (f : α → β) : ∀ (l : List α) (k : Nat), (l.map f).eraseIdx k = (l.eraseIdx k).map f
  | [], _ => rfl
  | _ :: _, 0 => rfl
  | x :: l, k + 1 => by
    rw [List.map_cons, List.eraseIdx_cons_succ, List.eraseIdx_cons_succ, List.map_cons, map_era f l k]
theorem hPop_e {N : Nat} {ls : List Lf} (hp : IsPile N ls) (cs : List Int) (q a : D) : ∃ (ls' : List Lf) (cs' : List Int), hPop [cellsD cs, q, .int N, .list (ls.map leafD), a] = some (.nx [cellsD cs', q, .int N, .list (ls'.map leafD), a]) ∧ IsPile N ls' := by
  have ps := hp.len
  have ln : ∀ C : D, xL oLen (xCons (xV 3) xNil) [C, q, .int N, .list (ls.map leafD), a] = some (.int ((ls.length : Nat) : Int)) := fun C => by
    show some (PyData.int ((ls.map leafD).length : Nat)) = _
    rw [List.length_map]
  have c1 : bMOf (bE (x2 dGt (xL oLen (xCons (xV 3) xNil)) (xK (.int 0)))) [cellsD cs, q, .int N, .list (ls.map leafD), a] = some (decide (0 < ((ls.length : Nat) : Int)), [cellsD cs, q, .int N, .list (ls.map leafD), a]) := by
    rw [bMOf_e, bE_e, x2_e, ln, Option.bind_some, xK_e, Option.bind_some, dGt_e]
    rfl
  by_cases h : 0 < ((ls.length : Nat) : Int)
  · obtain ⟨b, cs1, e1⟩ := pkIf (i := 0) (c := 1) (m := 2) (δ := [cellsD cs, q, .int N, .list (ls.map leafD), a]) (cs := cs) rfl (by omega)
    have c2 : bAndM (bMOf (bE (x2 dGt (xL oLen (xCons (xV 3) xNil)) (xK (.int 0))))) (bME (x2M dEq (pk 0 (xK (.int 2))) (mOf (xK (.int 1))))) [cellsD cs, q, .int N, .list (ls.map leafD), a] = some (b, [cellsD cs1, q, .int N, .list (ls.map leafD), a]) := by
      unfold bAndM
      rw [c1, Option.bind_some, decide_eq_true h]
      exact e1
    cases b with
    | true =>
      obtain ⟨p, cs2, e2, p0, p1⟩ := pk_e (i := 0) (f := xL oLen (xCons (xV 3) xNil)) (δ := [cellsD cs1, q, .int N, .list (ls.map leafD), a]) (m := ((ls.length : Nat) : Int)) rfl (ln _) h
      obtain ⟨k, rfl⟩ := Int.eq_ofNat_of_zero_le p0
      have hk : k < ls.length := by omega
      refine ⟨ls.eraseIdx k, cs2, ?_, hp.era k⟩
      unfold hPop
      rw [sIfM_e, c2, Option.bind_some, if_pos rfl]
      refine drop_e (d := leafD ls[k]) ?_
      unfold xPopAt
      rw [e2, Option.bind_some]
      show (getL [cellsD cs2, q, .int N, .list (ls.map leafD), a] 3).bind _ = _
      rw [getL_e (ds := ls.map leafD) rfl, Option.bind_some, if_pos ⟨by omega, by omega⟩, ixN_nat (by rw [List.length_map]; exact hk), Option.bind_some, List.getElem?_map, List.getElem?_eq_getElem hk, map_era]
      rfl
    | false =>
      refine ⟨ls, cs1, ?_, hp⟩
      unfold hPop
      rw [sIfM_e, c2, Option.bind_some, if_neg Bool.false_ne_true]
      rfl
  · refine ⟨ls, cs, ?_, hp⟩
    have c2 : bAndM (bMOf (bE (x2 dGt (xL oLen (xCons (xV 3) xNil)) (xK (.int 0))))) (bME (x2M dEq (pk 0 (xK (.int 2))) (mOf (xK (.int 1))))) [cellsD cs, q, .int N, .list (ls.map leafD), a] = some (false, [cellsD cs, q, .int N, .list (ls.map leafD), a]) := by
      unfold bAndM
      rw [c1, Option.bind_some, decide_eq_false h]
      rfl
    unfold hPop
    rw [sIfM_e, c2, Option.bind_some, if_neg Bool.false_ne_true]
    rfl
theorem f_heap (cs : List Int) (q : Int) : ∃ (N : Nat) (ls : List Lf) (cs' : List Int), f__law_heap [cellsD cs, .int q] = some (pileD N ls, [cellsD cs', .int q]) ∧ 1 ≤ N ∧ N ≤ 1000 ∧ IsPile N ls := by
  obtain ⟨p, cs1, e1, p0, p1⟩ := pkAdd (i := 0) (c := 1) (m := 6) (δ := [cellsD cs, .int q, .none, .none, .none]) (cs := cs) rfl (by omega)
  have u1 : sSetM 2 (x2M dAdd (mOf (xK (.int 1))) (pk 0 (xK (.int 6)))) [cellsD cs, .int q, .none, .none, .none] = some (.nx [cellsD cs1, .int q, .int (1 + p), .none, .none]) := by
    rw [sSetM_e, e1]; rfl
  obtain ⟨n, cs2, u2, hn⟩ := drawnIf (i := 0) (j := 2) (c := 6) (c2 := 7) (m := 8) (m2 := 4) (δ := [cellsD cs1, .int q, .int (1 + p), .none, .none]) (s := 1 + p) rfl rfl (by decide) (by omega) (by omega)
  obtain ⟨N, rfl⟩ := Int.eq_ofNat_of_zero_le (show 0 ≤ n by omega)
  obtain ⟨M, ls, cs3, a, u3, hp, m1, m2⟩ := hKind_e (N := N) (by omega) (by omega) cs2 q
  obtain ⟨ls', cs4, u4, hp'⟩ := hPop_e hp cs3 (.int q) a
  refine ⟨M, ls', cs4, ?_, m1, m2, hp'⟩
  have u5 : sRet (xL mkTup (xCons (xV 2) (xCons (xL oTup (xCons (xV 3) xNil)) xNil))) [cellsD cs4, .int q, .int M, .list (ls'.map leafD), a] = some (.rt (pileD M ls') [cellsD cs4, .int q, .int M, .list (ls'.map leafD), a]) := by
    rw [sRet_e, xL_e]
    show (mkTup [PyData.int M, PyData.tuple (ls'.map leafD)]).bind _ = _
    rw [tup2]
    rfl
  unfold hKind pk at u3
  unfold hPop pk at u4
  unfold pk at u1 u2
  have g : g__law_heap [cellsD cs, .int q, .none, .none, .none] = some (.rt (pileD M ls') [cellsD cs4, .int q, .int M, .list (ls'.map leafD), a]) := by
    unfold g__law_heap
    rw [sSeq_nx u1, sSeq_nx u2]
    show sSeq _ _ [cellsD cs2, .int q, .int N, .none, .none] = _
    rw [sSeq_nx u3, sSeq_nx u4]
    exact u5
  unfold f__law_heap
  rw [fnF_e]
  show (g__law_heap [cellsD cs, .int q, .none, .none, .none]).bind _ = _
  rw [g]
  rfl
end LawK02

set_option linter.all false
set_option maxRecDepth 10000
namespace LawK02
open PySem Pv
/-! k02: the law -/
theorem law_pure : ∀ ns : List Int, ns.length ≤ 63 → ∃ ds', f_law [.list (ns.map .int)] = some (.bool true, ds') := fun ns hn => by
  obtain ⟨cs, e0⟩ := f_cells ns hn
  obtain ⟨S, eS⟩ : ∃ S, S = PyData.list (ns.map .int) := ⟨_, rfl⟩
  rw [← eS] at e0 ⊢
  have u1 : sSet 1 (xCall f__law_cells (xCons (xV 0) (xCons (xK (.int 160)) xNil))) [S, .none, .none, .none, .none] = some (.nx [S, cellsD cs, .none, .none, .none]) := by
    have t1 : xCons (xV 0) (xCons (xK (.int 160)) xNil) [S, .none, .none, .none, .none] = some [S, .int 160] := rfl
    rw [sSet_e, xCall_e, t1, Option.bind_some, e0]
    rfl
  obtain ⟨p, cs1, e1, _, _⟩ := pk_e (i := 1) (f := xK (.int 4)) (δ := [S, cellsD cs, .none, .none, .none]) (m := 4) rfl rfl (by omega)
  have e1' : pk 1 (xK (.int 4)) [S, cellsD cs, .none, .none, .none] = some (.int p, [S, cellsD cs1, .none, .none, .none]) := e1
  obtain ⟨N, ls, cs2, e2, n1, n2, hp⟩ := f_heap cs1 p
  have u2 : sSetM 2 (xCallM [some 1, none] f__law_heap (xmIoL 1 (xmCons (pk 1 (xK (.int 4))) xmNil))) [S, cellsD cs, .none, .none, .none] = some (.nx [S, cellsD cs2, pileD N ls, .none, .none]) := by
    have t2 : xmIoL 1 (xmCons (pk 1 (xK (.int 4))) xmNil) [S, cellsD cs, .none, .none, .none] = some ([cellsD cs1, .int p], [S, cellsD cs1, .none, .none, .none]) := by
      rw [xmIoL_e, xmCons_e, e1', Option.bind_some, xmNil_e, Option.bind_some, Option.bind_some]
      rfl
    rw [sSetM_e, xCallM_e, t2, Option.bind_some]
    dsimp only
    rw [e2]
    rfl
  obtain ⟨A, cs3, e3, hA⟩ := f_llot hp n1 n2 cs2
  have u3 : sSetM 3 (xCallM [some 1, none] f__law_lot (xmCons (xMov 1) (xmCons (mOf (xV 2)) xmNil))) [S, cellsD cs2, pileD N ls, .none, .none] = some (.nx [S, cellsD cs3, pileD N ls, lotD A, .none]) := by
    rw [sSetM_e, callM1 (c := cellsD cs2) (x := pileD N ls) rfl rfl e3]
    rfl
  obtain ⟨B, cs4, e4, hB⟩ := f_llot hp n1 n2 cs3
  have u4 : sSetM 4 (xCallM [some 1, none] f__law_lot (xmCons (xMov 1) (xmCons (mOf (xV 2)) xmNil))) [S, cellsD cs3, pileD N ls, lotD A, .none] = some (.nx [S, cellsD cs4, pileD N ls, lotD A, lotD B]) := by
    rw [sSetM_e, callM1 (c := cellsD cs3) (x := pileD N ls) rfl rfl e4]
    rfl
  obtain ⟨d1, w1⟩ := f_lpieces hp n2
  obtain ⟨d2, w2⟩ := f_lgates hp n2 hA hB
  obtain ⟨d3, w3⟩ := f_lgates hp n2 hB hA
  have x1 : xCall f__law_pieces (xCons (xV 2) xNil) [S, cellsD cs4, pileD N ls, lotD A, lotD B] = some (.bool true) := by
    have t : xCons (xV 2) xNil [S, cellsD cs4, pileD N ls, lotD A, lotD B] = some [pileD N ls] := rfl
    rw [xCall_e, t, Option.bind_some, w1]; rfl
  have x2 : xCall f__law_gates (xCons (xV 2) (xCons (xV 3) (xCons (xV 4) xNil))) [S, cellsD cs4, pileD N ls, lotD A, lotD B] = some (.bool true) := by
    have t : xCons (xV 2) (xCons (xV 3) (xCons (xV 4) xNil)) [S, cellsD cs4, pileD N ls, lotD A, lotD B] = some [pileD N ls, lotD A, lotD B] := rfl
    rw [xCall_e, t, Option.bind_some, w2]; rfl
  have x3 : xCall f__law_gates (xCons (xV 2) (xCons (xV 4) (xCons (xV 3) xNil))) [S, cellsD cs4, pileD N ls, lotD A, lotD B] = some (.bool true) := by
    have t : xCons (xV 2) (xCons (xV 4) (xCons (xV 3) xNil)) [S, cellsD cs4, pileD N ls, lotD A, lotD B] = some [pileD N ls, lotD B, lotD A] := rfl
    rw [xCall_e, t, Option.bind_some, w3]; rfl
  unfold pk at u2
  have g : g_law [S, .none, .none, .none, .none] = some (.rt (.bool true) [S, cellsD cs4, pileD N ls, lotD A, lotD B]) := by
    unfold g_law
    rw [sSeq_nx u1, sSeq_nx u2, sSeq_nx u3, sSeq_nx u4, sRet_e, xAnd_e, x1, Option.bind_some, toB_e, Option.bind_some, if_pos rfl, xAnd_e, x2, Option.bind_some, toB_e, Option.bind_some, if_pos rfl, xAnd_e, x3, Option.bind_some, toB_e, Option.bind_some, if_pos rfl, x1]
    rfl
  refine ⟨[S], ?_⟩
  unfold f_law
  rw [fnF_e]
  show (g_law [S, .none, .none, .none, .none]).bind _ = _
  rw [g]
  rfl
end LawK02

set_option Elab.async false
set_option linter.all false
set_option maxRecDepth 100000
set_option maxHeartbeats 4000000
/-! unsewn_k02_whole_gates_and_pieces: the derivations (printed by pvgen.py) -/
namespace LawK02
open PySem PySem.Spec PyProof.Rows L2 Pv
def top (i : Nat) : Stmt := PySem.Challenge.pw_unsewn_k02_whole_gates_and_pieces.main.body.getD i (.Pass ⟨0, 0, 0, 0⟩)
abbrev st_word_bonds : Stmt := top 1
abbrev st_piece_by : Stmt := top 2
abbrev st_is_integer : Stmt := top 8
abbrev st__law_mix : Stmt := top 26
abbrev st__law_pick : Stmt := top 28
abbrev st__law_across : Stmt := top 34
abbrev st__law_parted : Stmt := top 35
abbrev st__law_grown : Stmt := top 36
abbrev st_is_number : Stmt := top 9
abbrev st_pieces_of : Stmt := top 18
abbrev st__law_cells : Stmt := top 27
abbrev st__law_dealt : Stmt := top 29
abbrev st__law_lot : Stmt := top 40
abbrev st_is_word : Stmt := top 10
abbrev st__law_ring : Stmt := top 30
abbrev st_is_lot : Stmt := top 11
abbrev st_from_word : Stmt := top 23
abbrev st_to_word : Stmt := top 24
abbrev st__law_side_by_side : Stmt := top 31
abbrev st_within : Stmt := top 14
abbrev st_leaving : Stmt := top 15
abbrev st_entering : Stmt := top 16
abbrev st_fan_of : Stmt := top 20
abbrev st_ends_of : Stmt := top 21
abbrev st__law_heap : Stmt := top 32
abbrev st_gates_of : Stmt := top 13
abbrev st_hangs_together : Stmt := top 17
abbrev st_surplus_of : Stmt := top 22
abbrev st__law_same : Stmt := top 33
abbrev st__law_hangs : Stmt := top 37
abbrev st__law_pieces : Stmt := top 38
abbrev st__law_gates : Stmt := top 39
abbrev st_law : Stmt := top 41
structure Tx (K : PySem.W.Frag) (mg : Str → Option Value) where
  a_word_bonds : Addr
  d_word_bonds : FuncData
  m_word_bonds : mg "word_bonds" = some (.ref a_word_bonds)
  k_word_bonds : PySem.W.keepIn K (.ref a_word_bonds) = true
  f_word_bonds : Fun K "word_bonds" "word_bonds" st_word_bonds a_word_bonds d_word_bonds
  b_word_bonds : Binds K d_word_bonds ["leaves"] []
  a_piece_by : Addr
  d_piece_by : FuncData
  m_piece_by : mg "piece_by" = some (.ref a_piece_by)
  k_piece_by : PySem.W.keepIn K (.ref a_piece_by) = true
  f_piece_by : Fun K "piece_by" "piece_by" st_piece_by a_piece_by d_piece_by
  b_piece_by : Binds K d_piece_by ["bonds", "start"] []
  a_is_integer : Addr
  d_is_integer : FuncData
  m_is_integer : mg "is_integer" = some (.ref a_is_integer)
  k_is_integer : PySem.W.keepIn K (.ref a_is_integer) = true
  f_is_integer : Fun K "is_integer" "is_integer" st_is_integer a_is_integer d_is_integer
  b_is_integer : Binds K d_is_integer ["thing"] []
  a__law_mix : Addr
  d__law_mix : FuncData
  m__law_mix : mg "_law_mix" = some (.ref a__law_mix)
  k__law_mix : PySem.W.keepIn K (.ref a__law_mix) = true
  f__law_mix : Fun K "_law_mix" "_law_mix" st__law_mix a__law_mix d__law_mix
  b__law_mix : Binds K d__law_mix ["_law_cell", "_law_k"] []
  a__law_pick : Addr
  d__law_pick : FuncData
  m__law_pick : mg "_law_pick" = some (.ref a__law_pick)
  k__law_pick : PySem.W.keepIn K (.ref a__law_pick) = true
  f__law_pick : Fun K "_law_pick" "_law_pick" st__law_pick a__law_pick d__law_pick
  b__law_pick : Binds K d__law_pick ["_law_cells_here", "_law_limit"] []
  a__law_across : Addr
  d__law_across : FuncData
  m__law_across : mg "_law_across" = some (.ref a__law_across)
  k__law_across : PySem.W.keepIn K (.ref a__law_across) = true
  f__law_across : Fun K "_law_across" "_law_across" st__law_across a__law_across d__law_across
  b__law_across : Binds K d__law_across ["_law_pile", "_law_left", "_law_right"] []
  a__law_parted : Addr
  d__law_parted : FuncData
  m__law_parted : mg "_law_parted" = some (.ref a__law_parted)
  k__law_parted : PySem.W.keepIn K (.ref a__law_parted) = true
  f__law_parted : Fun K "_law_parted" "_law_parted" st__law_parted a__law_parted d__law_parted
  b__law_parted : Binds K d__law_parted ["_law_pile", "_law_part"] []
  a__law_grown : Addr
  d__law_grown : FuncData
  m__law_grown : mg "_law_grown" = some (.ref a__law_grown)
  k__law_grown : PySem.W.keepIn K (.ref a__law_grown) = true
  f__law_grown : Fun K "_law_grown" "_law_grown" st__law_grown a__law_grown d__law_grown
  b__law_grown : Binds K d__law_grown ["_law_pile", "_law_seed", "_law_part"] []
  a_is_number : Addr
  d_is_number : FuncData
  m_is_number : mg "is_number" = some (.ref a_is_number)
  k_is_number : PySem.W.keepIn K (.ref a_is_number) = true
  f_is_number : Fun K "is_number" "is_number" st_is_number a_is_number d_is_number
  b_is_number : Binds K d_is_number ["thing"] []
  a_pieces_of : Addr
  d_pieces_of : FuncData
  m_pieces_of : mg "pieces_of" = some (.ref a_pieces_of)
  k_pieces_of : PySem.W.keepIn K (.ref a_pieces_of) = true
  f_pieces_of : Fun K "pieces_of" "pieces_of" st_pieces_of a_pieces_of d_pieces_of
  b_pieces_of : Binds K d_pieces_of ["heap"] []
  a__law_cells : Addr
  d__law_cells : FuncData
  m__law_cells : mg "_law_cells" = some (.ref a__law_cells)
  k__law_cells : PySem.W.keepIn K (.ref a__law_cells) = true
  f__law_cells : Fun K "_law_cells" "_law_cells" st__law_cells a__law_cells d__law_cells
  b__law_cells : Binds K d__law_cells ["_law_script", "_law_many_more"] []
  a__law_dealt : Addr
  d__law_dealt : FuncData
  m__law_dealt : mg "_law_dealt" = some (.ref a__law_dealt)
  k__law_dealt : PySem.W.keepIn K (.ref a__law_dealt) = true
  f__law_dealt : Fun K "_law_dealt" "_law_dealt" st__law_dealt a__law_dealt d__law_dealt
  b__law_dealt : Binds K d__law_dealt ["_law_cells_here", "_law_things"] []
  a__law_lot : Addr
  d__law_lot : FuncData
  m__law_lot : mg "_law_lot" = some (.ref a__law_lot)
  k__law_lot : PySem.W.keepIn K (.ref a__law_lot) = true
  f__law_lot : Fun K "_law_lot" "_law_lot" st__law_lot a__law_lot d__law_lot
  b__law_lot : Binds K d__law_lot ["_law_cells_here", "_law_pile"] []
  a_is_word : Addr
  d_is_word : FuncData
  m_is_word : mg "is_word" = some (.ref a_is_word)
  k_is_word : PySem.W.keepIn K (.ref a_is_word) = true
  f_is_word : Fun K "is_word" "is_word" st_is_word a_is_word d_is_word
  b_is_word : Binds K d_is_word ["heap", "thing"] []
  a__law_ring : Addr
  d__law_ring : FuncData
  m__law_ring : mg "_law_ring" = some (.ref a__law_ring)
  k__law_ring : PySem.W.keepIn K (.ref a__law_ring) = true
  f__law_ring : Fun K "_law_ring" "_law_ring" st__law_ring a__law_ring d__law_ring
  b__law_ring : Binds K d__law_ring ["_law_cells_here", "_law_size", "_law_extra"] []
  a_is_lot : Addr
  d_is_lot : FuncData
  m_is_lot : mg "is_lot" = some (.ref a_is_lot)
  k_is_lot : PySem.W.keepIn K (.ref a_is_lot) = true
  f_is_lot : Fun K "is_lot" "is_lot" st_is_lot a_is_lot d_is_lot
  b_is_lot : Binds K d_is_lot ["heap", "thing"] []
  a_from_word : Addr
  d_from_word : FuncData
  m_from_word : mg "from_word" = some (.ref a_from_word)
  k_from_word : PySem.W.keepIn K (.ref a_from_word) = true
  f_from_word : Fun K "from_word" "from_word" st_from_word a_from_word d_from_word
  b_from_word : Binds K d_from_word ["heap", "word"] []
  a_to_word : Addr
  d_to_word : FuncData
  m_to_word : mg "to_word" = some (.ref a_to_word)
  k_to_word : PySem.W.keepIn K (.ref a_to_word) = true
  f_to_word : Fun K "to_word" "to_word" st_to_word a_to_word d_to_word
  b_to_word : Binds K d_to_word ["heap", "word"] []
  a__law_side_by_side : Addr
  d__law_side_by_side : FuncData
  m__law_side_by_side : mg "_law_side_by_side" = some (.ref a__law_side_by_side)
  k__law_side_by_side : PySem.W.keepIn K (.ref a__law_side_by_side) = true
  f__law_side_by_side : Fun K "_law_side_by_side" "_law_side_by_side" st__law_side_by_side a__law_side_by_side d__law_side_by_side
  b__law_side_by_side : Binds K d__law_side_by_side ["_law_cells_here", "_law_parts"] []
  a_within : Addr
  d_within : FuncData
  m_within : mg "within" = some (.ref a_within)
  k_within : PySem.W.keepIn K (.ref a_within) = true
  f_within : Fun K "within" "within" st_within a_within d_within
  b_within : Binds K d_within ["heap", "lot"] []
  a_leaving : Addr
  d_leaving : FuncData
  m_leaving : mg "leaving" = some (.ref a_leaving)
  k_leaving : PySem.W.keepIn K (.ref a_leaving) = true
  f_leaving : Fun K "leaving" "leaving" st_leaving a_leaving d_leaving
  b_leaving : Binds K d_leaving ["heap", "lot"] []
  a_entering : Addr
  d_entering : FuncData
  m_entering : mg "entering" = some (.ref a_entering)
  k_entering : PySem.W.keepIn K (.ref a_entering) = true
  f_entering : Fun K "entering" "entering" st_entering a_entering d_entering
  b_entering : Binds K d_entering ["heap", "lot"] []
  a_fan_of : Addr
  d_fan_of : FuncData
  m_fan_of : mg "fan_of" = some (.ref a_fan_of)
  k_fan_of : PySem.W.keepIn K (.ref a_fan_of) = true
  f_fan_of : Fun K "fan_of" "fan_of" st_fan_of a_fan_of d_fan_of
  b_fan_of : Binds K d_fan_of ["heap", "word"] []
  a_ends_of : Addr
  d_ends_of : FuncData
  m_ends_of : mg "ends_of" = some (.ref a_ends_of)
  k_ends_of : PySem.W.keepIn K (.ref a_ends_of) = true
  f_ends_of : Fun K "ends_of" "ends_of" st_ends_of a_ends_of d_ends_of
  b_ends_of : Binds K d_ends_of ["heap", "word"] []
  a__law_heap : Addr
  d__law_heap : FuncData
  m__law_heap : mg "_law_heap" = some (.ref a__law_heap)
  k__law_heap : PySem.W.keepIn K (.ref a__law_heap) = true
  f__law_heap : Fun K "_law_heap" "_law_heap" st__law_heap a__law_heap d__law_heap
  b__law_heap : Binds K d__law_heap ["_law_cells_here", "_law_kind"] []
  a_gates_of : Addr
  d_gates_of : FuncData
  m_gates_of : mg "gates_of" = some (.ref a_gates_of)
  k_gates_of : PySem.W.keepIn K (.ref a_gates_of) = true
  f_gates_of : Fun K "gates_of" "gates_of" st_gates_of a_gates_of d_gates_of
  b_gates_of : Binds K d_gates_of ["heap", "lot"] []
  a_hangs_together : Addr
  d_hangs_together : FuncData
  m_hangs_together : mg "hangs_together" = some (.ref a_hangs_together)
  k_hangs_together : PySem.W.keepIn K (.ref a_hangs_together) = true
  f_hangs_together : Fun K "hangs_together" "hangs_together" st_hangs_together a_hangs_together d_hangs_together
  b_hangs_together : Binds K d_hangs_together ["heap", "lot"] []
  a_surplus_of : Addr
  d_surplus_of : FuncData
  m_surplus_of : mg "surplus_of" = some (.ref a_surplus_of)
  k_surplus_of : PySem.W.keepIn K (.ref a_surplus_of) = true
  f_surplus_of : Fun K "surplus_of" "surplus_of" st_surplus_of a_surplus_of d_surplus_of
  b_surplus_of : Binds K d_surplus_of ["heap", "word"] []
  a__law_same : Addr
  d__law_same : FuncData
  m__law_same : mg "_law_same" = some (.ref a__law_same)
  k__law_same : PySem.W.keepIn K (.ref a__law_same) = true
  f__law_same : Fun K "_law_same" "_law_same" st__law_same a__law_same d__law_same
  b__law_same : Binds K d__law_same ["_law_told", "_law_due"] []
  a__law_hangs : Addr
  d__law_hangs : FuncData
  m__law_hangs : mg "_law_hangs" = some (.ref a__law_hangs)
  k__law_hangs : PySem.W.keepIn K (.ref a__law_hangs) = true
  f__law_hangs : Fun K "_law_hangs" "_law_hangs" st__law_hangs a__law_hangs d__law_hangs
  b__law_hangs : Binds K d__law_hangs ["_law_pile", "_law_part"] []
  a__law_pieces : Addr
  d__law_pieces : FuncData
  m__law_pieces : mg "_law_pieces" = some (.ref a__law_pieces)
  k__law_pieces : PySem.W.keepIn K (.ref a__law_pieces) = true
  f__law_pieces : Fun K "_law_pieces" "_law_pieces" st__law_pieces a__law_pieces d__law_pieces
  b__law_pieces : Binds K d__law_pieces ["_law_pile"] []
  a__law_gates : Addr
  d__law_gates : FuncData
  m__law_gates : mg "_law_gates" = some (.ref a__law_gates)
  k__law_gates : PySem.W.keepIn K (.ref a__law_gates) = true
  f__law_gates : Fun K "_law_gates" "_law_gates" st__law_gates a__law_gates d__law_gates
  b__law_gates : Binds K d__law_gates ["_law_pile", "_law_left", "_law_right"] []
  a_law : Addr
  d_law : FuncData
  m_law : mg "law" = some (.ref a_law)
  k_law : PySem.W.keepIn K (.ref a_law) = true
  f_law : Fun K "law" "law" st_law a_law d_law
  b_law : Binds K d_law ["_law_script"] []
  kb_pieces_of_heap : KwB K d_pieces_of ["heap"] ["heap"] [0]
  kb_entering_lot_heap : KwB K d_entering ["heap", "lot"] ["lot", "heap"] [1, 0]
  z_abs : mg "abs" = none
  z_all : mg "all" = none
  z_bool : mg "bool" = none
  z_enumerate : mg "enumerate" = none
  z_int : mg "int" = none
  z_isinstance : mg "isinstance" = none
  z_len : mg "len" = none
  z_list : mg "list" = none
  z_range : mg "range" = none
  z_reversed : mg "reversed" = none
  z_sorted : mg "sorted" = none
  z_sum : mg "sum" = none
  z_tuple : mg "tuple" = none
section
variable {P : Program} {w : World} {K : PySem.W.Frag} {mg : Str → Option Value} {base : Heap}
theorem sc_word_bonds : FnScope ["leaves", "bonds", "first", "catchword"] ["leaves"] (defScope st_word_bonds) := ⟨rfl, rfl, rfl, by decide +kernel, rfl, by decide +kernel, by decide +kernel⟩
theorem ok_word_bonds (T : Tx K mg) : FnOk P w K mg base CX0 1 T.a_word_bonds T.d_word_bonds ["leaves"] (spF K S_word_bonds) :=
  fn_val (nl := 3) (fo := false) T.f_word_bonds sc_word_bonds rfl rfl rfl rfl (fun h => nomatch h) (fun cdv A outer s H E hr => show PSs _ _ (tS _ [.sh, .no, .no, .no] ⟨[.no, .no, .no, .no], [], [], [.no, .no, .no, .no], .sh⟩ _) from
    have sc := sc_word_bonds
    (zCons (Γ1 := [.sh, (.dk (.ol .sh)), .no, .no]) (zSet (i := 1) sc.nd rfl (by first | exact .inl rfl | exact .inr rfl) cDNewK (by decide) rfl) (zCons (Γ1 := [.sh, (.dk (.ol .sh)), .no, .no]) (zFor (Γ := [.sh, (.dk (.ol .sh)), .no, .no]) (Γ1 := [.sh, (.dk (.ol .sh)), .sh, .sh]) PassesOwn.never rfl (iSeq (cV 0 rfl (by decide) (pv 0))) (hTup rfl (hCons (hName (i := 2) sc.nd rfl (by first | exact .inl rfl | exact .inr rfl) (by decide)) (hCons (hName (i := 3) sc.nd rfl (by first | exact .inl rfl | exact .inr rfl) (by decide)) hNil))) (zWkn (n' := [.sh, (.dk (.ol .sh)), .sh, .sh]) (zCons (Γ1 := [.sh, (.dk (.ol .sh)), .sh, .sh]) (zDrop (mSdK 1 (pe_bm PySem.F.plainAttrs_list PySem.F.slot_list_append PySem.F.type_list_append mt_append (pe_dsetd (pv 1) (cV 2 rfl (by decide) (pv 2)) (pe_lst pa_nil) ⟨rfl, rfl, rfl, rfl⟩) (pa_cons (cV 3 rfl (by decide) (pv 3)) pa_nil)) rfl)) (zOne (zDrop (mSdK 1 (pe_bm PySem.F.plainAttrs_list PySem.F.slot_list_append PySem.F.type_list_append mt_append (pe_dsetd (pv 1) (cV 3 rfl (by decide) (pv 3)) (pe_lst pa_nil) ⟨rfl, rfl, rfl, rfl⟩) (pa_cons (cV 2 rfl (by decide) (pv 2)) pa_nil)) rfl)))) rfl) rfl) (zFrzDK (Γ := [.sh, (.dk (.ol .sh)), .no, .no]) 1 rfl rfl (zOne (zRet (cOfP (cV 1 rfl (by decide) (pv 1))) rfl))))))
theorem sc_piece_by : FnScope ["bonds", "start", "reached", "waiting", "here", "there"] ["bonds", "start"] (defScope st_piece_by) := ⟨rfl, rfl, rfl, by decide +kernel, rfl, by decide +kernel, by decide +kernel⟩
theorem ok_piece_by (T : Tx K mg) : FnOk P w K mg base CX0 1 T.a_piece_by T.d_piece_by ["bonds", "start"] (spF K S_piece_by) :=
  fn_val (nl := 4) (fo := false) T.f_piece_by sc_piece_by rfl rfl rfl rfl (fun h => nomatch h) (fun cdv A outer s H E hr => show PSs _ _ (tS _ [.sh, .sh, .no, .no, .no, .no] ⟨[.no, .no, .no, .no, .no, .no], [], [], [.no, .no, .no, .no, .no, .no], .sh⟩ _) from
    have sc := sc_piece_by
    (zCons (Γ1 := [.sh, .sh, (.dk .sh), .no, .no, .no]) (zSet (i := 2) sc.nd rfl (by first | exact .inl rfl | exact .inr rfl) (cDict1 (cV 1 rfl (by decide) (pv 1)) cBl) (by decide) rfl) (zCons (Γ1 := [.sh, .sh, (.dk .sh), (.ol .sh), .no, .no]) (zSet (i := 3) sc.nd rfl (by first | exact .inl rfl | exact .inr rfl) (cLst (aCons (cV 1 rfl (by decide) (pv 1)) aNil)) (by decide) rfl) (zCons (Γ1 := [.sh, .sh, (.dk .sh), (.ol .sh), .no, .no]) (zWhile (Γ := [.sh, .sh, (.dk .sh), (.ol .sh), .no, .no]) PassesOwn.never (qTruth rfl (cV 3 rfl (by decide) (pv 3))) (zWkn (n' := [.sh, .sh, (.dk .sh), (.ol .sh), .sh, .no]) (zCons (Γ1 := [.sh, .sh, (.dk .sh), (.ol .sh), .sh, .no]) (zSetM (i := 4) sc.nd rfl (by first | exact .inl rfl | exact .inr rfl) (mPop 3 (pe_bm0 PySem.F.plainAttrs_list PySem.F.slot_list_pop PySem.F.type_list_pop mt_pop (pv 3)) rfl) (by decide) rfl) (zOne (zFor (Γ := [.sh, .sh, (.dk .sh), (.ol .sh), .sh, .no]) (Γ1 := [.sh, .sh, (.dk .sh), (.ol .sh), .sh, .sh]) PassesOwn.never rfl (iSeq (cDGet2 (hu_of hr) rfl (cV 0 rfl (by decide) (pv 0)) (cV 4 rfl (by decide) (pv 4)) (cFrz (cNew (t := .sh))) ⟨rfl, rfl, rfl, rfl⟩)) (hName (i := 5) sc.nd rfl (by first | exact .inl rfl | exact .inr rfl) (by decide)) (zWkn (n' := [.sh, .sh, (.dk .sh), (.ol .sh), .sh, .sh]) (zOne (zIf (qCmp (op_dnotin (hu_of hr)) (dnotin_s rfl) (cV 5 rfl (by decide) (pv 5)) (cV 2 rfl (by decide) (pv 2)) (by with_unfolding_all rfl)) (zCons (Γ1 := [.sh, .sh, (.dk .sh), (.ol .sh), .sh, .sh]) (zPutK 2 (ps_dput (hu_of hr) (pv 2) (cV 5 rfl (by decide) (pv 5)) (mOfP cBl) rfl) rfl) (zOne (zDrop (mApp 3 (pe_bm PySem.F.plainAttrs_list PySem.F.slot_list_append PySem.F.type_list_append mt_append (pv 3) (pa_cons (mOfP (cV 5 rfl (by decide) (pv 5))) pa_nil)) rfl rfl)))) zNil)) rfl) rfl))) rfl)) (zFrzDK (Γ := [.sh, .sh, (.dk .sh), (.ol .sh), .no, .no]) 2 rfl rfl (zOne (zRet (cOfP (cCallT call_tuple_of (tup_s rfl) (by rfl) (by exact T.z_tuple) PyProof.Rows.boot_tuple (aCons (cFrz (cSorted (by rfl) (by exact T.z_sorted) (by decide +kernel) rfl (cFrz (cLstD rfl (by rfl) (by exact T.z_list) rfl (aCons (cV 2 rfl (by decide) (pv 2)) aNil))))) aNil))) rfl)))))))
theorem sc_is_integer : FnScope ["thing"] ["thing"] (defScope st_is_integer) := ⟨rfl, rfl, rfl, by decide +kernel, rfl, by decide +kernel, by decide +kernel⟩
theorem ok_is_integer (T : Tx K mg) : FnOk P w K mg base CX0 1 T.a_is_integer T.d_is_integer ["thing"] (spF K S_is_integer) :=
  fn_val (nl := 0) (fo := false) T.f_is_integer sc_is_integer rfl rfl rfl rfl (fun h => nomatch h) (fun cdv A outer s H E hr => show PSs _ _ (tS _ [.sh] ⟨[.no], [], [], [.no], .sh⟩ _) from
    have sc := sc_is_integer
    (zOne (zRet (cOfP (vAnd (cIsi isi_int (by rfl) (by exact T.z_isinstance) (pe_bltn (by rfl) (by exact T.z_int) PyProof.Rows.boot_int rfl) (cV 0 rfl (by decide) (pv 0))) (vOne (vNot (cIsi isi_bool (by rfl) (by exact T.z_isinstance) (pe_bltn (by rfl) (by exact T.z_bool) PyProof.Rows.boot_bool rfl) (cV 0 rfl (by decide) (pv 0))))))) rfl)))
theorem sc__law_mix : FnScope ["_law_cell", "_law_k", "_law_first", "_law_second"] ["_law_cell", "_law_k"] (defScope st__law_mix) := ⟨rfl, rfl, rfl, by decide +kernel, rfl, by decide +kernel, by decide +kernel⟩
theorem ok__law_mix (T : Tx K mg) : FnOk P w K mg base CX0 1 T.a__law_mix T.d__law_mix ["_law_cell", "_law_k"] (spF K S__law_mix) :=
  fn_val (nl := 2) (fo := false) T.f__law_mix sc__law_mix rfl rfl rfl rfl (fun h => nomatch h) (fun cdv A outer s H E hr => show PSs _ _ (tS _ [.sh, .sh, .no, .no] ⟨[.no, .no, .no, .no], [], [], [.no, .no, .no, .no], .sh⟩ _) from
    have sc := sc__law_mix
    (zCons (Γ1 := [.sh, .sh, .sh, .no]) (zSet (i := 2) sc.nd rfl (by first | exact .inl rfl | exact .inr rfl) (cOfP (c2 op_mod md_s (cCallT call_int1 int_s (by rfl) (by exact T.z_int) PyProof.Rows.boot_int (aCons (c2 op_add' add_s (c2 op_add' add_s (c2 op_mul' mul_s (cV 0 rfl (by decide) (pv 0)) cInt) (c2 op_mul' mul_s (cV 1 rfl (by decide) (pv 1)) cInt)) cInt) aNil)) cInt)) (by decide) rfl) (zCons (Γ1 := [.sh, .sh, .sh, .sh]) (zSet (i := 3) sc.nd rfl (by first | exact .inl rfl | exact .inr rfl) (cOfP (c2 op_mod md_s (cCallT call_int1 int_s (by rfl) (by exact T.z_int) PyProof.Rows.boot_int (aCons (c2 op_add' add_s (c2 op_add' add_s (c2 op_mul' mul_s (cV 2 rfl (by decide) (pv 2)) (cV 2 rfl (by decide) (pv 2))) (c2 op_mul' mul_s cInt (cV 2 rfl (by decide) (pv 2)))) (cV 1 rfl (by decide) (pv 1))) aNil)) cInt)) (by decide) rfl) (zOne (zRet (cOfP (c2 op_mod md_s (cCallT call_int1 int_s (by rfl) (by exact T.z_int) PyProof.Rows.boot_int (aCons (c2 op_add' add_s (c2 op_fdivW fd_s (cV 3 rfl (by decide) (pv 3)) cInt) (cV 2 rfl (by decide) (pv 2))) aNil)) cInt)) rfl)))))
theorem sc__law_pick : FnScope ["_law_cells_here", "_law_limit"] ["_law_cells_here", "_law_limit"] (defScope st__law_pick) := ⟨rfl, rfl, rfl, by decide +kernel, rfl, by decide +kernel, by decide +kernel⟩
theorem ok__law_pick (T : Tx K mg) : FnOk P w K mg base CX0 1 T.a__law_pick T.d__law_pick ["_law_cells_here", "_law_limit"] (spF K S__law_pick) :=
  fn_val (nl := 0) (fo := false) T.f__law_pick sc__law_pick rfl rfl rfl rfl (fun h => nomatch h) (fun cdv A outer s H E hr => show PSs _ _ (tS _ [(.ol .sh), .sh] ⟨[(.ol .sh), .no], [], [], [(.ol .sh), .no], .sh⟩ _) from
    have sc := sc__law_pick
    (zCons (Γ1 := [(.ol .sh), .sh]) (zIf (qCmp (op_eqD hr.units) (eq_s rfl rfl) (cCallB call_len' (len_s rfl) (by rfl) (by exact T.z_len) PySem.boot_len (aCons (cV 0 rfl (by decide) (pv 0)) aNil)) cInt (nomark _)) (zOne (zRet (cOfP cInt) rfl)) zNil) (zOne (zRetM (m2 op_mod md_s (mCallT call_int1 int_s rfl (by rfl) (by exact T.z_int) PyProof.Rows.boot_int (aMCons (mPop 0 (pe_bm0 PySem.F.plainAttrs_list PySem.F.slot_list_pop PySem.F.type_list_pop mt_pop (pv 0)) rfl) aMNil)) (mOfP (cV 1 rfl (by decide) (pv 1)))) rfl))))
theorem sc__law_across : FnScope ["_law_pile", "_law_left", "_law_right", "_law_pair"] ["_law_pile", "_law_left", "_law_right"] (defScope st__law_across) := ⟨rfl, rfl, rfl, by decide +kernel, rfl, by decide +kernel, by decide +kernel⟩
theorem ok__law_across (T : Tx K mg) : FnOk P w K mg base CX0 1 T.a__law_across T.d__law_across ["_law_pile", "_law_left", "_law_right"] (spF K S__law_across) :=
  fn_val (nl := 1) (fo := false) T.f__law_across sc__law_across rfl rfl rfl rfl (fun h => nomatch h) (fun cdv A outer s H E hr => show PSs _ _ (tS _ [.sh, .sh, .sh, .no] ⟨[.no, .no, .no, .no], [], [], [.no, .no, .no, .no], .sh⟩ _) from
    have sc := sc__law_across
    (zOne (zRet (cOfP (cCallB call_len' (len_s rfl) (by rfl) (by exact T.z_len) PySem.boot_len (aCons (cFrz (cCmp0 (own := [("_law_pair", 3)]) (Γ1 := [.sh, .sh, .sh, .sh]) rfl sc.nd (iSeq (cIx ix_sh (cV 0 rfl (by decide) (pv 0)) cInt (by intro _ _; rfl))) (show BlkOk ["_law_pile", "_law_left", "_law_right", "_law_pair"] (defScope st__law_across) _ _ from ⟨rfl, by decide +kernel, by decide +kernel, by decide +kernel, by decide +kernel⟩) (fun _ _ _ _ _ => (hName (i := 3) sc.nd rfl (by first | exact .inl rfl | exact .inr rfl) (by decide))) (fun _ _ _ _ _ => (kOne (qAnd (qCmp op_in_seq (in_s rfl) (cIx ix_sh (cV 3 rfl (by decide) (pv 3)) cInt (by intro _ _; rfl)) (cV 1 rfl (by decide) (pv 1)) (by with_unfolding_all rfl)) (qAnd1 (qCmp op_in_seq (in_s rfl) (cIx ix_sh (cV 3 rfl (by decide) (pv 3)) cInt (by intro _ _; rfl)) (cV 2 rfl (by decide) (pv 2)) (by with_unfolding_all rfl)))).pt)) (fun _ _ _ _ _ => (cOfP (cV 3 rfl (by decide) (pv 3)))) rfl)) aNil))) rfl)))
theorem sc__law_parted : FnScope ["_law_pile", "_law_part", "_law_inner", "_law_pair", "_law_halves", "_law_k", "_law_number", "_law_left", "_law_rest", "_law_between"] ["_law_pile", "_law_part"] (defScope st__law_parted) := ⟨rfl, rfl, rfl, by decide +kernel, rfl, by decide +kernel, by decide +kernel⟩
theorem ok__law_parted (T : Tx K mg) : FnOk P w K mg base CX0 1 T.a__law_parted T.d__law_parted ["_law_pile", "_law_part"] (spF K S__law_parted) :=
  fn_val (nl := 8) (fo := false) T.f__law_parted sc__law_parted rfl rfl rfl rfl (fun h => nomatch h) (fun cdv A outer s H E hr => show PSs _ _ (tS _ [.sh, .sh, .no, .no, .no, .no, .no, .no, .no, .no] ⟨[.no, .no, .no, .no, .no, .no, .no, .no, .no, .no], [], [], [.no, .no, .no, .no, .no, .no, .no, .no, .no, .no], .sh⟩ _) from
    have sc := sc__law_parted
    (zCons (Γ1 := [.sh, .sh, (.ol .sh), .no, .no, .no, .no, .no, .no, .no]) (zSetCmp (own := [("_law_pair", 3)]) (Γ1 := [.sh, .sh, .no, .sh, .no, .no, .no, .no, .no, .no]) (i := 2) rfl sc.nd rfl rfl rfl (iSeq (cIx ix_sh (cV 0 rfl (by decide) (pv 0)) cInt (by intro _ _; rfl))) (show BlkOk ["_law_pile", "_law_part", "_law_inner", "_law_pair", "_law_halves", "_law_k", "_law_number", "_law_left", "_law_rest", "_law_between"] (defScope st__law_parted) _ _ from ⟨rfl, by decide +kernel, by decide +kernel, by decide +kernel, by decide +kernel⟩) (fun _ _ _ _ _ => (hName (i := 3) sc.nd rfl (by first | exact .inl rfl | exact .inr rfl) (by decide))) (fun _ _ _ _ _ => (kOne (qAnd (qCmp op_in_seq (in_s rfl) (cIx ix_sh (cV 3 rfl (by decide) (pv 3)) cInt (by intro _ _; rfl)) (cV 1 rfl (by decide) (pv 1)) (by with_unfolding_all rfl)) (qAnd1 (qCmp op_in_seq (in_s rfl) (cIx ix_sh (cV 3 rfl (by decide) (pv 3)) cInt (by intro _ _; rfl)) (cV 1 rfl (by decide) (pv 1)) (by with_unfolding_all rfl)))).pt)) (fun _ _ _ _ _ => (cOfP (cV 3 rfl (by decide) (pv 3)))) rfl (by decide) rfl) (zFrz (Γ := [.sh, .sh, (.ol .sh), .no, .no, .no, .no, .no, .no, .no]) 2 rfl rfl (zCons (Γ1 := [.sh, .sh, .sh, .no, .sh, .no, .no, .no, .no, .no]) (zSet (i := 4) sc.nd rfl (by first | exact .inl rfl | exact .inr rfl) (cOfP cInt) (by decide) rfl) (zCons (Γ1 := [.sh, .sh, .sh, .no, .sh, .no, .no, .no, .no, .no]) (zFor (Γ := [.sh, .sh, .sh, .no, .sh, .no, .no, .no, .no, .no]) (Γ1 := [.sh, .sh, .sh, .no, .sh, .sh, .no, .no, .no, .no]) PassesOwn.never rfl (Pv.iRng1 (by rfl) (by exact T.z_range) (aCons (c2 op_sub sub_s (cCallB call_len' (len_s rfl) (by rfl) (by exact T.z_len) PySem.boot_len (aCons (cV 1 rfl (by decide) (pv 1)) aNil)) cInt) aNil)) (hName (i := 5) sc.nd rfl (by first | exact .inl rfl | exact .inr rfl) (by decide)) (zWkn (n' := [.sh, .sh, .sh, .no, .sh, .sh, .no, .no, .no, .no]) (zOne (zSet (i := 4) sc.nd rfl (by first | exact .inl rfl | exact .inr rfl) (cOfP (c2 op_mul' mul_s (cV 4 rfl (by decide) (pv 4)) cInt)) (by decide) rfl)) rfl) rfl) (zCons (Γ1 := [.sh, .sh, .sh, .no, .sh, .no, .no, .no, .no, .no]) (zFor (Γ := [.sh, .sh, .sh, .no, .sh, .no, .no, .no, .no, .no]) (Γ1 := [.sh, .sh, .sh, .no, .sh, .no, .sh, .no, .no, .no]) PassesOwn.never rfl (Pv.iRng2 (by rfl) (by exact T.z_range) (aCons cInt (aCons (cV 4 rfl (by decide) (pv 4)) aNil))) (hName (i := 6) sc.nd rfl (by first | exact .inl rfl | exact .inr rfl) (by decide)) (zWkn (n' := [.sh, .sh, .sh, .no, .sh, .no, .sh, .sh, .sh, .sh]) (zCons (Γ1 := [.sh, .sh, .sh, .no, .sh, .no, .sh, (.ol .sh), .no, .no]) (zSet (i := 7) sc.nd rfl (by first | exact .inl rfl | exact .inr rfl) (cLst (aCons (cIx ix_sh (cV 1 rfl (by decide) (pv 1)) cInt (by intro _ _; rfl)) aNil)) (by decide) rfl) (zCons (Γ1 := [.sh, .sh, .sh, .no, .sh, .no, .sh, (.ol .sh), .sh, .no]) (zSet (i := 8) sc.nd rfl (by first | exact .inl rfl | exact .inr rfl) (cOfP (cV 6 rfl (by decide) (pv 6))) (by decide) rfl) (zCons (Γ1 := [.sh, .sh, .sh, .no, .sh, .no, .sh, (.ol .sh), .sh, .no]) (zFor (Γ := [.sh, .sh, .sh, .no, .sh, .no, .sh, (.ol .sh), .sh, .no]) (Γ1 := [.sh, .sh, .sh, .no, .sh, .sh, .sh, (.ol .sh), .sh, .no]) PassesOwn.never rfl (Pv.iRng2 (by rfl) (by exact T.z_range) (aCons cInt (aCons (cCallB call_len' (len_s rfl) (by rfl) (by exact T.z_len) PySem.boot_len (aCons (cV 1 rfl (by decide) (pv 1)) aNil)) aNil))) (hName (i := 5) sc.nd rfl (by first | exact .inl rfl | exact .inr rfl) (by decide)) (zWkn (n' := [.sh, .sh, .sh, .no, .sh, .sh, .sh, (.ol .sh), .sh, .no]) (zCons (Γ1 := [.sh, .sh, .sh, .no, .sh, .sh, .sh, (.ol .sh), .sh, .no]) (zIf (qCmp (op_eqD hr.units) (eq_s rfl rfl) (c2 op_mod md_s (cCallT call_int1 int_s (by rfl) (by exact T.z_int) PyProof.Rows.boot_int (aCons (cV 8 rfl (by decide) (pv 8)) aNil)) cInt) cInt (nomark _)) (zOne (zDrop (mApp 7 (pe_bm PySem.F.plainAttrs_list PySem.F.slot_list_append PySem.F.type_list_append mt_append (pv 7) (pa_cons (mOfP (cIx ix_sh (cV 1 rfl (by decide) (pv 1)) (cV 5 rfl (by decide) (pv 5)) (by intro _ _; rfl))) pa_nil)) rfl rfl))) zNil) (zOne (zSet (i := 8) sc.nd rfl (by first | exact .inl rfl | exact .inr rfl) (cOfP (c2 op_fdivW fd_s (cV 8 rfl (by decide) (pv 8)) cInt)) (by decide) rfl))) rfl) rfl) (zFrz (Γ := [.sh, .sh, .sh, .no, .sh, .no, .sh, (.ol .sh), .sh, .no]) 7 rfl rfl (zCons (Γ1 := [.sh, .sh, .sh, .no, .sh, .no, .sh, .sh, .sh, (.ol .sh)]) (zSetCmp (own := [("_law_pair", 3)]) (Γ1 := [.sh, .sh, .sh, .sh, .sh, .no, .sh, .sh, .sh, .no]) (i := 9) rfl sc.nd rfl rfl rfl (iSeq (cV 2 rfl (by decide) (pv 2))) (show BlkOk ["_law_pile", "_law_part", "_law_inner", "_law_pair", "_law_halves", "_law_k", "_law_number", "_law_left", "_law_rest", "_law_between"] (defScope st__law_parted) _ _ from ⟨rfl, by decide +kernel, by decide +kernel, by decide +kernel, by decide +kernel⟩) (fun _ _ _ _ _ => (hName (i := 3) sc.nd rfl (by first | exact .inl rfl | exact .inr rfl) (by decide))) (fun _ _ _ _ _ => (kOne (qCmp (op_neD hr.units) (ne_s rfl rfl) (cCmp op_in_seq (in_s rfl) (cIx ix_sh (cV 3 rfl (by decide) (pv 3)) cInt (by intro _ _; rfl)) (cV 7 rfl (by decide) (pv 7)) (by with_unfolding_all rfl)) (cCmp op_in_seq (in_s rfl) (cIx ix_sh (cV 3 rfl (by decide) (pv 3)) cInt (by intro _ _; rfl)) (cV 7 rfl (by decide) (pv 7)) (by with_unfolding_all rfl)) (nomark _)))) (fun _ _ _ _ _ => (cOfP (cV 3 rfl (by decide) (pv 3)))) rfl (by decide) rfl) (zFrz (Γ := [.sh, .sh, .sh, .no, .sh, .no, .sh, .sh, .sh, (.ol .sh)]) 9 rfl rfl (zOne (zIf (qCmp (op_eqD hr.units) (eq_s rfl rfl) (cCallB call_len' (len_s rfl) (by rfl) (by exact T.z_len) PySem.boot_len (aCons (cV 9 rfl (by decide) (pv 9)) aNil)) cInt (nomark _)) (zOne (zRet (cOfP cBl) rfl)) zNil)))))))) rfl) rfl) (zOne (zRet (cOfP cBl) rfl))))))))
theorem sc__law_grown : FnScope ["_law_pile", "_law_seed", "_law_part", "_law_met", "_law_k", "_law_pair"] ["_law_pile", "_law_seed", "_law_part"] (defScope st__law_grown) := ⟨rfl, rfl, rfl, by decide +kernel, rfl, by decide +kernel, by decide +kernel⟩
theorem ok__law_grown (T : Tx K mg) : FnOk P w K mg base CX0 1 T.a__law_grown T.d__law_grown ["_law_pile", "_law_seed", "_law_part"] (spF K S__law_grown) :=
  fn_val (nl := 3) (fo := false) T.f__law_grown sc__law_grown rfl rfl rfl rfl (fun h => nomatch h) (fun cdv A outer s H E hr => show PSs _ _ (tS _ [.sh, .sh, .sh, .no, .no, .no] ⟨[.no, .no, .no, .no, .no, .no], [], [], [.no, .no, .no, .no, .no, .no], .sh⟩ _) from
    have sc := sc__law_grown
    (zCons (Γ1 := [.sh, .sh, .sh, (.ol .sh), .no, .no]) (zSet (i := 3) sc.nd rfl (by first | exact .inl rfl | exact .inr rfl) (cLst (aCons (cV 1 rfl (by decide) (pv 1)) aNil)) (by decide) rfl) (zCons (Γ1 := [.sh, .sh, .sh, (.ol .sh), .no, .no]) (zFor (Γ := [.sh, .sh, .sh, (.ol .sh), .no, .no]) (Γ1 := [.sh, .sh, .sh, (.ol .sh), .sh, .no]) PassesOwn.never rfl (Pv.iRng1 (by rfl) (by exact T.z_range) (aCons (cCallB call_len' (len_s rfl) (by rfl) (by exact T.z_len) PySem.boot_len (aCons (cV 2 rfl (by decide) (pv 2)) aNil)) aNil)) (hName (i := 4) sc.nd rfl (by first | exact .inl rfl | exact .inr rfl) (by decide)) (zWkn (n' := [.sh, .sh, .sh, (.ol .sh), .sh, .no]) (zOne (zFor (Γ := [.sh, .sh, .sh, (.ol .sh), .sh, .no]) (Γ1 := [.sh, .sh, .sh, (.ol .sh), .sh, .sh]) PassesOwn.never rfl (iSeq (cIx ix_sh (cV 0 rfl (by decide) (pv 0)) cInt (by intro _ _; rfl))) (hName (i := 5) sc.nd rfl (by first | exact .inl rfl | exact .inr rfl) (by decide)) (zWkn (n' := [.sh, .sh, .sh, (.ol .sh), .sh, .sh]) (zCons (Γ1 := [.sh, .sh, .sh, (.ol .sh), .sh, .sh]) (zIf (qAnd (qCmp op_in_seq (in_s rfl) (cIx ix_sh (cV 5 rfl (by decide) (pv 5)) cInt (by intro _ _; rfl)) (cV 3 rfl (by decide) (pv 3)) (by with_unfolding_all rfl)) (qAnd (qCmp op_notIn_seq (notin_s rfl) (cIx ix_sh (cV 5 rfl (by decide) (pv 5)) cInt (by intro _ _; rfl)) (cV 3 rfl (by decide) (pv 3)) (by with_unfolding_all rfl)) (qAnd1 (qCmp op_in_seq (in_s rfl) (cIx ix_sh (cV 5 rfl (by decide) (pv 5)) cInt (by intro _ _; rfl)) (cV 2 rfl (by decide) (pv 2)) (by with_unfolding_all rfl))))).pt (zOne (zDrop (mApp 3 (pe_bm PySem.F.plainAttrs_list PySem.F.slot_list_append PySem.F.type_list_append mt_append (pv 3) (pa_cons (mOfP (cIx ix_sh (cV 5 rfl (by decide) (pv 5)) cInt (by intro _ _; rfl))) pa_nil)) rfl rfl))) zNil) (zOne (zIf (qAnd (qCmp op_in_seq (in_s rfl) (cIx ix_sh (cV 5 rfl (by decide) (pv 5)) cInt (by intro _ _; rfl)) (cV 3 rfl (by decide) (pv 3)) (by with_unfolding_all rfl)) (qAnd (qCmp op_notIn_seq (notin_s rfl) (cIx ix_sh (cV 5 rfl (by decide) (pv 5)) cInt (by intro _ _; rfl)) (cV 3 rfl (by decide) (pv 3)) (by with_unfolding_all rfl)) (qAnd1 (qCmp op_in_seq (in_s rfl) (cIx ix_sh (cV 5 rfl (by decide) (pv 5)) cInt (by intro _ _; rfl)) (cV 2 rfl (by decide) (pv 2)) (by with_unfolding_all rfl))))).pt (zOne (zDrop (mApp 3 (pe_bm PySem.F.plainAttrs_list PySem.F.slot_list_append PySem.F.type_list_append mt_append (pv 3) (pa_cons (mOfP (cIx ix_sh (cV 5 rfl (by decide) (pv 5)) cInt (by intro _ _; rfl))) pa_nil)) rfl rfl))) zNil))) rfl) rfl)) rfl) rfl) (zFrz (Γ := [.sh, .sh, .sh, (.ol .sh), .no, .no]) 3 rfl rfl (zOne (zRet (cOfP (cCallT call_tuple_of (tup_s rfl) (by rfl) (by exact T.z_tuple) PyProof.Rows.boot_tuple (aCons (cFrz (cSorted (by rfl) (by exact T.z_sorted) (by decide +kernel) rfl (cV 3 rfl (by decide) (pv 3)))) aNil))) rfl))))))
theorem sc_is_number : FnScope ["thing"] ["thing"] (defScope st_is_number) := ⟨rfl, rfl, rfl, by decide +kernel, rfl, by decide +kernel, by decide +kernel⟩
theorem ok_is_number (T : Tx K mg) : FnOk P w K mg base CX0 2 T.a_is_number T.d_is_number ["thing"] (spF K S_is_number) :=
  fn_val (nl := 0) (fo := false) T.f_is_number sc_is_number rfl rfl rfl rfl (fun h => nomatch h) (fun cdv A outer s H E hr => show PSs _ _ (tS _ [.sh] ⟨[.no], [], [], [.no], .sh⟩ _) from
    have sc := sc_is_number
    (zOne (zRet (cOfP (vAnd (pOfC (cCall (S := (S_is_integer)) (ok_is_integer T) (hr.mono (by decide)) (by rfl) (by exact T.m_is_integer) (by exact T.k_is_integer) (by exact T.b_is_integer) (aCons (cV 0 rfl (by decide) (pv 0)) aNil) rfl rfl)) (vOne (cCmp op_ge ge_s (cV 0 rfl (by decide) (pv 0)) cInt (nomark _))))) rfl)))
theorem sc_pieces_of : FnScope ["heap", "bonds", "placed", "pieces", "word", "piece", "member"] ["heap"] (defScope st_pieces_of) := ⟨rfl, rfl, rfl, by decide +kernel, rfl, by decide +kernel, by decide +kernel⟩
theorem ok_pieces_of (T : Tx K mg) : FnOk P w K mg base CX0 2 T.a_pieces_of T.d_pieces_of ["heap"] (spF K S_pieces_of) :=
  fn_val (nl := 6) (fo := false) T.f_pieces_of sc_pieces_of rfl rfl rfl rfl (fun h => nomatch h) (fun cdv A outer s H E hr => show PSs _ _ (tS _ [.sh, .no, .no, .no, .no, .no, .no] ⟨[.no, .no, .no, .no, .no, .no, .no], [], [], [.no, .no, .no, .no, .no, .no, .no], .sh⟩ _) from
    have sc := sc_pieces_of
    (zCons (Γ1 := [.sh, .sh, .no, .no, .no, .no, .no]) (zSet (i := 1) sc.nd rfl (by first | exact .inl rfl | exact .inr rfl) (cCall (S := (S_word_bonds)) (ok_word_bonds T) (hr.mono (by decide)) (by rfl) (by exact T.m_word_bonds) (by exact T.k_word_bonds) (by exact T.b_word_bonds) (aCons (cIx ix_sh (cV 0 rfl (by decide) (pv 0)) cInt (by intro _ _; rfl)) aNil) rfl rfl) (by decide) rfl) (zCons (Γ1 := [.sh, .sh, (.dk .sh), .no, .no, .no, .no]) (zSet (i := 2) sc.nd rfl (by first | exact .inl rfl | exact .inr rfl) cDNewK (by decide) rfl) (zCons (Γ1 := [.sh, .sh, (.dk .sh), (.ol .sh), .no, .no, .no]) (zSet (i := 3) sc.nd rfl (by first | exact .inl rfl | exact .inr rfl) (cNew (t := .sh)) (by decide) rfl) (zCons (Γ1 := [.sh, .sh, (.dk .sh), (.ol .sh), .no, .no, .no]) (zFor (Γ := [.sh, .sh, (.dk .sh), (.ol .sh), .no, .no, .no]) (Γ1 := [.sh, .sh, (.dk .sh), (.ol .sh), .sh, .no, .no]) PassesOwn.never rfl (Pv.iRng1 (by rfl) (by exact T.z_range) (aCons (cIx ix_sh (cV 0 rfl (by decide) (pv 0)) cInt (by intro _ _; rfl)) aNil)) (hName (i := 4) sc.nd rfl (by first | exact .inl rfl | exact .inr rfl) (by decide)) (zWkn (n' := [.sh, .sh, (.dk .sh), (.ol .sh), .sh, .no, .no]) (zOne (zIf (qCmp (op_dnotin (hu_of hr)) (dnotin_s rfl) (cV 4 rfl (by decide) (pv 4)) (cV 2 rfl (by decide) (pv 2)) (by with_unfolding_all rfl)) (zWkn (n' := [.sh, .sh, (.dk .sh), (.ol .sh), .sh, .sh, .no]) (zCons (Γ1 := [.sh, .sh, (.dk .sh), (.ol .sh), .sh, .sh, .no]) (zSet (i := 5) sc.nd rfl (by first | exact .inl rfl | exact .inr rfl) (cCall (S := (S_piece_by)) (ok_piece_by T) (hr.mono (by decide)) (by rfl) (by exact T.m_piece_by) (by exact T.k_piece_by) (by exact T.b_piece_by) (aCons (cV 1 rfl (by decide) (pv 1)) (aCons (cV 4 rfl (by decide) (pv 4)) aNil)) rfl rfl) (by decide) rfl) (zCons (Γ1 := [.sh, .sh, (.dk .sh), (.ol .sh), .sh, .sh, .no]) (zDrop (mApp 3 (pe_bm PySem.F.plainAttrs_list PySem.F.slot_list_append PySem.F.type_list_append mt_append (pv 3) (pa_cons (mOfP (cV 5 rfl (by decide) (pv 5))) pa_nil)) rfl rfl)) (zOne (zFor (Γ := [.sh, .sh, (.dk .sh), (.ol .sh), .sh, .sh, .no]) (Γ1 := [.sh, .sh, (.dk .sh), (.ol .sh), .sh, .sh, .sh]) PassesOwn.never rfl (iSeq (cV 5 rfl (by decide) (pv 5))) (hName (i := 6) sc.nd rfl (by first | exact .inl rfl | exact .inr rfl) (by decide)) (zWkn (n' := [.sh, .sh, (.dk .sh), (.ol .sh), .sh, .sh, .sh]) (zOne (zPutK 2 (ps_dput (hu_of hr) (pv 2) (cV 6 rfl (by decide) (pv 6)) (mOfP cBl) rfl) rfl)) rfl) rfl)))) rfl) zNil)) rfl) rfl) (zFrz (Γ := [.sh, .sh, (.dk .sh), (.ol .sh), .no, .no, .no]) 3 rfl rfl (zOne (zRet (cOfP (cCallT call_tuple_of (tup_s rfl) (by rfl) (by exact T.z_tuple) PyProof.Rows.boot_tuple (aCons (cV 3 rfl (by decide) (pv 3)) aNil))) rfl))))))))
theorem sc__law_cells : FnScope ["_law_script", "_law_many_more", "_law_row_of", "_law_seed", "_law_cell", "_law_left", "_law_k"] ["_law_script", "_law_many_more"] (defScope st__law_cells) := ⟨rfl, rfl, rfl, by decide +kernel, rfl, by decide +kernel, by decide +kernel⟩
theorem ok__law_cells (T : Tx K mg) : FnOk P w K mg base CX0 2 T.a__law_cells T.d__law_cells ["_law_script", "_law_many_more"] (spF K S__law_cells) :=
  fn_val (nl := 5) (fo := false) T.f__law_cells sc__law_cells rfl rfl rfl rfl (fun h => nomatch h) (fun cdv A outer s H E hr => show PSs _ _ (tS _ [.sh, .sh, .no, .no, .no, .no, .no] ⟨[.no, .no, .no, .no, .no, .no, .no], [], [], [.no, .no, .no, .no, .no, .no, .no], (.ol .sh)⟩ _) from
    have sc := sc__law_cells
    (zCons (Γ1 := [.sh, .sh, (.ol .sh), .no, .no, .no, .no]) (zSet (i := 2) sc.nd rfl (by first | exact .inl rfl | exact .inr rfl) (cNew (t := .sh)) (by decide) rfl) (zCons (Γ1 := [.sh, .sh, (.ol .sh), .sh, .no, .no, .no]) (zSet (i := 3) sc.nd rfl (by first | exact .inl rfl | exact .inr rfl) (cOfP (c2 op_add' add_s cInt (c2 op_mul' mul_s cInt (cCallB call_len' (len_s rfl) (by rfl) (by exact T.z_len) PySem.boot_len (aCons (cV 0 rfl (by decide) (pv 0)) aNil))))) (by decide) rfl) (zCons (Γ1 := [.sh, .sh, (.ol .sh), .sh, .no, .no, .no]) (zFor (Γ := [.sh, .sh, (.ol .sh), .sh, .no, .no, .no]) (Γ1 := [.sh, .sh, (.ol .sh), .sh, .sh, .no, .no]) PassesOwn.never rfl (iSeq (cV 0 rfl (by decide) (pv 0))) (hName (i := 4) sc.nd rfl (by first | exact .inl rfl | exact .inr rfl) (by decide)) (zWkn (n' := [.sh, .sh, (.ol .sh), .sh, .sh, .sh, .no]) (zCons (Γ1 := [.sh, .sh, (.ol .sh), .sh, .sh, .sh, .no]) (zSet (i := 5) sc.nd rfl (by first | exact .inl rfl | exact .inr rfl) (cOfP (cCallB call_abs abs_s (by rfl) (by exact T.z_abs) (by decide +kernel) (aCons (cCallT call_int1 int_s (by rfl) (by exact T.z_int) PyProof.Rows.boot_int (aCons (cV 4 rfl (by decide) (pv 4)) aNil)) aNil))) (by decide) rfl) (zCons (Γ1 := [.sh, .sh, (.ol .sh), .sh, .sh, .sh, .no]) (zSet (i := 3) sc.nd rfl (by first | exact .inl rfl | exact .inr rfl) (cOfP (c2 op_mod md_s (cCallT call_int1 int_s (by rfl) (by exact T.z_int) PyProof.Rows.boot_int (aCons (c2 op_add' add_s (c2 op_mul' mul_s (cV 3 rfl (by decide) (pv 3)) cInt) (cV 4 rfl (by decide) (pv 4))) aNil)) cInt)) (by decide) rfl) (zOne (zIf (qCmp op_ge ge_s (cV 5 rfl (by decide) (pv 5)) (c2 op_pow pow_s cInt cInt) (nomark _)) (zOne (zFor (Γ := [.sh, .sh, (.ol .sh), .sh, .sh, .sh, .no]) (Γ1 := [.sh, .sh, (.ol .sh), .sh, .sh, .sh, .sh]) PassesOwn.never rfl (Pv.iRng1 (by rfl) (by exact T.z_range) (aCons cInt aNil)) (hName (i := 6) sc.nd rfl (by first | exact .inl rfl | exact .inr rfl) (by decide)) (zWkn (n' := [.sh, .sh, (.ol .sh), .sh, .sh, .sh, .sh]) (zOne (zIf (qCmp op_gt gt_s (cV 5 rfl (by decide) (pv 5)) cInt (nomark _)) (zCons (Γ1 := [.sh, .sh, (.ol .sh), .sh, .sh, .sh, .sh]) (zDrop (mApp 2 (pe_bm PySem.F.plainAttrs_list PySem.F.slot_list_append PySem.F.type_list_append mt_append (pv 2) (pa_cons (mOfP (c2 op_mod md_s (cCallT call_int1 int_s (by rfl) (by exact T.z_int) PyProof.Rows.boot_int (aCons (cV 5 rfl (by decide) (pv 5)) aNil)) cInt)) pa_nil)) rfl rfl)) (zOne (zSet (i := 5) sc.nd rfl (by first | exact .inl rfl | exact .inr rfl) (cOfP (c2 op_fdivW fd_s (cV 5 rfl (by decide) (pv 5)) cInt)) (by decide) rfl))) zNil)) rfl) rfl)) (zOne (zDrop (mApp 2 (pe_bm PySem.F.plainAttrs_list PySem.F.slot_list_append PySem.F.type_list_append mt_append (pv 2) (pa_cons (mOfP (pOfC (cCall (S := (S__law_mix)) (ok__law_mix T) (hr.mono (by decide)) (by rfl) (by exact T.m__law_mix) (by exact T.k__law_mix) (by exact T.b__law_mix) (aCons (cCallT call_int1 int_s (by rfl) (by exact T.z_int) PyProof.Rows.boot_int (aCons (cV 4 rfl (by decide) (pv 4)) aNil)) (aCons (cCallB call_len' (len_s rfl) (by rfl) (by exact T.z_len) PySem.boot_len (aCons (cV 2 rfl (by decide) (pv 2)) aNil)) aNil)) rfl rfl))) pa_nil)) rfl rfl))))))) rfl) rfl) (zCons (Γ1 := [.sh, .sh, (.ol .sh), .sh, .no, .no, .no]) (zFor (Γ := [.sh, .sh, (.ol .sh), .sh, .no, .no, .no]) (Γ1 := [.sh, .sh, (.ol .sh), .sh, .no, .no, .sh]) PassesOwn.never rfl (Pv.iRng1 (by rfl) (by exact T.z_range) (aCons (cV 1 rfl (by decide) (pv 1)) aNil)) (hName (i := 6) sc.nd rfl (by first | exact .inl rfl | exact .inr rfl) (by decide)) (zWkn (n' := [.sh, .sh, (.ol .sh), .sh, .no, .no, .sh]) (zOne (zDrop (mApp 2 (pe_bm PySem.F.plainAttrs_list PySem.F.slot_list_append PySem.F.type_list_append mt_append (pv 2) (pa_cons (mOfP (pOfC (cCall (S := (S__law_mix)) (ok__law_mix T) (hr.mono (by decide)) (by rfl) (by exact T.m__law_mix) (by exact T.k__law_mix) (by exact T.b__law_mix) (aCons (cV 3 rfl (by decide) (pv 3)) (aCons (c2 op_add' add_s cInt (cV 6 rfl (by decide) (pv 6))) aNil)) rfl rfl))) pa_nil)) rfl rfl))) rfl) rfl) (zFrz (Γ := [.sh, .sh, (.ol .sh), .sh, .no, .no, .no]) 2 rfl rfl (zOne (zRet (cLstRev rfl (by rfl) (by exact T.z_list) (by rfl) (by exact T.z_reversed) rfl (cV 2 rfl (by decide) (pv 2))) rfl))))))))
theorem sc__law_dealt : FnScope ["_law_cells_here", "_law_things", "_law_rest", "_law_out", "_law_k"] ["_law_cells_here", "_law_things"] (defScope st__law_dealt) := ⟨rfl, rfl, rfl, by decide +kernel, rfl, by decide +kernel, by decide +kernel⟩
theorem ok__law_dealt (T : Tx K mg) : FnOk P w K mg base CX0 2 T.a__law_dealt T.d__law_dealt ["_law_cells_here", "_law_things"] (spF K S__law_dealt) :=
  fn_val (nl := 3) (fo := false) T.f__law_dealt sc__law_dealt rfl rfl rfl rfl (fun h => nomatch h) (fun cdv A outer s H E hr => show PSs _ _ (tS _ [(.ol .sh), .sh, .no, .no, .no] ⟨[(.ol .sh), .no, .no, .no, .no], [], [], [(.ol .sh), .no, .no, .no, .no], (.ol .sh)⟩ _) from
    have sc := sc__law_dealt
    (zCons (Γ1 := [(.ol .sh), .sh, (.ol .sh), .no, .no]) (zSet (i := 2) sc.nd rfl (by first | exact .inl rfl | exact .inr rfl) (cListC (by rfl) (by exact T.z_list) rfl (aCons (cV 1 rfl (by decide) (pv 1)) aNil)) (by decide) rfl) (zCons (Γ1 := [(.ol .sh), .sh, (.ol .sh), (.ol .sh), .no]) (zSet (i := 3) sc.nd rfl (by first | exact .inl rfl | exact .inr rfl) (cNew (t := .sh)) (by decide) rfl) (zCons (Γ1 := [(.ol .sh), .sh, (.ol .sh), (.ol .sh), .no]) (zFor (Γ := [(.ol .sh), .sh, (.ol .sh), (.ol .sh), .no]) (Γ1 := [(.ol .sh), .sh, (.ol .sh), (.ol .sh), .sh]) PassesOwn.never rfl (Pv.iRng1 (by rfl) (by exact T.z_range) (aCons (cCallB call_len' (len_s rfl) (by rfl) (by exact T.z_len) PySem.boot_len (aCons (cV 1 rfl (by decide) (pv 1)) aNil)) aNil)) (hName (i := 4) sc.nd rfl (by first | exact .inl rfl | exact .inr rfl) (by decide)) (zWkn (n' := [(.ol .sh), .sh, (.ol .sh), (.ol .sh), .sh]) (zOne (zDrop (mApp 3 (pe_bm PySem.F.plainAttrs_list PySem.F.slot_list_append PySem.F.type_list_append mt_append (pv 3) (pa_cons (mPopAt 2 (pe_bm PySem.F.plainAttrs_list PySem.F.slot_list_pop PySem.F.type_list_pop mt_popAt (pv 2) (pa_cons (mCall (S := (S__law_pick)) (ok__law_pick T) (hr.mono (by decide)) (by rfl) (by exact T.m__law_pick) (by exact T.k__law_pick) (by exact T.b__law_pick) (aMIo 0 rfl (by decide) (pv 0) (aMCons (mOfP (cCallB call_len' (len_s rfl) (by rfl) (by exact T.z_len) PySem.boot_len (aCons (cV 2 rfl (by decide) (pv 2)) aNil))) aMNil))) pa_nil)) rfl rfl) pa_nil)) rfl rfl))) rfl) rfl) (zOne (zRetM (mMov 3 rfl (by decide) (pv 3)) rfl))))))
theorem sc__law_lot : FnScope ["_law_cells_here", "_law_pile", "_law_size", "_law_w", "_law_grown_here"] ["_law_cells_here", "_law_pile"] (defScope st__law_lot) := ⟨rfl, rfl, rfl, by decide +kernel, rfl, by decide +kernel, by decide +kernel⟩
theorem ok__law_lot (T : Tx K mg) : FnOk P w K mg base CX0 2 T.a__law_lot T.d__law_lot ["_law_cells_here", "_law_pile"] (spF K S__law_lot) :=
  fn_val (nl := 3) (fo := false) T.f__law_lot sc__law_lot rfl rfl rfl rfl (fun h => nomatch h) (fun cdv A outer s H E hr => show PSs _ _ (tS _ [(.ol .sh), .sh, .no, .no, .no] ⟨[(.ol .sh), .no, .no, .no, .no], [], [], [(.ol .sh), .no, .no, .no, .no], .sh⟩ _) from
    have sc := sc__law_lot
    (zCons (Γ1 := [(.ol .sh), .sh, .sh, .no, .no]) (zSet (i := 2) sc.nd rfl (by first | exact .inl rfl | exact .inr rfl) (cOfP (cIx ix_sh (cV 1 rfl (by decide) (pv 1)) cInt (by intro _ _; rfl))) (by decide) rfl) (zCons (Γ1 := [(.ol .sh), .sh, .sh, .no, .no]) (zIfM (qCmpM (op_eqD hr.units) (eq_s rfl rfl) (mCall (S := (S__law_pick)) (ok__law_pick T) (hr.mono (by decide)) (by rfl) (by exact T.m__law_pick) (by exact T.k__law_pick) (by exact T.b__law_pick) (aMIo 0 rfl (by decide) (pv 0) (aMCons (mOfP cInt) aMNil))) (mOfP cInt) (nomark _)) (zOne (zRetM (mCallT call_tuple_of (tup_s rfl) rfl (by rfl) (by exact T.z_tuple) PyProof.Rows.boot_tuple (aMCons (mFrz (mCmp0 (own := [("_law_w", 3)]) (Γ1 := [(.ol .sh), .sh, .sh, .sh, .no]) (Γ2 := [(.ol .sh), .sh, .sh, .sh, .no]) (Γ3 := [(.ol .sh), .sh, .sh, .sh, .no]) rfl sc.nd (iM (Pv.iRng1 (by rfl) (by exact T.z_range) (aCons (cV 2 rfl (by decide) (pv 2)) aNil))) (show BlkOk ["_law_cells_here", "_law_pile", "_law_size", "_law_w", "_law_grown_here"] (defScope st__law_lot) _ _ from ⟨rfl, by decide +kernel, by decide +kernel, by decide +kernel, by decide +kernel⟩) (fun _ _ _ _ _ => (hName (i := 3) sc.nd rfl (by first | exact .inl rfl | exact .inr rfl) (by decide))) (fun _ _ _ _ _ => (kOneM (qCmpM (op_eqD hr.units) (eq_s rfl rfl) (mCall (S := (S__law_pick)) (ok__law_pick T) (hr.mono (by decide)) (by rfl) (by exact T.m__law_pick) (by exact T.k__law_pick) (by exact T.b__law_pick) (aMIo 0 rfl (by decide) (pv 0) (aMCons (mOfP cInt) aMNil))) (mOfP cInt) (nomark _)))) (fun _ _ _ _ _ => (mOfP (cV 3 rfl (by decide) (pv 3)))) rfl rfl rfl)) aMNil)) rfl)) zNil) (zCons (Γ1 := [(.ol .sh), .sh, .sh, .no, .sh]) (zSetM (i := 4) sc.nd rfl (by first | exact .inl rfl | exact .inr rfl) (mCall (S := (S__law_grown)) (ok__law_grown T) (hr.mono (by decide)) (by rfl) (by exact T.m__law_grown) (by exact T.k__law_grown) (by exact T.b__law_grown) (aMCons (mOfP (cV 1 rfl (by decide) (pv 1))) (aMCons (mCall (S := (S__law_pick)) (ok__law_pick T) (hr.mono (by decide)) (by rfl) (by exact T.m__law_pick) (by exact T.k__law_pick) (by exact T.b__law_pick) (aMIo 0 rfl (by decide) (pv 0) (aMCons (mOfP (cV 2 rfl (by decide) (pv 2))) aMNil))) (aMCons (mOfP (cFrz (cLstRng rfl (by rfl) (by exact T.z_list) (by rfl) (by exact T.z_range) (cV 2 rfl (by decide) (pv 2))))) aMNil)))) (by decide) rfl) (zCons (Γ1 := [(.ol .sh), .sh, .sh, .no, .sh]) (zIfM (qCmpM (op_eqD hr.units) (eq_s rfl rfl) (mCall (S := (S__law_pick)) (ok__law_pick T) (hr.mono (by decide)) (by rfl) (by exact T.m__law_pick) (by exact T.k__law_pick) (by exact T.b__law_pick) (aMIo 0 rfl (by decide) (pv 0) (aMCons (mOfP cInt) aMNil))) (mOfP cInt) (nomark _)) (zOne (zRet (cOfP (cV 4 rfl (by decide) (pv 4))) rfl)) zNil) (zOne (zRetM (mCallT call_tuple_of (tup_s rfl) rfl (by rfl) (by exact T.z_tuple) PyProof.Rows.boot_tuple (aMCons (mFrz (mCmp0 (own := [("_law_w", 3)]) (Γ1 := [(.ol .sh), .sh, .sh, .sh, .sh]) (Γ2 := [(.ol .sh), .sh, .sh, .sh, .sh]) (Γ3 := [(.ol .sh), .sh, .sh, .sh, .sh]) rfl sc.nd (iM (iSeq (cV 4 rfl (by decide) (pv 4)))) (show BlkOk ["_law_cells_here", "_law_pile", "_law_size", "_law_w", "_law_grown_here"] (defScope st__law_lot) _ _ from ⟨rfl, by decide +kernel, by decide +kernel, by decide +kernel, by decide +kernel⟩) (fun _ _ _ _ _ => (hName (i := 3) sc.nd rfl (by first | exact .inl rfl | exact .inr rfl) (by decide))) (fun _ _ _ _ _ => (kOneM (qCmpM op_gt gt_s (mCall (S := (S__law_pick)) (ok__law_pick T) (hr.mono (by decide)) (by rfl) (by exact T.m__law_pick) (by exact T.k__law_pick) (by exact T.b__law_pick) (aMIo 0 rfl (by decide) (pv 0) (aMCons (mOfP cInt) aMNil))) (mOfP cInt) (nomark _)))) (fun _ _ _ _ _ => (mOfP (cV 3 rfl (by decide) (pv 3)))) rfl rfl rfl)) aMNil)) rfl)))))))
theorem sc_is_word : FnScope ["heap", "thing"] ["heap", "thing"] (defScope st_is_word) := ⟨rfl, rfl, rfl, by decide +kernel, rfl, by decide +kernel, by decide +kernel⟩
theorem ok_is_word (T : Tx K mg) : FnOk P w K mg base CX0 3 T.a_is_word T.d_is_word ["heap", "thing"] (spF K S_is_word) :=
  fn_val (nl := 0) (fo := false) T.f_is_word sc_is_word rfl rfl rfl rfl (fun h => nomatch h) (fun cdv A outer s H E hr => show PSs _ _ (tS _ [.sh, .sh] ⟨[.no, .no], [], [], [.no, .no], .sh⟩ _) from
    have sc := sc_is_word
    (zOne (zRet (cOfP (vAnd (pOfC (cCall (S := (S_is_number)) (ok_is_number T) (hr.mono (by decide)) (by rfl) (by exact T.m_is_number) (by exact T.k_is_number) (by exact T.b_is_number) (aCons (cV 1 rfl (by decide) (pv 1)) aNil) rfl rfl)) (vOne (cCmp op_lt lt_s (cV 1 rfl (by decide) (pv 1)) (cIx ix_sh (cV 0 rfl (by decide) (pv 0)) cInt (by intro _ _; rfl)) (nomark _))))) rfl)))
theorem sc__law_ring : FnScope ["_law_cells_here", "_law_size", "_law_extra", "_law_walk", "_law_k", "_law_w", "_law_leaves"] ["_law_cells_here", "_law_size", "_law_extra"] (defScope st__law_ring) := ⟨rfl, rfl, rfl, by decide +kernel, rfl, by decide +kernel, by decide +kernel⟩
theorem ok__law_ring (T : Tx K mg) : FnOk P w K mg base CX0 3 T.a__law_ring T.d__law_ring ["_law_cells_here", "_law_size", "_law_extra"] (spF K S__law_ring) :=
  fn_val (nl := 4) (fo := false) T.f__law_ring sc__law_ring rfl rfl rfl rfl (fun h => nomatch h) (fun cdv A outer s H E hr => show PSs _ _ (tS _ [(.ol .sh), .sh, .sh, .no, .no, .no, .no] ⟨[(.ol .sh), .no, .no, .no, .no, .no, .no], [], [], [(.ol .sh), .no, .no, .no, .no, .no, .no], (.ol .sh)⟩ _) from
    have sc := sc__law_ring
    (zCons (Γ1 := [(.ol .sh), .sh, .sh, (.ol .sh), .no, .no, .no]) (zSetM (i := 3) sc.nd rfl (by first | exact .inl rfl | exact .inr rfl) (mCmp0 (own := [("_law_k", 4)]) (Γ1 := [(.ol .sh), .sh, .sh, .no, .sh, .no, .no]) (Γ2 := [(.ol .sh), .sh, .sh, .no, .sh, .no, .no]) (Γ3 := [(.ol .sh), .sh, .sh, .no, .sh, .no, .no]) rfl sc.nd (iM (Pv.iRng1 (by rfl) (by exact T.z_range) (aCons (cV 2 rfl (by decide) (pv 2)) aNil))) (show BlkOk ["_law_cells_here", "_law_size", "_law_extra", "_law_walk", "_law_k", "_law_w", "_law_leaves"] (defScope st__law_ring) _ _ from ⟨rfl, by decide +kernel, by decide +kernel, by decide +kernel, by decide +kernel⟩) (fun _ _ _ _ _ => (hName (i := 4) sc.nd rfl (by first | exact .inl rfl | exact .inr rfl) (by decide))) (fun _ _ _ _ _ => kNilM) (fun _ _ _ _ _ => (mCall (S := (S__law_pick)) (ok__law_pick T) (hr.mono (by decide)) (by rfl) (by exact T.m__law_pick) (by exact T.k__law_pick) (by exact T.b__law_pick) (aMIo 0 rfl (by decide) (pv 0) (aMCons (mOfP (cV 1 rfl (by decide) (pv 1))) aMNil)))) rfl rfl rfl) (by decide) rfl) (zCons (Γ1 := [(.ol .sh), .sh, .sh, (.ol .sh), .no, .no, .no]) (zFor (Γ := [(.ol .sh), .sh, .sh, (.ol .sh), .no, .no, .no]) (Γ1 := [(.ol .sh), .sh, .sh, (.ol .sh), .no, .sh, .no]) PassesOwn.never rfl (Pv.iRng1 (by rfl) (by exact T.z_range) (aCons (cV 1 rfl (by decide) (pv 1)) aNil)) (hName (i := 5) sc.nd rfl (by first | exact .inl rfl | exact .inr rfl) (by decide)) (zWkn (n' := [(.ol .sh), .sh, .sh, (.ol .sh), .no, .sh, .no]) (zOne (zIf (qCmp op_notIn_seq (notin_s rfl) (cV 5 rfl (by decide) (pv 5)) (cV 3 rfl (by decide) (pv 3)) (by with_unfolding_all rfl)) (zOne (zDrop (mIns 3 (pe_bm PySem.F.plainAttrs_list PySem.F.slot_list_insert PySem.F.type_list_insert mt_ins (pv 3) (pa_cons (mCall (S := (S__law_pick)) (ok__law_pick T) (hr.mono (by decide)) (by rfl) (by exact T.m__law_pick) (by exact T.k__law_pick) (by exact T.b__law_pick) (aMIo 0 rfl (by decide) (pv 0) (aMCons (mOfP (c2 op_add' add_s (cCallB call_len' (len_s rfl) (by rfl) (by exact T.z_len) PySem.boot_len (aCons (cV 3 rfl (by decide) (pv 3)) aNil)) cInt)) aMNil))) (pa_cons (cV 5 rfl (by decide) (pv 5)) pa_nil))) rfl rfl))) zNil)) rfl) rfl) (zFrz (Γ := [(.ol .sh), .sh, .sh, (.ol .sh), .no, .no, .no]) 3 rfl rfl (zCons (Γ1 := [(.ol .sh), .sh, .sh, .sh, .no, .no, (.ol .sh)]) (zSetCmp (own := [("_law_k", 4)]) (Γ1 := [(.ol .sh), .sh, .sh, .sh, .sh, .no, .no]) (i := 6) rfl sc.nd rfl rfl rfl (Pv.iRng1 (by rfl) (by exact T.z_range) (aCons (cCallB call_len' (len_s rfl) (by rfl) (by exact T.z_len) PySem.boot_len (aCons (cV 3 rfl (by decide) (pv 3)) aNil)) aNil)) (show BlkOk ["_law_cells_here", "_law_size", "_law_extra", "_law_walk", "_law_k", "_law_w", "_law_leaves"] (defScope st__law_ring) _ _ from ⟨rfl, by decide +kernel, by decide +kernel, by decide +kernel, by decide +kernel⟩) (fun _ _ _ _ _ => (hName (i := 4) sc.nd rfl (by first | exact .inl rfl | exact .inr rfl) (by decide))) (fun _ _ _ _ _ => kNil) (fun _ _ _ _ _ => (cOfP (cTup (aCons (cIx ix_sh (cV 3 rfl (by decide) (pv 3)) (cV 4 rfl (by decide) (pv 4)) (by intro _ _; rfl)) (aCons (cIx ix_sh (cV 3 rfl (by decide) (pv 3)) (c2 op_mod md_s (cCallT call_int1 int_s (by rfl) (by exact T.z_int) PyProof.Rows.boot_int (aCons (c2 op_add' add_s (cV 4 rfl (by decide) (pv 4)) cInt) aNil)) (cCallB call_len' (len_s rfl) (by rfl) (by exact T.z_len) PySem.boot_len (aCons (cV 3 rfl (by decide) (pv 3)) aNil))) (by intro _ _; rfl)) aNil))))) rfl (by decide) rfl) (zFrz (Γ := [(.ol .sh), .sh, .sh, .sh, .no, .no, (.ol .sh)]) 6 rfl rfl (zOne (zRetM (mCall (S := (S__law_dealt)) (ok__law_dealt T) (hr.mono (by decide)) (by rfl) (by exact T.m__law_dealt) (by exact T.k__law_dealt) (by exact T.b__law_dealt) (aMIo 0 rfl (by decide) (pv 0) (aMCons (mOfP (cV 6 rfl (by decide) (pv 6))) aMNil))) rfl))))))))
theorem sc_is_lot : FnScope ["heap", "thing", "last", "part"] ["heap", "thing"] (defScope st_is_lot) := ⟨rfl, rfl, rfl, by decide +kernel, rfl, by decide +kernel, by decide +kernel⟩
theorem ok_is_lot (T : Tx K mg) : FnOk P w K mg base CX0 4 T.a_is_lot T.d_is_lot ["heap", "thing"] (spF K S_is_lot) :=
  fn_val (nl := 2) (fo := false) T.f_is_lot sc_is_lot rfl rfl rfl rfl (fun h => nomatch h) (fun cdv A outer s H E hr => show PSs _ _ (tS _ [.sh, .sh, .no, .no] ⟨[.no, .no, .no, .no], [], [], [.no, .no, .no, .no], .sh⟩ _) from
    have sc := sc_is_lot
    (zCons (Γ1 := [.sh, .sh, .no, .no]) (zIf (qNot (qVal (cIsi isi_tuple (by rfl) (by exact T.z_isinstance) (pe_bltn (by rfl) (by exact T.z_tuple) PyProof.Rows.boot_tuple rfl) (cV 1 rfl (by decide) (pv 1))))) (zOne (zRet (cOfP cBl) rfl)) zNil) (zCons (Γ1 := [.sh, .sh, .sh, .no]) (zSet (i := 2) sc.nd rfl (by first | exact .inl rfl | exact .inr rfl) (cOfP (cNeg cInt)) (by decide) rfl) (zCons (Γ1 := [.sh, .sh, .sh, .no]) (zFor (Γ := [.sh, .sh, .sh, .no]) (Γ1 := [.sh, .sh, .sh, .sh]) PassesOwn.never rfl (iSeq (cV 1 rfl (by decide) (pv 1))) (hName (i := 3) sc.nd rfl (by first | exact .inl rfl | exact .inr rfl) (by decide)) (zWkn (n' := [.sh, .sh, .sh, .sh]) (zCons (Γ1 := [.sh, .sh, .sh, .sh]) (zIf (qOr (qNot (qVal (pOfC (cCall (S := (S_is_word)) (ok_is_word T) (hr.mono (by decide)) (by rfl) (by exact T.m_is_word) (by exact T.k_is_word) (by exact T.b_is_word) (aCons (cV 0 rfl (by decide) (pv 0)) (aCons (cV 3 rfl (by decide) (pv 3)) aNil)) rfl rfl)))) (qOr1 (qCmp op_le le_s (cV 3 rfl (by decide) (pv 3)) (cV 2 rfl (by decide) (pv 2)) (nomark _)))).pt (zOne (zRet (cOfP cBl) rfl)) zNil) (zOne (zSet (i := 2) sc.nd rfl (by first | exact .inl rfl | exact .inr rfl) (cOfP (cV 3 rfl (by decide) (pv 3))) (by decide) rfl))) rfl) rfl) (zOne (zRet (cOfP cBl) rfl))))))
theorem sc_from_word : FnScope ["heap", "word", "leaf", "row"] ["heap", "word"] (defScope st_from_word) := ⟨rfl, rfl, rfl, by decide +kernel, rfl, by decide +kernel, by decide +kernel⟩
theorem ok_from_word (T : Tx K mg) : FnOk P w K mg base CX0 4 T.a_from_word T.d_from_word ["heap", "word"] (spF K S_from_word) :=
  fn_val (nl := 2) (fo := false) T.f_from_word sc_from_word rfl rfl rfl rfl (fun h => nomatch h) (fun cdv A outer s H E hr => show PSs _ _ (tS _ [.sh, .sh, .no, .no] ⟨[.no, .no, .no, .no], [], [], [.no, .no, .no, .no], .sh⟩ _) from
    have sc := sc_from_word
    (zCons (Γ1 := [.sh, .sh, .no, .no]) (zIf (qNot (qVal (pOfC (cCall (S := (S_is_word)) (ok_is_word T) (hr.mono (by decide)) (by rfl) (by exact T.m_is_word) (by exact T.k_is_word) (by exact T.b_is_word) (aCons (cV 0 rfl (by decide) (pv 0)) (aCons (cV 1 rfl (by decide) (pv 1)) aNil)) rfl rfl)))) (zOne zNever) zNil) (zOne (zRet (cOfP (cCallT call_tuple_of (tup_s rfl) (by rfl) (by exact T.z_tuple) PyProof.Rows.boot_tuple (aCons (cFrz (cCmp0 (own := [("leaf", 2), ("row", 3)]) (Γ1 := [.sh, .sh, .sh, .sh]) rfl sc.nd (Pv.iEnum (by rfl) (by exact T.z_enumerate) (aCons (cIx ix_sh (cV 0 rfl (by decide) (pv 0)) cInt (by intro _ _; rfl)) aNil)) (show BlkOk ["heap", "word", "leaf", "row"] (defScope st_from_word) _ _ from ⟨rfl, by decide +kernel, by decide +kernel, by decide +kernel, by decide +kernel⟩) (fun _ _ _ _ _ => (hTup rfl (hCons (hName (i := 2) sc.nd rfl (by first | exact .inl rfl | exact .inr rfl) (by decide)) (hCons (hName (i := 3) sc.nd rfl (by first | exact .inl rfl | exact .inr rfl) (by decide)) hNil)))) (fun _ _ _ _ _ => (kOne (qCmp (op_eqD hr.units) (eq_s rfl rfl) (cIx ix_sh (cV 3 rfl (by decide) (pv 3)) cInt (by intro _ _; rfl)) (cV 1 rfl (by decide) (pv 1)) (nomark _)))) (fun _ _ _ _ _ => (cOfP (cV 2 rfl (by decide) (pv 2)))) rfl)) aNil))) rfl))))
theorem sc_to_word : FnScope ["heap", "word", "leaf", "row"] ["heap", "word"] (defScope st_to_word) := ⟨rfl, rfl, rfl, by decide +kernel, rfl, by decide +kernel, by decide +kernel⟩
theorem ok_to_word (T : Tx K mg) : FnOk P w K mg base CX0 4 T.a_to_word T.d_to_word ["heap", "word"] (spF K S_to_word) :=
  fn_val (nl := 2) (fo := false) T.f_to_word sc_to_word rfl rfl rfl rfl (fun h => nomatch h) (fun cdv A outer s H E hr => show PSs _ _ (tS _ [.sh, .sh, .no, .no] ⟨[.no, .no, .no, .no], [], [], [.no, .no, .no, .no], .sh⟩ _) from
    have sc := sc_to_word
    (zCons (Γ1 := [.sh, .sh, .no, .no]) (zIf (qNot (qVal (pOfC (cCall (S := (S_is_word)) (ok_is_word T) (hr.mono (by decide)) (by rfl) (by exact T.m_is_word) (by exact T.k_is_word) (by exact T.b_is_word) (aCons (cV 0 rfl (by decide) (pv 0)) (aCons (cV 1 rfl (by decide) (pv 1)) aNil)) rfl rfl)))) (zOne zNever) zNil) (zOne (zRet (cOfP (cCallT call_tuple_of (tup_s rfl) (by rfl) (by exact T.z_tuple) PyProof.Rows.boot_tuple (aCons (cFrz (cCmp0 (own := [("leaf", 2), ("row", 3)]) (Γ1 := [.sh, .sh, .sh, .sh]) rfl sc.nd (Pv.iEnum (by rfl) (by exact T.z_enumerate) (aCons (cIx ix_sh (cV 0 rfl (by decide) (pv 0)) cInt (by intro _ _; rfl)) aNil)) (show BlkOk ["heap", "word", "leaf", "row"] (defScope st_to_word) _ _ from ⟨rfl, by decide +kernel, by decide +kernel, by decide +kernel, by decide +kernel⟩) (fun _ _ _ _ _ => (hTup rfl (hCons (hName (i := 2) sc.nd rfl (by first | exact .inl rfl | exact .inr rfl) (by decide)) (hCons (hName (i := 3) sc.nd rfl (by first | exact .inl rfl | exact .inr rfl) (by decide)) hNil)))) (fun _ _ _ _ _ => (kOne (qCmp (op_eqD hr.units) (eq_s rfl rfl) (cIx ix_sh (cV 3 rfl (by decide) (pv 3)) cInt (by intro _ _; rfl)) (cV 1 rfl (by decide) (pv 1)) (nomark _)))) (fun _ _ _ _ _ => (cOfP (cV 2 rfl (by decide) (pv 2)))) rfl)) aNil))) rfl))))
theorem sc__law_side_by_side : FnScope ["_law_cells_here", "_law_parts", "_law_size", "_law_leaves", "_law_k", "_law_here", "_law_pair", "_law_names"] ["_law_cells_here", "_law_parts"] (defScope st__law_side_by_side) := ⟨rfl, rfl, rfl, by decide +kernel, rfl, by decide +kernel, by decide +kernel⟩
theorem ok__law_side_by_side (T : Tx K mg) : FnOk P w K mg base CX0 4 T.a__law_side_by_side T.d__law_side_by_side ["_law_cells_here", "_law_parts"] (spF K S__law_side_by_side) :=
  fn_val (nl := 6) (fo := false) T.f__law_side_by_side sc__law_side_by_side rfl rfl rfl rfl (fun h => nomatch h) (fun cdv A outer s H E hr => show PSs _ _ (tS _ [(.ol .sh), .sh, .no, .no, .no, .no, .no, .no] ⟨[(.ol .sh), .no, .no, .no, .no, .no, .no, .no], [], [], [(.ol .sh), .no, .no, .no, .no, .no, .no, .no], (.pr .sh (.ol .sh))⟩ _) from
    have sc := sc__law_side_by_side
    (zCons (Γ1 := [(.ol .sh), .sh, .sh, .no, .no, .no, .no, .no]) (zSet (i := 2) sc.nd rfl (by first | exact .inl rfl | exact .inr rfl) (cOfP cInt) (by decide) rfl) (zCons (Γ1 := [(.ol .sh), .sh, .sh, (.ol .sh), .no, .no, .no, .no]) (zSet (i := 3) sc.nd rfl (by first | exact .inl rfl | exact .inr rfl) (cNew (t := .sh)) (by decide) rfl) (zCons (Γ1 := [(.ol .sh), .sh, .sh, (.ol .sh), .no, .no, .no, .no]) (zFor (Γ := [(.ol .sh), .sh, .sh, (.ol .sh), .no, .no, .no, .no]) (Γ1 := [(.ol .sh), .sh, .sh, (.ol .sh), .sh, .no, .no, .no]) PassesOwn.never rfl (Pv.iRng1 (by rfl) (by exact T.z_range) (aCons (cV 1 rfl (by decide) (pv 1)) aNil)) (hName (i := 4) sc.nd rfl (by first | exact .inl rfl | exact .inr rfl) (by decide)) (zWkn (n' := [(.ol .sh), .sh, .sh, (.ol .sh), .sh, .sh, .no, .no]) (zCons (Γ1 := [(.ol .sh), .sh, .sh, (.ol .sh), .sh, .sh, .no, .no]) (zSetM (i := 5) sc.nd rfl (by first | exact .inl rfl | exact .inr rfl) (m2 op_add' add_s (mOfP cInt) (mCall (S := (S__law_pick)) (ok__law_pick T) (hr.mono (by decide)) (by rfl) (by exact T.m__law_pick) (by exact T.k__law_pick) (by exact T.b__law_pick) (aMIo 0 rfl (by decide) (pv 0) (aMCons (mOfP cInt) aMNil)))) (by decide) rfl) (zCons (Γ1 := [(.ol .sh), .sh, .sh, (.ol .sh), .sh, .sh, .no, .no]) (zForM (Γ' := [(.ol .sh), .sh, .sh, (.ol .sh), .sh, .sh, .no, .no]) (Γ1 := [(.ol .sh), .sh, .sh, (.ol .sh), .sh, .sh, .sh, .no]) PassesOwn.never rfl (iSeqM (mFrz (mCall (S := (S__law_ring)) (ok__law_ring T) (hr.mono (by decide)) (by rfl) (by exact T.m__law_ring) (by exact T.k__law_ring) (by exact T.b__law_ring) (aMIoL 0 rfl rfl (by decide) (pv 0) (aMCons (mOfP (cV 5 rfl (by decide) (pv 5))) (aMCons (mCall (S := (S__law_pick)) (ok__law_pick T) (hr.mono (by decide)) (by rfl) (by exact T.m__law_pick) (by exact T.k__law_pick) (by exact T.b__law_pick) (aMIo 0 rfl (by decide) (pv 0) (aMCons (mOfP cInt) aMNil))) aMNil)))))) (hName (i := 6) sc.nd rfl (by first | exact .inl rfl | exact .inr rfl) (by decide)) (zWkn (n' := [(.ol .sh), .sh, .sh, (.ol .sh), .sh, .sh, .sh, .no]) (zOne (zDrop (mApp 3 (pe_bm PySem.F.plainAttrs_list PySem.F.slot_list_append PySem.F.type_list_append mt_append (pv 3) (pa_cons (mOfP (cTup (aCons (c2 op_add' add_s (cIx ix_sh (cV 6 rfl (by decide) (pv 6)) cInt (by intro _ _; rfl)) (cV 2 rfl (by decide) (pv 2))) (aCons (c2 op_add' add_s (cIx ix_sh (cV 6 rfl (by decide) (pv 6)) cInt (by intro _ _; rfl)) (cV 2 rfl (by decide) (pv 2))) aNil)))) pa_nil)) rfl rfl))) rfl) rfl) (zOne (zSet (i := 2) sc.nd rfl (by first | exact .inl rfl | exact .inr rfl) (cOfP (c2 op_add' add_s (cV 2 rfl (by decide) (pv 2)) (cV 5 rfl (by decide) (pv 5)))) (by decide) rfl)))) rfl) rfl) (zFrz (Γ := [(.ol .sh), .sh, .sh, (.ol .sh), .no, .no, .no, .no]) 3 rfl rfl (zCons (Γ1 := [(.ol .sh), .sh, .sh, .sh, .no, .no, .no, (.ol .sh)]) (zSetM (i := 7) sc.nd rfl (by first | exact .inl rfl | exact .inr rfl) (mCall (S := (S__law_dealt)) (ok__law_dealt T) (hr.mono (by decide)) (by rfl) (by exact T.m__law_dealt) (by exact T.k__law_dealt) (by exact T.b__law_dealt) (aMIo 0 rfl (by decide) (pv 0) (aMCons (mOfP (cFrz (cLstRng rfl (by rfl) (by exact T.z_list) (by rfl) (by exact T.z_range) (cV 2 rfl (by decide) (pv 2))))) aMNil))) (by decide) rfl) (zFrz (Γ := [(.ol .sh), .sh, .sh, .sh, .no, .no, .no, (.ol .sh)]) 7 rfl rfl (zOne (zRetM (mPr (aMCons (mOfP (cV 2 rfl (by decide) (pv 2))) (aMCons (mCall (S := (S__law_dealt)) (ok__law_dealt T) (hr.mono (by decide)) (by rfl) (by exact T.m__law_dealt) (by exact T.k__law_dealt) (by exact T.b__law_dealt) (aMIo 0 rfl (by decide) (pv 0) (aMCons (mOfP (cFrz (cCmp0 (own := [("_law_pair", 6)]) (Γ1 := [.no, .sh, .sh, .sh, .no, .no, .sh, .sh]) rfl sc.nd (iSeq (cV 3 rfl (by decide) (pv 3))) (show BlkOk ["_law_cells_here", "_law_parts", "_law_size", "_law_leaves", "_law_k", "_law_here", "_law_pair", "_law_names"] (defScope st__law_side_by_side) _ _ from ⟨rfl, by decide +kernel, by decide +kernel, by decide +kernel, by decide +kernel⟩) (fun _ _ _ _ _ => (hName (i := 6) sc.nd rfl (by first | exact .inl rfl | exact .inr rfl) (by decide))) (fun _ _ _ _ _ => kNil) (fun _ _ _ _ _ => (cOfP (cTup (aCons (cIx ix_sh (cV 7 rfl (by decide) (pv 7)) (cIx ix_sh (cV 6 rfl (by decide) (pv 6)) cInt (by intro _ _; rfl)) (by intro _ _; rfl)) (aCons (cIx ix_sh (cV 7 rfl (by decide) (pv 7)) (cIx ix_sh (cV 6 rfl (by decide) (pv 6)) cInt (by intro _ _; rfl)) (by intro _ _; rfl)) aNil))))) rfl))) aMNil))) aMNil))) rfl)))))))))
theorem sc_within : FnScope ["heap", "lot", "leaf", "row"] ["heap", "lot"] (defScope st_within) := ⟨rfl, rfl, rfl, by decide +kernel, rfl, by decide +kernel, by decide +kernel⟩
theorem ok_within (T : Tx K mg) : FnOk P w K mg base CX0 5 T.a_within T.d_within ["heap", "lot"] (spF K S_within) :=
  fn_val (nl := 2) (fo := false) T.f_within sc_within rfl rfl rfl rfl (fun h => nomatch h) (fun cdv A outer s H E hr => show PSs _ _ (tS _ [.sh, .sh, .no, .no] ⟨[.no, .no, .no, .no], [], [], [.no, .no, .no, .no], .sh⟩ _) from
    have sc := sc_within
    (zCons (Γ1 := [.sh, .sh, .no, .no]) (zIf (qNot (qVal (pOfC (cCall (S := (S_is_lot)) (ok_is_lot T) (hr.mono (by decide)) (by rfl) (by exact T.m_is_lot) (by exact T.k_is_lot) (by exact T.b_is_lot) (aCons (cV 0 rfl (by decide) (pv 0)) (aCons (cV 1 rfl (by decide) (pv 1)) aNil)) rfl rfl)))) (zOne zNever) zNil) (zOne (zRet (cOfP (cCallT call_tuple_of (tup_s rfl) (by rfl) (by exact T.z_tuple) PyProof.Rows.boot_tuple (aCons (cFrz (cCmp0 (own := [("leaf", 2), ("row", 3)]) (Γ1 := [.sh, .sh, .sh, .sh]) rfl sc.nd (Pv.iEnum (by rfl) (by exact T.z_enumerate) (aCons (cIx ix_sh (cV 0 rfl (by decide) (pv 0)) cInt (by intro _ _; rfl)) aNil)) (show BlkOk ["heap", "lot", "leaf", "row"] (defScope st_within) _ _ from ⟨rfl, by decide +kernel, by decide +kernel, by decide +kernel, by decide +kernel⟩) (fun _ _ _ _ _ => (hTup rfl (hCons (hName (i := 2) sc.nd rfl (by first | exact .inl rfl | exact .inr rfl) (by decide)) (hCons (hName (i := 3) sc.nd rfl (by first | exact .inl rfl | exact .inr rfl) (by decide)) hNil)))) (fun _ _ _ _ _ => (kOne (qAnd (qCmp op_in_seq (in_s rfl) (cIx ix_sh (cV 3 rfl (by decide) (pv 3)) cInt (by intro _ _; rfl)) (cV 1 rfl (by decide) (pv 1)) (by with_unfolding_all rfl)) (qAnd1 (qCmp op_in_seq (in_s rfl) (cIx ix_sh (cV 3 rfl (by decide) (pv 3)) cInt (by intro _ _; rfl)) (cV 1 rfl (by decide) (pv 1)) (by with_unfolding_all rfl)))).pt)) (fun _ _ _ _ _ => (cOfP (cV 2 rfl (by decide) (pv 2)))) rfl)) aNil))) rfl))))
theorem sc_leaving : FnScope ["heap", "lot", "leaf", "row"] ["heap", "lot"] (defScope st_leaving) := ⟨rfl, rfl, rfl, by decide +kernel, rfl, by decide +kernel, by decide +kernel⟩
theorem ok_leaving (T : Tx K mg) : FnOk P w K mg base CX0 5 T.a_leaving T.d_leaving ["heap", "lot"] (spF K S_leaving) :=
  fn_val (nl := 2) (fo := false) T.f_leaving sc_leaving rfl rfl rfl rfl (fun h => nomatch h) (fun cdv A outer s H E hr => show PSs _ _ (tS _ [.sh, .sh, .no, .no] ⟨[.no, .no, .no, .no], [], [], [.no, .no, .no, .no], .sh⟩ _) from
    have sc := sc_leaving
    (zCons (Γ1 := [.sh, .sh, .no, .no]) (zIf (qNot (qVal (pOfC (cCall (S := (S_is_lot)) (ok_is_lot T) (hr.mono (by decide)) (by rfl) (by exact T.m_is_lot) (by exact T.k_is_lot) (by exact T.b_is_lot) (aCons (cV 0 rfl (by decide) (pv 0)) (aCons (cV 1 rfl (by decide) (pv 1)) aNil)) rfl rfl)))) (zOne zNever) zNil) (zOne (zRet (cOfP (cCallT call_tuple_of (tup_s rfl) (by rfl) (by exact T.z_tuple) PyProof.Rows.boot_tuple (aCons (cFrz (cCmp0 (own := [("leaf", 2), ("row", 3)]) (Γ1 := [.sh, .sh, .sh, .sh]) rfl sc.nd (Pv.iEnum (by rfl) (by exact T.z_enumerate) (aCons (cIx ix_sh (cV 0 rfl (by decide) (pv 0)) cInt (by intro _ _; rfl)) aNil)) (show BlkOk ["heap", "lot", "leaf", "row"] (defScope st_leaving) _ _ from ⟨rfl, by decide +kernel, by decide +kernel, by decide +kernel, by decide +kernel⟩) (fun _ _ _ _ _ => (hTup rfl (hCons (hName (i := 2) sc.nd rfl (by first | exact .inl rfl | exact .inr rfl) (by decide)) (hCons (hName (i := 3) sc.nd rfl (by first | exact .inl rfl | exact .inr rfl) (by decide)) hNil)))) (fun _ _ _ _ _ => (kOne (qAnd (qCmp op_in_seq (in_s rfl) (cIx ix_sh (cV 3 rfl (by decide) (pv 3)) cInt (by intro _ _; rfl)) (cV 1 rfl (by decide) (pv 1)) (by with_unfolding_all rfl)) (qAnd1 (qCmp op_notIn_seq (notin_s rfl) (cIx ix_sh (cV 3 rfl (by decide) (pv 3)) cInt (by intro _ _; rfl)) (cV 1 rfl (by decide) (pv 1)) (by with_unfolding_all rfl)))).pt)) (fun _ _ _ _ _ => (cOfP (cV 2 rfl (by decide) (pv 2)))) rfl)) aNil))) rfl))))
theorem sc_entering : FnScope ["heap", "lot", "leaf", "row"] ["heap", "lot"] (defScope st_entering) := ⟨rfl, rfl, rfl, by decide +kernel, rfl, by decide +kernel, by decide +kernel⟩
theorem ok_entering (T : Tx K mg) : FnOk P w K mg base CX0 5 T.a_entering T.d_entering ["heap", "lot"] (spF K S_entering) :=
  fn_val (nl := 2) (fo := false) T.f_entering sc_entering rfl rfl rfl rfl (fun h => nomatch h) (fun cdv A outer s H E hr => show PSs _ _ (tS _ [.sh, .sh, .no, .no] ⟨[.no, .no, .no, .no], [], [], [.no, .no, .no, .no], .sh⟩ _) from
    have sc := sc_entering
    (zCons (Γ1 := [.sh, .sh, .no, .no]) (zIf (qNot (qVal (pOfC (cCall (S := (S_is_lot)) (ok_is_lot T) (hr.mono (by decide)) (by rfl) (by exact T.m_is_lot) (by exact T.k_is_lot) (by exact T.b_is_lot) (aCons (cV 0 rfl (by decide) (pv 0)) (aCons (cV 1 rfl (by decide) (pv 1)) aNil)) rfl rfl)))) (zOne zNever) zNil) (zOne (zRet (cOfP (cCallT call_tuple_of (tup_s rfl) (by rfl) (by exact T.z_tuple) PyProof.Rows.boot_tuple (aCons (cFrz (cCmp0 (own := [("leaf", 2), ("row", 3)]) (Γ1 := [.sh, .sh, .sh, .sh]) rfl sc.nd (Pv.iEnum (by rfl) (by exact T.z_enumerate) (aCons (cIx ix_sh (cV 0 rfl (by decide) (pv 0)) cInt (by intro _ _; rfl)) aNil)) (show BlkOk ["heap", "lot", "leaf", "row"] (defScope st_entering) _ _ from ⟨rfl, by decide +kernel, by decide +kernel, by decide +kernel, by decide +kernel⟩) (fun _ _ _ _ _ => (hTup rfl (hCons (hName (i := 2) sc.nd rfl (by first | exact .inl rfl | exact .inr rfl) (by decide)) (hCons (hName (i := 3) sc.nd rfl (by first | exact .inl rfl | exact .inr rfl) (by decide)) hNil)))) (fun _ _ _ _ _ => (kOne (qAnd (qCmp op_in_seq (in_s rfl) (cIx ix_sh (cV 3 rfl (by decide) (pv 3)) cInt (by intro _ _; rfl)) (cV 1 rfl (by decide) (pv 1)) (by with_unfolding_all rfl)) (qAnd1 (qCmp op_notIn_seq (notin_s rfl) (cIx ix_sh (cV 3 rfl (by decide) (pv 3)) cInt (by intro _ _; rfl)) (cV 1 rfl (by decide) (pv 1)) (by with_unfolding_all rfl)))).pt)) (fun _ _ _ _ _ => (cOfP (cV 2 rfl (by decide) (pv 2)))) rfl)) aNil))) rfl))))
theorem sc_fan_of : FnScope ["heap", "word"] ["heap", "word"] (defScope st_fan_of) := ⟨rfl, rfl, rfl, by decide +kernel, rfl, by decide +kernel, by decide +kernel⟩
theorem ok_fan_of (T : Tx K mg) : FnOk P w K mg base CX0 5 T.a_fan_of T.d_fan_of ["heap", "word"] (spF K S_fan_of) :=
  fn_val (nl := 0) (fo := false) T.f_fan_of sc_fan_of rfl rfl rfl rfl (fun h => nomatch h) (fun cdv A outer s H E hr => show PSs _ _ (tS _ [.sh, .sh] ⟨[.no, .no], [], [], [.no, .no], .sh⟩ _) from
    have sc := sc_fan_of
    (zOne (zRet (cOfP (cCallB call_len' (len_s rfl) (by rfl) (by exact T.z_len) PySem.boot_len (aCons (pOfC (cCall (S := (S_from_word)) (ok_from_word T) (hr.mono (by decide)) (by rfl) (by exact T.m_from_word) (by exact T.k_from_word) (by exact T.b_from_word) (aCons (cV 0 rfl (by decide) (pv 0)) (aCons (cV 1 rfl (by decide) (pv 1)) aNil)) rfl rfl)) aNil))) rfl)))
theorem sc_ends_of : FnScope ["heap", "word"] ["heap", "word"] (defScope st_ends_of) := ⟨rfl, rfl, rfl, by decide +kernel, rfl, by decide +kernel, by decide +kernel⟩
theorem ok_ends_of (T : Tx K mg) : FnOk P w K mg base CX0 5 T.a_ends_of T.d_ends_of ["heap", "word"] (spF K S_ends_of) :=
  fn_val (nl := 0) (fo := false) T.f_ends_of sc_ends_of rfl rfl rfl rfl (fun h => nomatch h) (fun cdv A outer s H E hr => show PSs _ _ (tS _ [.sh, .sh] ⟨[.no, .no], [], [], [.no, .no], .sh⟩ _) from
    have sc := sc_ends_of
    (zOne (zRet (cOfP (cCallB call_len' (len_s rfl) (by rfl) (by exact T.z_len) PySem.boot_len (aCons (pOfC (cCall (S := (S_to_word)) (ok_to_word T) (hr.mono (by decide)) (by rfl) (by exact T.m_to_word) (by exact T.k_to_word) (by exact T.b_to_word) (aCons (cV 0 rfl (by decide) (pv 0)) (aCons (cV 1 rfl (by decide) (pv 1)) aNil)) rfl rfl)) aNil))) rfl)))
theorem sc__law_heap : FnScope ["_law_cells_here", "_law_kind", "_law_size", "_law_leaves", "_law_k"] ["_law_cells_here", "_law_kind"] (defScope st__law_heap) := ⟨rfl, rfl, rfl, by decide +kernel, rfl, by decide +kernel, by decide +kernel⟩
theorem ok__law_heap (T : Tx K mg) : FnOk P w K mg base CX0 5 T.a__law_heap T.d__law_heap ["_law_cells_here", "_law_kind"] (spF K S__law_heap) :=
  fn_val (nl := 3) (fo := false) T.f__law_heap sc__law_heap rfl rfl rfl rfl (fun h => nomatch h) (fun cdv A outer s H E hr => show PSs _ _ (tS _ [(.ol .sh), .sh, .no, .no, .no] ⟨[(.ol .sh), .no, .no, .no, .no], [], [], [(.ol .sh), .no, .no, .no, .no], .sh⟩ _) from
    have sc := sc__law_heap
    (zCons (Γ1 := [(.ol .sh), .sh, .sh, .no, .no]) (zSetM (i := 2) sc.nd rfl (by first | exact .inl rfl | exact .inr rfl) (m2 op_add' add_s (mOfP cInt) (mCall (S := (S__law_pick)) (ok__law_pick T) (hr.mono (by decide)) (by rfl) (by exact T.m__law_pick) (by exact T.k__law_pick) (by exact T.b__law_pick) (aMIo 0 rfl (by decide) (pv 0) (aMCons (mOfP cInt) aMNil)))) (by decide) rfl) (zCons (Γ1 := [(.ol .sh), .sh, .sh, .no, .no]) (zIfM (qCmpM (op_eqD hr.units) (eq_s rfl rfl) (mCall (S := (S__law_pick)) (ok__law_pick T) (hr.mono (by decide)) (by rfl) (by exact T.m__law_pick) (by exact T.k__law_pick) (by exact T.b__law_pick) (aMIo 0 rfl (by decide) (pv 0) (aMCons (mOfP cInt) aMNil))) (mOfP cInt) (nomark _)) (zOne (zSetM (i := 2) sc.nd rfl (by first | exact .inl rfl | exact .inr rfl) (m2 op_add' add_s (mOfP cInt) (mCall (S := (S__law_pick)) (ok__law_pick T) (hr.mono (by decide)) (by rfl) (by exact T.m__law_pick) (by exact T.k__law_pick) (by exact T.b__law_pick) (aMIo 0 rfl (by decide) (pv 0) (aMCons (mOfP cInt) aMNil)))) (by decide) rfl)) zNil) (zCons (Γ1 := [(.ol .sh), .sh, .sh, (.ol .sh), .no]) (zIf (qCmp (op_eqD hr.units) (eq_s rfl rfl) (cV 1 rfl (by decide) (pv 1)) cInt (nomark _)) (zOne (zSetCmpM (own := [("_law_k", 4)]) (Γ1 := [(.ol .sh), .sh, .sh, .no, .sh]) (Γ2 := [(.ol .sh), .sh, .sh, .no, .sh]) (Γ3 := [(.ol .sh), .sh, .sh, .no, .sh]) (i := 3) rfl sc.nd rfl rfl rfl (Pv.iRng1M (by rfl) (by exact T.z_range) (aMCons (mCall (S := (S__law_pick)) (ok__law_pick T) (hr.mono (by decide)) (by rfl) (by exact T.m__law_pick) (by exact T.k__law_pick) (by exact T.b__law_pick) (aMIo 0 rfl (by decide) (pv 0) (aMCons (mOfP (c2 op_add' add_s (cV 2 rfl (by decide) (pv 2)) cInt)) aMNil))) aMNil)) (show BlkOk ["_law_cells_here", "_law_kind", "_law_size", "_law_leaves", "_law_k"] (defScope st__law_heap) _ _ from ⟨rfl, by decide +kernel, by decide +kernel, by decide +kernel, by decide +kernel⟩) (fun _ _ _ _ _ => (hName (i := 4) sc.nd rfl (by first | exact .inl rfl | exact .inr rfl) (by decide))) (fun _ _ _ _ _ => kNilM) (fun _ _ _ _ _ => (mTup (aMCons (mCall (S := (S__law_pick)) (ok__law_pick T) (hr.mono (by decide)) (by rfl) (by exact T.m__law_pick) (by exact T.k__law_pick) (by exact T.b__law_pick) (aMIo 0 rfl (by decide) (pv 0) (aMCons (mOfP (cV 2 rfl (by decide) (pv 2))) aMNil))) (aMCons (mCall (S := (S__law_pick)) (ok__law_pick T) (hr.mono (by decide)) (by rfl) (by exact T.m__law_pick) (by exact T.k__law_pick) (by exact T.b__law_pick) (aMIo 0 rfl (by decide) (pv 0) (aMCons (mOfP (cV 2 rfl (by decide) (pv 2))) aMNil))) aMNil)))) rfl rfl rfl (by decide) rfl)) (zOne (zIf (qCmp (op_eqD hr.units) (eq_s rfl rfl) (cV 1 rfl (by decide) (pv 1)) cInt (nomark _)) (zOne (zSetM (i := 3) sc.nd rfl (by first | exact .inl rfl | exact .inr rfl) (mCall (S := (S__law_ring)) (ok__law_ring T) (hr.mono (by decide)) (by rfl) (by exact T.m__law_ring) (by exact T.k__law_ring) (by exact T.b__law_ring) (aMIoL 0 rfl rfl (by decide) (pv 0) (aMCons (mOfP (cV 2 rfl (by decide) (pv 2))) (aMCons (mCall (S := (S__law_pick)) (ok__law_pick T) (hr.mono (by decide)) (by rfl) (by exact T.m__law_pick) (by exact T.k__law_pick) (by exact T.b__law_pick) (aMIo 0 rfl (by decide) (pv 0) (aMCons (mOfP cInt) aMNil))) aMNil)))) (by decide) rfl)) (zOne (zUnpPr (i := 2) (j := 3) rfl sc.nd rfl rfl (by first | exact .inl rfl | exact .inr rfl) (by first | exact .inl rfl | exact .inr rfl) (mCall (S := (S__law_side_by_side)) (ok__law_side_by_side T) (hr.mono (by decide)) (by rfl) (by exact T.m__law_side_by_side) (by exact T.k__law_side_by_side) (by exact T.b__law_side_by_side) (aMIoL 0 rfl rfl (by decide) (pv 0) (aMCons (m2 op_add' add_s (mOfP cInt) (mCall (S := (S__law_pick)) (ok__law_pick T) (hr.mono (by decide)) (by rfl) (by exact T.m__law_pick) (by exact T.k__law_pick) (by exact T.b__law_pick) (aMIo 0 rfl (by decide) (pv 0) (aMCons (mOfP cInt) aMNil)))) aMNil))) (by decide) (by decide) rfl))))) (zCons (Γ1 := [(.ol .sh), .sh, .sh, (.ol .sh), .no]) (zIfM (qAndM (bMOfP (qCmp op_gt gt_s (cCallB call_len' (len_s rfl) (by rfl) (by exact T.z_len) PySem.boot_len (aCons (cV 3 rfl (by decide) (pv 3)) aNil)) cInt (nomark _))) (qAnd1M (qCmpM (op_eqD hr.units) (eq_s rfl rfl) (mCall (S := (S__law_pick)) (ok__law_pick T) (hr.mono (by decide)) (by rfl) (by exact T.m__law_pick) (by exact T.k__law_pick) (by exact T.b__law_pick) (aMIo 0 rfl (by decide) (pv 0) (aMCons (mOfP cInt) aMNil))) (mOfP cInt) (nomark _)))).pt (zOne (zDrop (mPopAt 3 (pe_bm PySem.F.plainAttrs_list PySem.F.slot_list_pop PySem.F.type_list_pop mt_popAt (pv 3) (pa_cons (mCall (S := (S__law_pick)) (ok__law_pick T) (hr.mono (by decide)) (by rfl) (by exact T.m__law_pick) (by exact T.k__law_pick) (by exact T.b__law_pick) (aMIo 0 rfl (by decide) (pv 0) (aMCons (mOfP (cCallB call_len' (len_s rfl) (by rfl) (by exact T.z_len) PySem.boot_len (aCons (cV 3 rfl (by decide) (pv 3)) aNil))) aMNil))) pa_nil)) rfl rfl))) zNil) (zFrz (Γ := [(.ol .sh), .sh, .sh, (.ol .sh), .no]) 3 rfl rfl (zOne (zRet (cOfP (cTup (aCons (cV 2 rfl (by decide) (pv 2)) (aCons (cCallT call_tuple_of (tup_s rfl) (by rfl) (by exact T.z_tuple) PyProof.Rows.boot_tuple (aCons (cV 3 rfl (by decide) (pv 3)) aNil)) aNil)))) rfl))))))))
theorem sc_gates_of : FnScope ["heap", "lot"] ["heap", "lot"] (defScope st_gates_of) := ⟨rfl, rfl, rfl, by decide +kernel, rfl, by decide +kernel, by decide +kernel⟩
theorem ok_gates_of (T : Tx K mg) : FnOk P w K mg base CX0 6 T.a_gates_of T.d_gates_of ["heap", "lot"] (spF K S_gates_of) :=
  fn_val (nl := 0) (fo := false) T.f_gates_of sc_gates_of rfl rfl rfl rfl (fun h => nomatch h) (fun cdv A outer s H E hr => show PSs _ _ (tS _ [.sh, .sh] ⟨[.no, .no], [], [], [.no, .no], .sh⟩ _) from
    have sc := sc_gates_of
    (zOne (zRet (cOfP (cCallB call_len' (len_s rfl) (by rfl) (by exact T.z_len) PySem.boot_len (aCons (pOfC (cCall (S := (S_leaving)) (ok_leaving T) (hr.mono (by decide)) (by rfl) (by exact T.m_leaving) (by exact T.k_leaving) (by exact T.b_leaving) (aCons (cV 0 rfl (by decide) (pv 0)) (aCons (cV 1 rfl (by decide) (pv 1)) aNil)) rfl rfl)) aNil))) rfl)))
theorem sc_hangs_together : FnScope ["heap", "lot", "inner", "leaf"] ["heap", "lot"] (defScope st_hangs_together) := ⟨rfl, rfl, rfl, by decide +kernel, rfl, by decide +kernel, by decide +kernel⟩
theorem ok_hangs_together (T : Tx K mg) : FnOk P w K mg base CX0 6 T.a_hangs_together T.d_hangs_together ["heap", "lot"] (spF K S_hangs_together) :=
  fn_val (nl := 2) (fo := false) T.f_hangs_together sc_hangs_together rfl rfl rfl rfl (fun h => nomatch h) (fun cdv A outer s H E hr => show PSs _ _ (tS _ [.sh, .sh, .no, .no] ⟨[.no, .no, .no, .no], [], [], [.no, .no, .no, .no], .sh⟩ _) from
    have sc := sc_hangs_together
    (zCons (Γ1 := [.sh, .sh, (.ol .sh), .no]) (zSetCmp (own := [("leaf", 3)]) (Γ1 := [.sh, .sh, .no, .sh]) (i := 2) rfl sc.nd rfl rfl rfl (iSeq (pOfC (cCall (S := (S_within)) (ok_within T) (hr.mono (by decide)) (by rfl) (by exact T.m_within) (by exact T.k_within) (by exact T.b_within) (aCons (cV 0 rfl (by decide) (pv 0)) (aCons (cV 1 rfl (by decide) (pv 1)) aNil)) rfl rfl))) (show BlkOk ["heap", "lot", "inner", "leaf"] (defScope st_hangs_together) _ _ from ⟨rfl, by decide +kernel, by decide +kernel, by decide +kernel, by decide +kernel⟩) (fun _ _ _ _ _ => (hName (i := 3) sc.nd rfl (by first | exact .inl rfl | exact .inr rfl) (by decide))) (fun _ _ _ _ _ => kNil) (fun _ _ _ _ _ => (cOfP (cIx ix_sh (cIx ix_sh (cV 0 rfl (by decide) (pv 0)) cInt (by intro _ _; rfl)) (cV 3 rfl (by decide) (pv 3)) (by intro _ _; rfl)))) rfl (by decide) rfl) (zFrz (Γ := [.sh, .sh, (.ol .sh), .no]) 2 rfl rfl (zCons (Γ1 := [.sh, .sh, .sh, .no]) (zIf (qCmp (op_eqD hr.units) (eq_s rfl rfl) (cCallB call_len' (len_s rfl) (by rfl) (by exact T.z_len) PySem.boot_len (aCons (cV 1 rfl (by decide) (pv 1)) aNil)) cInt (nomark _)) (zOne (zRet (cOfP cBl) rfl)) zNil) (zOne (zRet (cOfP (cCmp (op_eqD hr.units) (eq_s rfl rfl) (pOfC (cCall (S := (S_piece_by)) (ok_piece_by T) (hr.mono (by decide)) (by rfl) (by exact T.m_piece_by) (by exact T.k_piece_by) (by exact T.b_piece_by) (aCons (pOfC (cCall (S := (S_word_bonds)) (ok_word_bonds T) (hr.mono (by decide)) (by rfl) (by exact T.m_word_bonds) (by exact T.k_word_bonds) (by exact T.b_word_bonds) (aCons (cV 2 rfl (by decide) (pv 2)) aNil) rfl rfl)) (aCons (cIx ix_sh (cV 1 rfl (by decide) (pv 1)) cInt (by intro _ _; rfl)) aNil)) rfl rfl)) (cV 1 rfl (by decide) (pv 1)) (nomark _))) rfl))))))
theorem sc_surplus_of : FnScope ["heap", "word"] ["heap", "word"] (defScope st_surplus_of) := ⟨rfl, rfl, rfl, by decide +kernel, rfl, by decide +kernel, by decide +kernel⟩
theorem ok_surplus_of (T : Tx K mg) : FnOk P w K mg base CX0 6 T.a_surplus_of T.d_surplus_of ["heap", "word"] (spF K S_surplus_of) :=
  fn_val (nl := 0) (fo := false) T.f_surplus_of sc_surplus_of rfl rfl rfl rfl (fun h => nomatch h) (fun cdv A outer s H E hr => show PSs _ _ (tS _ [.sh, .sh] ⟨[.no, .no], [], [], [.no, .no], .sh⟩ _) from
    have sc := sc_surplus_of
    (zOne (zRet (cOfP (c2 op_sub sub_s (pOfC (cCall (S := (S_ends_of)) (ok_ends_of T) (hr.mono (by decide)) (by rfl) (by exact T.m_ends_of) (by exact T.k_ends_of) (by exact T.b_ends_of) (aCons (cV 0 rfl (by decide) (pv 0)) (aCons (cV 1 rfl (by decide) (pv 1)) aNil)) rfl rfl)) (pOfC (cCall (S := (S_fan_of)) (ok_fan_of T) (hr.mono (by decide)) (by rfl) (by exact T.m_fan_of) (by exact T.k_fan_of) (by exact T.b_fan_of) (aCons (cV 0 rfl (by decide) (pv 0)) (aCons (cV 1 rfl (by decide) (pv 1)) aNil)) rfl rfl)))) rfl)))
theorem sc__law_same : FnScope ["_law_told", "_law_due", "_law_k"] ["_law_told", "_law_due"] (defScope st__law_same) := ⟨rfl, rfl, rfl, by decide +kernel, rfl, by decide +kernel, by decide +kernel⟩
theorem ok__law_same (T : Tx K mg) : ∀ k : Nat, FnOk P w K mg base CX0 k T.a__law_same T.d__law_same ["_law_told", "_law_due"] (spF K (S__law_same k))
  | 0 => fn_zero rfl
  | k + 1 => have ih := ok__law_same T k
    fn_val (nl := 1) (fo := false) T.f__law_same sc__law_same rfl rfl rfl rfl (fun h => nomatch h) (fun cdv A outer s H E hr => show PSs _ _ (tS _ [.sh, .sh, .no] ⟨[.no, .no, .no], [], [], [.no, .no, .no], .sh⟩ _) from
    have sc := sc__law_same
    (zCons (Γ1 := [.sh, .sh, .no]) (zIf (qVal (cIsi isi_tuple (by rfl) (by exact T.z_isinstance) (pe_bltn (by rfl) (by exact T.z_tuple) PyProof.Rows.boot_tuple rfl) (cV 1 rfl (by decide) (pv 1)))) (zCons (Γ1 := [.sh, .sh, .no]) (zIf (qOr (qNot (qVal (cIsi isi_tuple (by rfl) (by exact T.z_isinstance) (pe_bltn (by rfl) (by exact T.z_tuple) PyProof.Rows.boot_tuple rfl) (cV 0 rfl (by decide) (pv 0))))) (qOr1 (qCmp (op_neD hr.units) (ne_s rfl rfl) (cCallB call_len' (len_s rfl) (by rfl) (by exact T.z_len) PySem.boot_len (aCons (cV 0 rfl (by decide) (pv 0)) aNil)) (cCallB call_len' (len_s rfl) (by rfl) (by exact T.z_len) PySem.boot_len (aCons (cV 1 rfl (by decide) (pv 1)) aNil)) (nomark _)))).pt (zOne (zRet (cOfP cBl) rfl)) zNil) (zOne (zRet (cOfP (cCallB (cr_all rfl) (all_s rfl) (by rfl) (by exact T.z_all) (by decide +kernel) (aCons (cFrz (cCmp0 (own := [("_law_k", 2)]) (Γ1 := [.sh, .sh, .sh]) rfl sc.nd (Pv.iRng1 (by rfl) (by exact T.z_range) (aCons (cCallB call_len' (len_s rfl) (by rfl) (by exact T.z_len) PySem.boot_len (aCons (cV 1 rfl (by decide) (pv 1)) aNil)) aNil)) (show BlkOk ["_law_told", "_law_due", "_law_k"] (defScope st__law_same) _ _ from ⟨rfl, by decide +kernel, by decide +kernel, by decide +kernel, by decide +kernel⟩) (fun _ _ _ _ _ => (hName (i := 2) sc.nd rfl (by first | exact .inl rfl | exact .inr rfl) (by decide))) (fun _ _ _ _ _ => kNil) (fun _ _ _ _ _ => (cCall (S := (S__law_same k)) ih hr (by rfl) (by exact T.m__law_same) (by exact T.k__law_same) (by exact T.b__law_same) (aCons (cIx ix_sh (cV 0 rfl (by decide) (pv 0)) (cV 2 rfl (by decide) (pv 2)) (by intro _ _; rfl)) (aCons (cIx ix_sh (cV 1 rfl (by decide) (pv 1)) (cV 2 rfl (by decide) (pv 2)) (by intro _ _; rfl)) aNil)) rfl rfl)) rfl)) aNil))) rfl))) zNil) (zOne (zRet (cOfP (vAnd (cIsi isi_int (by rfl) (by exact T.z_isinstance) (pe_bltn (by rfl) (by exact T.z_int) PyProof.Rows.boot_int rfl) (cV 0 rfl (by decide) (pv 0))) (vAnd (vNot (cIsi isi_bool (by rfl) (by exact T.z_isinstance) (pe_bltn (by rfl) (by exact T.z_bool) PyProof.Rows.boot_bool rfl) (cV 0 rfl (by decide) (pv 0)))) (vOne (cCmp (op_eqD hr.units) (eq_s rfl rfl) (cV 0 rfl (by decide) (pv 0)) (cV 1 rfl (by decide) (pv 1)) (nomark _)))))) rfl))))
theorem sc__law_hangs : FnScope ["_law_pile", "_law_part", "_law_told"] ["_law_pile", "_law_part"] (defScope st__law_hangs) := ⟨rfl, rfl, rfl, by decide +kernel, rfl, by decide +kernel, by decide +kernel⟩
theorem ok__law_hangs (T : Tx K mg) : FnOk P w K mg base CX0 7 T.a__law_hangs T.d__law_hangs ["_law_pile", "_law_part"] (spF K S__law_hangs) :=
  fn_val (nl := 1) (fo := false) T.f__law_hangs sc__law_hangs rfl rfl rfl rfl (fun h => nomatch h) (fun cdv A outer s H E hr => show PSs _ _ (tS _ [.sh, .sh, .no] ⟨[.no, .no, .no], [], [], [.no, .no, .no], .sh⟩ _) from
    have sc := sc__law_hangs
    (zCons (Γ1 := [.sh, .sh, .sh]) (zSet (i := 2) sc.nd rfl (by first | exact .inl rfl | exact .inr rfl) (cCall (S := (S_hangs_together)) (ok_hangs_together T) (hr.mono (by decide)) (by rfl) (by exact T.m_hangs_together) (by exact T.k_hangs_together) (by exact T.b_hangs_together) (aCons (cV 0 rfl (by decide) (pv 0)) (aCons (cV 1 rfl (by decide) (pv 1)) aNil)) rfl rfl) (by decide) rfl) (zCons (Γ1 := [.sh, .sh, .sh]) (zIf (qNot (qVal (cIsi isi_bool (by rfl) (by exact T.z_isinstance) (pe_bltn (by rfl) (by exact T.z_bool) PyProof.Rows.boot_bool rfl) (cV 2 rfl (by decide) (pv 2))))) (zOne (zRet (cOfP cBl) rfl)) zNil) (zCons (Γ1 := [.sh, .sh, .sh]) (zIf (qCmp (op_eqD hr.units) (eq_s rfl rfl) (cCallB call_len' (len_s rfl) (by rfl) (by exact T.z_len) PySem.boot_len (aCons (cV 1 rfl (by decide) (pv 1)) aNil)) cInt (nomark _)) (zOne (zRet (cOfP (vNot (cV 2 rfl (by decide) (pv 2)))) rfl)) zNil) (zCons (Γ1 := [.sh, .sh, .sh]) (zIf (qCmp op_le le_s (cCallB call_len' (len_s rfl) (by rfl) (by exact T.z_len) PySem.boot_len (aCons (cV 1 rfl (by decide) (pv 1)) aNil)) cInt (nomark _)) (zOne (zRet (cOfP (cCmp (op_eqD hr.units) (eq_s rfl rfl) (cV 2 rfl (by decide) (pv 2)) (vNot (pOfC (cCall (S := (S__law_parted)) (ok__law_parted T) (hr.mono (by decide)) (by rfl) (by exact T.m__law_parted) (by exact T.k__law_parted) (by exact T.b__law_parted) (aCons (cV 0 rfl (by decide) (pv 0)) (aCons (cV 1 rfl (by decide) (pv 1)) aNil)) rfl rfl))) (nomark _))) rfl)) zNil) (zOne (zRet (cOfP (cCmp (op_eqD hr.units) (eq_s rfl rfl) (cV 2 rfl (by decide) (pv 2)) (cCmp (op_eqD hr.units) (eq_s rfl rfl) (pOfC (cCall (S := (S__law_grown)) (ok__law_grown T) (hr.mono (by decide)) (by rfl) (by exact T.m__law_grown) (by exact T.k__law_grown) (by exact T.b__law_grown) (aCons (cV 0 rfl (by decide) (pv 0)) (aCons (cIx ix_sh (cV 1 rfl (by decide) (pv 1)) cInt (by intro _ _; rfl)) (aCons (cV 1 rfl (by decide) (pv 1)) aNil))) rfl rfl)) (cV 1 rfl (by decide) (pv 1)) (nomark _)) (nomark _))) rfl)))))))
theorem sc__law_pieces : FnScope ["_law_pile", "_law_size", "_law_leaves", "_law_due", "_law_w", "_law_part", "_law_told", "_law_holders"] ["_law_pile"] (defScope st__law_pieces) := ⟨rfl, rfl, rfl, by decide +kernel, rfl, by decide +kernel, by decide +kernel⟩
theorem ok__law_pieces (T : Tx K mg) : FnOk P w K mg base CX0 7 T.a__law_pieces T.d__law_pieces ["_law_pile"] (spF K S__law_pieces) :=
  fn_val (nl := 7) (fo := false) T.f__law_pieces sc__law_pieces rfl rfl rfl rfl (fun h => nomatch h) (fun cdv A outer s H E hr => show PSs _ _ (tS _ [.sh, .no, .no, .no, .no, .no, .no, .no] ⟨[.no, .no, .no, .no, .no, .no, .no, .no], [], [], [.no, .no, .no, .no, .no, .no, .no, .no], .sh⟩ _) from
    have sc := sc__law_pieces
    (zCons (Γ1 := [.sh, .sh, .sh, .no, .no, .no, .no, .no]) (zUnp (cV 0 rfl (by decide) (pv 0)) (hTup rfl (hCons (hName (i := 1) sc.nd rfl (by first | exact .inl rfl | exact .inr rfl) (by decide)) (hCons (hName (i := 2) sc.nd rfl (by first | exact .inl rfl | exact .inr rfl) (by decide)) hNil))) rfl) (zCons (Γ1 := [.sh, .sh, .sh, (.ol .sh), .no, .no, .no, .no]) (zSet (i := 3) sc.nd rfl (by first | exact .inl rfl | exact .inr rfl) (cNew (t := .sh)) (by decide) rfl) (zCons (Γ1 := [.sh, .sh, .sh, (.ol .sh), .no, .no, .no, .no]) (zFor (Γ := [.sh, .sh, .sh, (.ol .sh), .no, .no, .no, .no]) (Γ1 := [.sh, .sh, .sh, (.ol .sh), .sh, .no, .no, .no]) PassesOwn.never rfl (Pv.iRng1 (by rfl) (by exact T.z_range) (aCons (cV 1 rfl (by decide) (pv 1)) aNil)) (hName (i := 4) sc.nd rfl (by first | exact .inl rfl | exact .inr rfl) (by decide)) (zWkn (n' := [.sh, .sh, .sh, (.ol .sh), .sh, .no, .no, .no]) (zOne (zIf (qBorrow 3 rfl rfl (qCmp (op_eqD hr.units) (eq_s rfl rfl) (cCallB call_len' (len_s rfl) (by rfl) (by exact T.z_len) PySem.boot_len (aCons (cFrz (cCmp0 (own := [("_law_part", 5)]) (Γ1 := [.sh, .sh, .sh, .sh, .sh, .sh, .no, .no]) rfl sc.nd (iSeq (cV 3 rfl (by decide) (pv 3))) (show BlkOk ["_law_pile", "_law_size", "_law_leaves", "_law_due", "_law_w", "_law_part", "_law_told", "_law_holders"] (defScope st__law_pieces) _ _ from ⟨rfl, by decide +kernel, by decide +kernel, by decide +kernel, by decide +kernel⟩) (fun _ _ _ _ _ => (hName (i := 5) sc.nd rfl (by first | exact .inl rfl | exact .inr rfl) (by decide))) (fun _ _ _ _ _ => (kOne (qCmp op_in_seq (in_s rfl) (cV 4 rfl (by decide) (pv 4)) (cV 5 rfl (by decide) (pv 5)) (by with_unfolding_all rfl)))) (fun _ _ _ _ _ => (cOfP (cV 5 rfl (by decide) (pv 5)))) rfl)) aNil)) cInt (nomark _))) (zOne (zDrop (mApp 3 (pe_bm PySem.F.plainAttrs_list PySem.F.slot_list_append PySem.F.type_list_append mt_append (pv 3) (pa_cons (mOfP (pOfC (cCall (S := (S__law_grown)) (ok__law_grown T) (hr.mono (by decide)) (by rfl) (by exact T.m__law_grown) (by exact T.k__law_grown) (by exact T.b__law_grown) (aCons (cV 0 rfl (by decide) (pv 0)) (aCons (cV 4 rfl (by decide) (pv 4)) (aCons (cFrz (cLstRng rfl (by rfl) (by exact T.z_list) (by rfl) (by exact T.z_range) (cV 1 rfl (by decide) (pv 1)))) aNil))) rfl rfl))) pa_nil)) rfl rfl))) zNil)) rfl) rfl) (zFrz (Γ := [.sh, .sh, .sh, (.ol .sh), .no, .no, .no, .no]) 3 rfl rfl (zCons (Γ1 := [.sh, .sh, .sh, .sh, .no, .no, .sh, .no]) (zSet (i := 6) sc.nd rfl (by first | exact .inl rfl | exact .inr rfl) (cCallK (S := (S_pieces_of)) (ks := ["heap"]) (pm := [0]) (ok_pieces_of T) (hr.mono (by decide)) (by rfl) (by exact T.m_pieces_of) (by exact T.k_pieces_of) (by exact T.kb_pieces_of_heap) (wCons (cV 0 rfl (by decide) (pv 0)) wNil) rfl rfl (ro_len _ _ (by decide)) rfl rfl) (by decide) rfl) (zCons (Γ1 := [.sh, .sh, .sh, .sh, .no, .no, .sh, .no]) (zIf (qNot (qVal (pOfC (cCall (S := (S__law_same 6)) (ok__law_same T 6) (hr.mono (by decide)) (by rfl) (by exact T.m__law_same) (by exact T.k__law_same) (by exact T.b__law_same) (aCons (cV 6 rfl (by decide) (pv 6)) (aCons (cCallT call_tuple_of (tup_s rfl) (by rfl) (by exact T.z_tuple) PyProof.Rows.boot_tuple (aCons (cV 3 rfl (by decide) (pv 3)) aNil)) aNil)) rfl rfl)))) (zOne (zRet (cOfP cBl) rfl)) zNil) (zCons (Γ1 := [.sh, .sh, .sh, .sh, .no, .no, .sh, (.ol .sh)]) (zSet (i := 7) sc.nd rfl (by first | exact .inl rfl | exact .inr rfl) (cNew (t := .sh)) (by decide) rfl) (zCons (Γ1 := [.sh, .sh, .sh, .sh, .no, .no, .sh, (.ol .sh)]) (zFor (Γ := [.sh, .sh, .sh, .sh, .no, .no, .sh, (.ol .sh)]) (Γ1 := [.sh, .sh, .sh, .sh, .no, .sh, .sh, (.ol .sh)]) PassesOwn.never rfl (iSeq (cV 6 rfl (by decide) (pv 6))) (hName (i := 5) sc.nd rfl (by first | exact .inl rfl | exact .inr rfl) (by decide)) (zWkn (n' := [.sh, .sh, .sh, .sh, .no, .sh, .sh, (.ol .sh)]) (zCons (Γ1 := [.sh, .sh, .sh, .sh, .no, .sh, .sh, (.ol .sh)]) (zDrop (mExt 7 (pe_bm PySem.F.plainAttrs_list PySem.F.slot_list_extend PySem.F.type_list_extend mt_extend (pv 7) (pa_cons (mOfC (cListC (by rfl) (by exact T.z_list) rfl (aCons (pOfC (cCall (S := (S_within)) (ok_within T) (hr.mono (by decide)) (by rfl) (by exact T.m_within) (by exact T.k_within) (by exact T.b_within) (aCons (cV 0 rfl (by decide) (pv 0)) (aCons (cV 5 rfl (by decide) (pv 5)) aNil)) rfl rfl)) aNil))) pa_nil)) rfl rfl)) (zOne (zIf (qOr (qCmp op_notBl notB_s (pOfC (cCall (S := (S_hangs_together)) (ok_hangs_together T) (hr.mono (by decide)) (by rfl) (by exact T.m_hangs_together) (by exact T.k_hangs_together) (by exact T.b_hangs_together) (aCons (cV 0 rfl (by decide) (pv 0)) (aCons (cV 5 rfl (by decide) (pv 5)) aNil)) rfl rfl)) cBl (by with_unfolding_all rfl)) (qOr1 (qCmp (op_neD hr.units) (ne_s rfl rfl) (pOfC (cCall (S := (S_gates_of)) (ok_gates_of T) (hr.mono (by decide)) (by rfl) (by exact T.m_gates_of) (by exact T.k_gates_of) (by exact T.b_gates_of) (aCons (cV 0 rfl (by decide) (pv 0)) (aCons (cV 5 rfl (by decide) (pv 5)) aNil)) rfl rfl)) cInt (nomark _)))).pt (zOne (zRet (cOfP cBl) rfl)) zNil))) rfl) rfl) (zFrz (Γ := [.sh, .sh, .sh, .sh, .no, .no, .sh, (.ol .sh)]) 7 rfl rfl (zOne (zRet (cOfP (cCmp (op_eqD hr.units) (eq_s rfl rfl) (pOfC (cSorted (by rfl) (by exact T.z_sorted) (by decide +kernel) rfl (cV 7 rfl (by decide) (pv 7)))) (pOfC (cLstRng rfl (by rfl) (by exact T.z_list) (by rfl) (by exact T.z_range) (cCallB call_len' (len_s rfl) (by rfl) (by exact T.z_len) PySem.boot_len (aCons (cV 2 rfl (by decide) (pv 2)) aNil)))) (nomark _))) rfl))))))))))))
theorem sc__law_gates : FnScope ["_law_pile", "_law_left", "_law_right", "_law_both", "_law_w", "_law_joined_lot", "_law_only_left", "_law_only_right", "_law_over", "_law_part", "_law_outside", "_law_gained"] ["_law_pile", "_law_left", "_law_right"] (defScope st__law_gates) := ⟨rfl, rfl, rfl, by decide +kernel, rfl, by decide +kernel, by decide +kernel⟩
theorem ok__law_gates (T : Tx K mg) : FnOk P w K mg base CX0 8 T.a__law_gates T.d__law_gates ["_law_pile", "_law_left", "_law_right"] (spF K S__law_gates) :=
  fn_val (nl := 9) (fo := false) T.f__law_gates sc__law_gates rfl rfl rfl rfl (fun h => nomatch h) (fun cdv A outer s H E hr => show PSs _ _ (tS _ [.sh, .sh, .sh, .no, .no, .no, .no, .no, .no, .no, .no, .no] ⟨[.no, .no, .no, .no, .no, .no, .no, .no, .no, .no, .no, .no], [], [], [.no, .no, .no, .no, .no, .no, .no, .no, .no, .no, .no, .no], .sh⟩ _) from
    have sc := sc__law_gates
    (zCons (Γ1 := [.sh, .sh, .sh, .sh, .no, .no, .no, .no, .no, .no, .no, .no]) (zSet (i := 3) sc.nd rfl (by first | exact .inl rfl | exact .inr rfl) (cOfP (cCallT call_tuple_of (tup_s rfl) (by rfl) (by exact T.z_tuple) PyProof.Rows.boot_tuple (aCons (cFrz (cCmp0 (own := [("_law_w", 4)]) (Γ1 := [.sh, .sh, .sh, .no, .sh, .no, .no, .no, .no, .no, .no, .no]) rfl sc.nd (iSeq (cV 1 rfl (by decide) (pv 1))) (show BlkOk ["_law_pile", "_law_left", "_law_right", "_law_both", "_law_w", "_law_joined_lot", "_law_only_left", "_law_only_right", "_law_over", "_law_part", "_law_outside", "_law_gained"] (defScope st__law_gates) _ _ from ⟨rfl, by decide +kernel, by decide +kernel, by decide +kernel, by decide +kernel⟩) (fun _ _ _ _ _ => (hName (i := 4) sc.nd rfl (by first | exact .inl rfl | exact .inr rfl) (by decide))) (fun _ _ _ _ _ => (kOne (qCmp op_in_seq (in_s rfl) (cV 4 rfl (by decide) (pv 4)) (cV 2 rfl (by decide) (pv 2)) (by with_unfolding_all rfl)))) (fun _ _ _ _ _ => (cOfP (cV 4 rfl (by decide) (pv 4)))) rfl)) aNil))) (by decide) rfl) (zCons (Γ1 := [.sh, .sh, .sh, .sh, .no, .sh, .no, .no, .no, .no, .no, .no]) (zSet (i := 5) sc.nd rfl (by first | exact .inl rfl | exact .inr rfl) (cOfP (cCallT call_tuple_of (tup_s rfl) (by rfl) (by exact T.z_tuple) PyProof.Rows.boot_tuple (aCons (cFrz (cCmp0 (own := [("_law_w", 4)]) (Γ1 := [.sh, .sh, .sh, .sh, .sh, .no, .no, .no, .no, .no, .no, .no]) rfl sc.nd (Pv.iRng1 (by rfl) (by exact T.z_range) (aCons (cIx ix_sh (cV 0 rfl (by decide) (pv 0)) cInt (by intro _ _; rfl)) aNil)) (show BlkOk ["_law_pile", "_law_left", "_law_right", "_law_both", "_law_w", "_law_joined_lot", "_law_only_left", "_law_only_right", "_law_over", "_law_part", "_law_outside", "_law_gained"] (defScope st__law_gates) _ _ from ⟨rfl, by decide +kernel, by decide +kernel, by decide +kernel, by decide +kernel⟩) (fun _ _ _ _ _ => (hName (i := 4) sc.nd rfl (by first | exact .inl rfl | exact .inr rfl) (by decide))) (fun _ _ _ _ _ => (kOne (qOr (qCmp op_in_seq (in_s rfl) (cV 4 rfl (by decide) (pv 4)) (cV 1 rfl (by decide) (pv 1)) (by with_unfolding_all rfl)) (qOr1 (qCmp op_in_seq (in_s rfl) (cV 4 rfl (by decide) (pv 4)) (cV 2 rfl (by decide) (pv 2)) (by with_unfolding_all rfl)))).pt)) (fun _ _ _ _ _ => (cOfP (cV 4 rfl (by decide) (pv 4)))) rfl)) aNil))) (by decide) rfl) (zCons (Γ1 := [.sh, .sh, .sh, .sh, .no, .sh, (.ol .sh), .no, .no, .no, .no, .no]) (zSetCmp (own := [("_law_w", 4)]) (Γ1 := [.sh, .sh, .sh, .sh, .sh, .sh, .no, .no, .no, .no, .no, .no]) (i := 6) rfl sc.nd rfl rfl rfl (iSeq (cV 1 rfl (by decide) (pv 1))) (show BlkOk ["_law_pile", "_law_left", "_law_right", "_law_both", "_law_w", "_law_joined_lot", "_law_only_left", "_law_only_right", "_law_over", "_law_part", "_law_outside", "_law_gained"] (defScope st__law_gates) _ _ from ⟨rfl, by decide +kernel, by decide +kernel, by decide +kernel, by decide +kernel⟩) (fun _ _ _ _ _ => (hName (i := 4) sc.nd rfl (by first | exact .inl rfl | exact .inr rfl) (by decide))) (fun _ _ _ _ _ => (kOne (qCmp op_notIn_seq (notin_s rfl) (cV 4 rfl (by decide) (pv 4)) (cV 2 rfl (by decide) (pv 2)) (by with_unfolding_all rfl)))) (fun _ _ _ _ _ => (cOfP (cV 4 rfl (by decide) (pv 4)))) rfl (by decide) rfl) (zFrz (Γ := [.sh, .sh, .sh, .sh, .no, .sh, (.ol .sh), .no, .no, .no, .no, .no]) 6 rfl rfl (zCons (Γ1 := [.sh, .sh, .sh, .sh, .no, .sh, .sh, (.ol .sh), .no, .no, .no, .no]) (zSetCmp (own := [("_law_w", 4)]) (Γ1 := [.sh, .sh, .sh, .sh, .sh, .sh, .sh, .no, .no, .no, .no, .no]) (i := 7) rfl sc.nd rfl rfl rfl (iSeq (cV 2 rfl (by decide) (pv 2))) (show BlkOk ["_law_pile", "_law_left", "_law_right", "_law_both", "_law_w", "_law_joined_lot", "_law_only_left", "_law_only_right", "_law_over", "_law_part", "_law_outside", "_law_gained"] (defScope st__law_gates) _ _ from ⟨rfl, by decide +kernel, by decide +kernel, by decide +kernel, by decide +kernel⟩) (fun _ _ _ _ _ => (hName (i := 4) sc.nd rfl (by first | exact .inl rfl | exact .inr rfl) (by decide))) (fun _ _ _ _ _ => (kOne (qCmp op_notIn_seq (notin_s rfl) (cV 4 rfl (by decide) (pv 4)) (cV 1 rfl (by decide) (pv 1)) (by with_unfolding_all rfl)))) (fun _ _ _ _ _ => (cOfP (cV 4 rfl (by decide) (pv 4)))) rfl (by decide) rfl) (zFrz (Γ := [.sh, .sh, .sh, .sh, .no, .sh, .sh, (.ol .sh), .no, .no, .no, .no]) 7 rfl rfl (zCons (Γ1 := [.sh, .sh, .sh, .sh, .no, .sh, .sh, .sh, .sh, .no, .no, .no]) (zSet (i := 8) sc.nd rfl (by first | exact .inl rfl | exact .inr rfl) (cOfP (c2 op_add' add_s (pOfC (cCall (S := (S__law_across)) (ok__law_across T) (hr.mono (by decide)) (by rfl) (by exact T.m__law_across) (by exact T.k__law_across) (by exact T.b__law_across) (aCons (cV 0 rfl (by decide) (pv 0)) (aCons (cV 6 rfl (by decide) (pv 6)) (aCons (cV 7 rfl (by decide) (pv 7)) aNil))) rfl rfl)) (pOfC (cCall (S := (S__law_across)) (ok__law_across T) (hr.mono (by decide)) (by rfl) (by exact T.m__law_across) (by exact T.k__law_across) (by exact T.b__law_across) (aCons (cV 0 rfl (by decide) (pv 0)) (aCons (cV 7 rfl (by decide) (pv 7)) (aCons (cV 6 rfl (by decide) (pv 6)) aNil))) rfl rfl)))) (by decide) rfl) (zCons (Γ1 := [.sh, .sh, .sh, .sh, .no, .sh, .sh, .sh, .sh, .no, .no, .no]) (zIf (qNot (qVal (pOfC (cCall (S := (S__law_same 6)) (ok__law_same T 6) (hr.mono (by decide)) (by rfl) (by exact T.m__law_same) (by exact T.k__law_same) (by exact T.b__law_same) (aCons (c2 op_add' add_s (c2 op_add' add_s (pOfC (cCall (S := (S_gates_of)) (ok_gates_of T) (hr.mono (by decide)) (by rfl) (by exact T.m_gates_of) (by exact T.k_gates_of) (by exact T.b_gates_of) (aCons (cV 0 rfl (by decide) (pv 0)) (aCons (cV 3 rfl (by decide) (pv 3)) aNil)) rfl rfl)) (pOfC (cCall (S := (S_gates_of)) (ok_gates_of T) (hr.mono (by decide)) (by rfl) (by exact T.m_gates_of) (by exact T.k_gates_of) (by exact T.b_gates_of) (aCons (cV 0 rfl (by decide) (pv 0)) (aCons (cV 5 rfl (by decide) (pv 5)) aNil)) rfl rfl))) (cV 8 rfl (by decide) (pv 8))) (aCons (c2 op_add' add_s (pOfC (cCall (S := (S_gates_of)) (ok_gates_of T) (hr.mono (by decide)) (by rfl) (by exact T.m_gates_of) (by exact T.k_gates_of) (by exact T.b_gates_of) (aCons (cV 0 rfl (by decide) (pv 0)) (aCons (cV 1 rfl (by decide) (pv 1)) aNil)) rfl rfl)) (pOfC (cCall (S := (S_gates_of)) (ok_gates_of T) (hr.mono (by decide)) (by rfl) (by exact T.m_gates_of) (by exact T.k_gates_of) (by exact T.b_gates_of) (aCons (cV 0 rfl (by decide) (pv 0)) (aCons (cV 2 rfl (by decide) (pv 2)) aNil)) rfl rfl))) aNil)) rfl rfl)))) (zOne (zRet (cOfP cBl) rfl)) zNil) (zCons (Γ1 := [.sh, .sh, .sh, .sh, .no, .sh, .sh, .sh, .sh, .no, .no, .no]) (zFor (Γ := [.sh, .sh, .sh, .sh, .no, .sh, .sh, .sh, .sh, .no, .no, .no]) (Γ1 := [.sh, .sh, .sh, .sh, .no, .sh, .sh, .sh, .sh, .sh, .no, .no]) PassesOwn.never rfl (iSeq (cFrz (cLst (aCons (cV 1 rfl (by decide) (pv 1)) (aCons (cV 2 rfl (by decide) (pv 2)) (aCons (cV 3 rfl (by decide) (pv 3)) (aCons (cV 5 rfl (by decide) (pv 5)) aNil))))))) (hName (i := 9) sc.nd rfl (by first | exact .inl rfl | exact .inr rfl) (by decide)) (zWkn (n' := [.sh, .sh, .sh, .sh, .no, .sh, .sh, .sh, .sh, .sh, .sh, .sh]) (zCons (Γ1 := [.sh, .sh, .sh, .sh, .no, .sh, .sh, .sh, .sh, .sh, (.ol .sh), .no]) (zSetCmp (own := [("_law_w", 4)]) (Γ1 := [.sh, .sh, .sh, .sh, .sh, .sh, .sh, .sh, .sh, .sh, .no, .no]) (i := 10) rfl sc.nd rfl rfl rfl (Pv.iRng1 (by rfl) (by exact T.z_range) (aCons (cIx ix_sh (cV 0 rfl (by decide) (pv 0)) cInt (by intro _ _; rfl)) aNil)) (show BlkOk ["_law_pile", "_law_left", "_law_right", "_law_both", "_law_w", "_law_joined_lot", "_law_only_left", "_law_only_right", "_law_over", "_law_part", "_law_outside", "_law_gained"] (defScope st__law_gates) _ _ from ⟨rfl, by decide +kernel, by decide +kernel, by decide +kernel, by decide +kernel⟩) (fun _ _ _ _ _ => (hName (i := 4) sc.nd rfl (by first | exact .inl rfl | exact .inr rfl) (by decide))) (fun _ _ _ _ _ => (kOne (qCmp op_notIn_seq (notin_s rfl) (cV 4 rfl (by decide) (pv 4)) (cV 9 rfl (by decide) (pv 9)) (by with_unfolding_all rfl)))) (fun _ _ _ _ _ => (cOfP (cV 4 rfl (by decide) (pv 4)))) rfl (by decide) rfl) (zFrz (Γ := [.sh, .sh, .sh, .sh, .no, .sh, .sh, .sh, .sh, .sh, (.ol .sh), .no]) 10 rfl rfl (zCons (Γ1 := [.sh, .sh, .sh, .sh, .no, .sh, .sh, .sh, .sh, .sh, .sh, .no]) (zIf (qNot (qVal (pOfC (cCall (S := (S__law_same 6)) (ok__law_same T 6) (hr.mono (by decide)) (by rfl) (by exact T.m__law_same) (by exact T.k__law_same) (by exact T.b__law_same) (aCons (pOfC (cCall (S := (S_gates_of)) (ok_gates_of T) (hr.mono (by decide)) (by rfl) (by exact T.m_gates_of) (by exact T.k_gates_of) (by exact T.b_gates_of) (aCons (cV 0 rfl (by decide) (pv 0)) (aCons (cV 9 rfl (by decide) (pv 9)) aNil)) rfl rfl)) (aCons (pOfC (cCall (S := (S__law_across)) (ok__law_across T) (hr.mono (by decide)) (by rfl) (by exact T.m__law_across) (by exact T.k__law_across) (by exact T.b__law_across) (aCons (cV 0 rfl (by decide) (pv 0)) (aCons (cV 9 rfl (by decide) (pv 9)) (aCons (cV 10 rfl (by decide) (pv 10)) aNil))) rfl rfl)) aNil)) rfl rfl)))) (zOne (zRet (cOfP cBl) rfl)) zNil) (zCons (Γ1 := [.sh, .sh, .sh, .sh, .no, .sh, .sh, .sh, .sh, .sh, .sh, .sh]) (zSet (i := 11) sc.nd rfl (by first | exact .inl rfl | exact .inr rfl) (cOfP (c2 op_sub sub_s (cCallB call_len' (len_s rfl) (by rfl) (by exact T.z_len) PySem.boot_len (aCons (pOfC (cCallK (S := (S_entering)) (ks := ["lot", "heap"]) (pm := [1, 0]) (ok_entering T) (hr.mono (by decide)) (by rfl) (by exact T.m_entering) (by exact T.k_entering) (by exact T.kb_entering_lot_heap) (wCons (cV 9 rfl (by decide) (pv 9)) (wCons (cV 0 rfl (by decide) (pv 0)) wNil)) rfl rfl (ro_len _ _ (by decide)) rfl rfl)) aNil)) (cCallB call_len' (len_s rfl) (by rfl) (by exact T.z_len) PySem.boot_len (aCons (pOfC (cCall (S := (S_leaving)) (ok_leaving T) (hr.mono (by decide)) (by rfl) (by exact T.m_leaving) (by exact T.k_leaving) (by exact T.b_leaving) (aCons (cV 0 rfl (by decide) (pv 0)) (aCons (cV 9 rfl (by decide) (pv 9)) aNil)) rfl rfl)) aNil)))) (by decide) rfl) (zCons (Γ1 := [.sh, .sh, .sh, .sh, .no, .sh, .sh, .sh, .sh, .sh, .sh, .sh]) (zIf (qCmp (op_neD hr.units) (ne_s rfl rfl) (cV 11 rfl (by decide) (pv 11)) (cCallB (cr_sum rfl) (sum_s rfl) (by rfl) (by exact T.z_sum) (by decide +kernel) (aCons (cFrz (cCmp0 (own := [("_law_w", 4)]) (Γ1 := [.sh, .sh, .sh, .sh, .sh, .sh, .sh, .sh, .sh, .sh, .sh, .sh]) rfl sc.nd (iSeq (cV 9 rfl (by decide) (pv 9))) (show BlkOk ["_law_pile", "_law_left", "_law_right", "_law_both", "_law_w", "_law_joined_lot", "_law_only_left", "_law_only_right", "_law_over", "_law_part", "_law_outside", "_law_gained"] (defScope st__law_gates) _ _ from ⟨rfl, by decide +kernel, by decide +kernel, by decide +kernel, by decide +kernel⟩) (fun _ _ _ _ _ => (hName (i := 4) sc.nd rfl (by first | exact .inl rfl | exact .inr rfl) (by decide))) (fun _ _ _ _ _ => kNil) (fun _ _ _ _ _ => (cCall (S := (S_surplus_of)) (ok_surplus_of T) (hr.mono (by decide)) (by rfl) (by exact T.m_surplus_of) (by exact T.k_surplus_of) (by exact T.b_surplus_of) (aCons (cV 0 rfl (by decide) (pv 0)) (aCons (cV 4 rfl (by decide) (pv 4)) aNil)) rfl rfl)) rfl)) aNil)) (nomark _)) (zOne (zRet (cOfP cBl) rfl)) zNil) (zOne (zIf (qOr (qCmp (op_neD hr.units) (ne_s rfl rfl) (cCallB call_len' (len_s rfl) (by rfl) (by exact T.z_len) PySem.boot_len (aCons (pOfC (cCall (S := (S_within)) (ok_within T) (hr.mono (by decide)) (by rfl) (by exact T.m_within) (by exact T.k_within) (by exact T.b_within) (aCons (cV 0 rfl (by decide) (pv 0)) (aCons (cV 9 rfl (by decide) (pv 9)) aNil)) rfl rfl)) aNil)) (pOfC (cCall (S := (S__law_across)) (ok__law_across T) (hr.mono (by decide)) (by rfl) (by exact T.m__law_across) (by exact T.k__law_across) (by exact T.b__law_across) (aCons (cV 0 rfl (by decide) (pv 0)) (aCons (cV 9 rfl (by decide) (pv 9)) (aCons (cV 9 rfl (by decide) (pv 9)) aNil))) rfl rfl)) (nomark _)) (qOr1 (qNot (qVal (pOfC (cCall (S := (S__law_hangs)) (ok__law_hangs T) (hr.mono (by decide)) (by rfl) (by exact T.m__law_hangs) (by exact T.k__law_hangs) (by exact T.b__law_hangs) (aCons (cV 0 rfl (by decide) (pv 0)) (aCons (cV 9 rfl (by decide) (pv 9)) aNil)) rfl rfl)))))).pt (zOne (zRet (cOfP cBl) rfl)) zNil))))))) rfl) rfl) (zOne (zRet (cOfP cBl) rfl))))))))))))
theorem sc_law : FnScope ["_law_script", "_law_cells_here", "_law_pile", "_law_left", "_law_right"] ["_law_script"] (defScope st_law) := ⟨rfl, rfl, rfl, by decide +kernel, rfl, by decide +kernel, by decide +kernel⟩
theorem ok_law (T : Tx K mg) : FnOk P w K mg base CX0 9 T.a_law T.d_law ["_law_script"] (spF K S_law) :=
  fn_val (nl := 4) (fo := false) T.f_law sc_law rfl rfl rfl rfl (fun h => nomatch h) (fun cdv A outer s H E hr => show PSs _ _ (tS _ [.sh, .no, .no, .no, .no] ⟨[.no, .no, .no, .no, .no], [], [], [.no, .no, .no, .no, .no], .sh⟩ _) from
    have sc := sc_law
    (zCons (Γ1 := [.sh, (.ol .sh), .no, .no, .no]) (zSet (i := 1) sc.nd rfl (by first | exact .inl rfl | exact .inr rfl) (cCall (S := (S__law_cells)) (ok__law_cells T) (hr.mono (by decide)) (by rfl) (by exact T.m__law_cells) (by exact T.k__law_cells) (by exact T.b__law_cells) (aCons (cV 0 rfl (by decide) (pv 0)) (aCons cInt aNil)) rfl rfl) (by decide) rfl) (zCons (Γ1 := [.sh, (.ol .sh), .sh, .no, .no]) (zSetM (i := 2) sc.nd rfl (by first | exact .inl rfl | exact .inr rfl) (mCall (S := (S__law_heap)) (ok__law_heap T) (hr.mono (by decide)) (by rfl) (by exact T.m__law_heap) (by exact T.k__law_heap) (by exact T.b__law_heap) (aMIoL 1 rfl rfl (by decide) (pv 1) (aMCons (mCall (S := (S__law_pick)) (ok__law_pick T) (hr.mono (by decide)) (by rfl) (by exact T.m__law_pick) (by exact T.k__law_pick) (by exact T.b__law_pick) (aMIo 1 rfl (by decide) (pv 1) (aMCons (mOfP cInt) aMNil))) aMNil))) (by decide) rfl) (zCons (Γ1 := [.sh, (.ol .sh), .sh, .sh, .no]) (zSetM (i := 3) sc.nd rfl (by first | exact .inl rfl | exact .inr rfl) (mCall (S := (S__law_lot)) (ok__law_lot T) (hr.mono (by decide)) (by rfl) (by exact T.m__law_lot) (by exact T.k__law_lot) (by exact T.b__law_lot) (aMIo 1 rfl (by decide) (pv 1) (aMCons (mOfP (cV 2 rfl (by decide) (pv 2))) aMNil))) (by decide) rfl) (zCons (Γ1 := [.sh, (.ol .sh), .sh, .sh, .sh]) (zSetM (i := 4) sc.nd rfl (by first | exact .inl rfl | exact .inr rfl) (mCall (S := (S__law_lot)) (ok__law_lot T) (hr.mono (by decide)) (by rfl) (by exact T.m__law_lot) (by exact T.k__law_lot) (by exact T.b__law_lot) (aMIo 1 rfl (by decide) (pv 1) (aMCons (mOfP (cV 2 rfl (by decide) (pv 2))) aMNil))) (by decide) rfl) (zOne (zRet (cOfP (vAnd (pOfC (cCall (S := (S__law_pieces)) (ok__law_pieces T) (hr.mono (by decide)) (by rfl) (by exact T.m__law_pieces) (by exact T.k__law_pieces) (by exact T.b__law_pieces) (aCons (cV 2 rfl (by decide) (pv 2)) aNil) rfl rfl)) (vAnd (pOfC (cCall (S := (S__law_gates)) (ok__law_gates T) (hr.mono (by decide)) (by rfl) (by exact T.m__law_gates) (by exact T.k__law_gates) (by exact T.b__law_gates) (aCons (cV 2 rfl (by decide) (pv 2)) (aCons (cV 3 rfl (by decide) (pv 3)) (aCons (cV 4 rfl (by decide) (pv 4)) aNil))) rfl rfl)) (vAnd (pOfC (cCall (S := (S__law_gates)) (ok__law_gates T) (hr.mono (by decide)) (by rfl) (by exact T.m__law_gates) (by exact T.k__law_gates) (by exact T.b__law_gates) (aCons (cV 2 rfl (by decide) (pv 2)) (aCons (cV 4 rfl (by decide) (pv 4)) (aCons (cV 3 rfl (by decide) (pv 3)) aNil))) rfl rfl)) (vOne (pOfC (cCall (S := (S__law_pieces)) (ok__law_pieces T) (hr.mono (by decide)) (by rfl) (by exact T.m__law_pieces) (by exact T.k__law_pieces) (by exact T.b__law_pieces) (aCons (cV 2 rfl (by decide) (pv 2)) aNil) rfl rfl))))))) rfl)))))))
end
end LawK02

set_option Elab.async false
set_option linter.all false
set_option maxRecDepth 100000
set_option maxHeartbeats 4000000
namespace LawK02
open PySem PySem.Spec PyProof.Rows L2 Pv
theorem all_mk {l : PySem.W.OpenLaw} {w : World} {K : PySem.W.Frag} {h : Heap} {mg : Str → Option Value} {fa : Addr} (X : K.In h) (G : h.Ns mainGlobals mg) (hfa : mg "law" = some (.ref fa))
    {a0 : Addr} {od0 an0 : Option Addr} {sl0 : Array (Option Value)} {oc0 kV0 dc0 pm0 cd0 ct0 : Value} (n0 : PySem.W.nsIn K mainGlobals "word_bonds" = some (some (.ref a0))) (l0 : K.lookup a0 = some ⟨oc0, od0, .func (PySem.W.fnOf "word_bonds" "word_bonds" (defArgs st_word_bonds) (defBody st_word_bonds) (defScope st_word_bonds) .none kV0 dc0 pm0 an0 cd0 ct0), sl0⟩) (c0 : PySem.W.codeIn K cd0 "word_bonds" = true) (k0 : PySem.W.keepIn K (.ref a0) = true)
    {a1 : Addr} {od1 an1 : Option Addr} {sl1 : Array (Option Value)} {oc1 kV1 dc1 pm1 cd1 ct1 : Value} (n1 : PySem.W.nsIn K mainGlobals "piece_by" = some (some (.ref a1))) (l1 : K.lookup a1 = some ⟨oc1, od1, .func (PySem.W.fnOf "piece_by" "piece_by" (defArgs st_piece_by) (defBody st_piece_by) (defScope st_piece_by) .none kV1 dc1 pm1 an1 cd1 ct1), sl1⟩) (c1 : PySem.W.codeIn K cd1 "piece_by" = true) (k1 : PySem.W.keepIn K (.ref a1) = true)
    {a2 : Addr} {od2 an2 : Option Addr} {sl2 : Array (Option Value)} {oc2 kV2 dc2 pm2 cd2 ct2 : Value} (n2 : PySem.W.nsIn K mainGlobals "is_integer" = some (some (.ref a2))) (l2 : K.lookup a2 = some ⟨oc2, od2, .func (PySem.W.fnOf "is_integer" "is_integer" (defArgs st_is_integer) (defBody st_is_integer) (defScope st_is_integer) .none kV2 dc2 pm2 an2 cd2 ct2), sl2⟩) (c2 : PySem.W.codeIn K cd2 "is_integer" = true) (k2 : PySem.W.keepIn K (.ref a2) = true)
    {a3 : Addr} {od3 an3 : Option Addr} {sl3 : Array (Option Value)} {oc3 kV3 dc3 pm3 cd3 ct3 : Value} (n3 : PySem.W.nsIn K mainGlobals "_law_mix" = some (some (.ref a3))) (l3 : K.lookup a3 = some ⟨oc3, od3, .func (PySem.W.fnOf "_law_mix" "_law_mix" (defArgs st__law_mix) (defBody st__law_mix) (defScope st__law_mix) .none kV3 dc3 pm3 an3 cd3 ct3), sl3⟩) (c3 : PySem.W.codeIn K cd3 "_law_mix" = true) (k3 : PySem.W.keepIn K (.ref a3) = true)
    {a4 : Addr} {od4 an4 : Option Addr} {sl4 : Array (Option Value)} {oc4 kV4 dc4 pm4 cd4 ct4 : Value} (n4 : PySem.W.nsIn K mainGlobals "_law_pick" = some (some (.ref a4))) (l4 : K.lookup a4 = some ⟨oc4, od4, .func (PySem.W.fnOf "_law_pick" "_law_pick" (defArgs st__law_pick) (defBody st__law_pick) (defScope st__law_pick) .none kV4 dc4 pm4 an4 cd4 ct4), sl4⟩) (c4 : PySem.W.codeIn K cd4 "_law_pick" = true) (k4 : PySem.W.keepIn K (.ref a4) = true)
    {a5 : Addr} {od5 an5 : Option Addr} {sl5 : Array (Option Value)} {oc5 kV5 dc5 pm5 cd5 ct5 : Value} (n5 : PySem.W.nsIn K mainGlobals "_law_across" = some (some (.ref a5))) (l5 : K.lookup a5 = some ⟨oc5, od5, .func (PySem.W.fnOf "_law_across" "_law_across" (defArgs st__law_across) (defBody st__law_across) (defScope st__law_across) .none kV5 dc5 pm5 an5 cd5 ct5), sl5⟩) (c5 : PySem.W.codeIn K cd5 "_law_across" = true) (k5 : PySem.W.keepIn K (.ref a5) = true)
    {a6 : Addr} {od6 an6 : Option Addr} {sl6 : Array (Option Value)} {oc6 kV6 dc6 pm6 cd6 ct6 : Value} (n6 : PySem.W.nsIn K mainGlobals "_law_parted" = some (some (.ref a6))) (l6 : K.lookup a6 = some ⟨oc6, od6, .func (PySem.W.fnOf "_law_parted" "_law_parted" (defArgs st__law_parted) (defBody st__law_parted) (defScope st__law_parted) .none kV6 dc6 pm6 an6 cd6 ct6), sl6⟩) (c6 : PySem.W.codeIn K cd6 "_law_parted" = true) (k6 : PySem.W.keepIn K (.ref a6) = true)
    {a7 : Addr} {od7 an7 : Option Addr} {sl7 : Array (Option Value)} {oc7 kV7 dc7 pm7 cd7 ct7 : Value} (n7 : PySem.W.nsIn K mainGlobals "_law_grown" = some (some (.ref a7))) (l7 : K.lookup a7 = some ⟨oc7, od7, .func (PySem.W.fnOf "_law_grown" "_law_grown" (defArgs st__law_grown) (defBody st__law_grown) (defScope st__law_grown) .none kV7 dc7 pm7 an7 cd7 ct7), sl7⟩) (c7 : PySem.W.codeIn K cd7 "_law_grown" = true) (k7 : PySem.W.keepIn K (.ref a7) = true)
    {a8 : Addr} {od8 an8 : Option Addr} {sl8 : Array (Option Value)} {oc8 kV8 dc8 pm8 cd8 ct8 : Value} (n8 : PySem.W.nsIn K mainGlobals "is_number" = some (some (.ref a8))) (l8 : K.lookup a8 = some ⟨oc8, od8, .func (PySem.W.fnOf "is_number" "is_number" (defArgs st_is_number) (defBody st_is_number) (defScope st_is_number) .none kV8 dc8 pm8 an8 cd8 ct8), sl8⟩) (c8 : PySem.W.codeIn K cd8 "is_number" = true) (k8 : PySem.W.keepIn K (.ref a8) = true)
    {a9 : Addr} {od9 an9 : Option Addr} {sl9 : Array (Option Value)} {oc9 kV9 dc9 pm9 cd9 ct9 : Value} (n9 : PySem.W.nsIn K mainGlobals "pieces_of" = some (some (.ref a9))) (l9 : K.lookup a9 = some ⟨oc9, od9, .func (PySem.W.fnOf "pieces_of" "pieces_of" (defArgs st_pieces_of) (defBody st_pieces_of) (defScope st_pieces_of) .none kV9 dc9 pm9 an9 cd9 ct9), sl9⟩) (c9 : PySem.W.codeIn K cd9 "pieces_of" = true) (k9 : PySem.W.keepIn K (.ref a9) = true)
    {a10 : Addr} {od10 an10 : Option Addr} {sl10 : Array (Option Value)} {oc10 kV10 dc10 pm10 cd10 ct10 : Value} (n10 : PySem.W.nsIn K mainGlobals "_law_cells" = some (some (.ref a10))) (l10 : K.lookup a10 = some ⟨oc10, od10, .func (PySem.W.fnOf "_law_cells" "_law_cells" (defArgs st__law_cells) (defBody st__law_cells) (defScope st__law_cells) .none kV10 dc10 pm10 an10 cd10 ct10), sl10⟩) (c10 : PySem.W.codeIn K cd10 "_law_cells" = true) (k10 : PySem.W.keepIn K (.ref a10) = true)
    {a11 : Addr} {od11 an11 : Option Addr} {sl11 : Array (Option Value)} {oc11 kV11 dc11 pm11 cd11 ct11 : Value} (n11 : PySem.W.nsIn K mainGlobals "_law_dealt" = some (some (.ref a11))) (l11 : K.lookup a11 = some ⟨oc11, od11, .func (PySem.W.fnOf "_law_dealt" "_law_dealt" (defArgs st__law_dealt) (defBody st__law_dealt) (defScope st__law_dealt) .none kV11 dc11 pm11 an11 cd11 ct11), sl11⟩) (c11 : PySem.W.codeIn K cd11 "_law_dealt" = true) (k11 : PySem.W.keepIn K (.ref a11) = true)
    {a12 : Addr} {od12 an12 : Option Addr} {sl12 : Array (Option Value)} {oc12 kV12 dc12 pm12 cd12 ct12 : Value} (n12 : PySem.W.nsIn K mainGlobals "_law_lot" = some (some (.ref a12))) (l12 : K.lookup a12 = some ⟨oc12, od12, .func (PySem.W.fnOf "_law_lot" "_law_lot" (defArgs st__law_lot) (defBody st__law_lot) (defScope st__law_lot) .none kV12 dc12 pm12 an12 cd12 ct12), sl12⟩) (c12 : PySem.W.codeIn K cd12 "_law_lot" = true) (k12 : PySem.W.keepIn K (.ref a12) = true)
    {a13 : Addr} {od13 an13 : Option Addr} {sl13 : Array (Option Value)} {oc13 kV13 dc13 pm13 cd13 ct13 : Value} (n13 : PySem.W.nsIn K mainGlobals "is_word" = some (some (.ref a13))) (l13 : K.lookup a13 = some ⟨oc13, od13, .func (PySem.W.fnOf "is_word" "is_word" (defArgs st_is_word) (defBody st_is_word) (defScope st_is_word) .none kV13 dc13 pm13 an13 cd13 ct13), sl13⟩) (c13 : PySem.W.codeIn K cd13 "is_word" = true) (k13 : PySem.W.keepIn K (.ref a13) = true)
    {a14 : Addr} {od14 an14 : Option Addr} {sl14 : Array (Option Value)} {oc14 kV14 dc14 pm14 cd14 ct14 : Value} (n14 : PySem.W.nsIn K mainGlobals "_law_ring" = some (some (.ref a14))) (l14 : K.lookup a14 = some ⟨oc14, od14, .func (PySem.W.fnOf "_law_ring" "_law_ring" (defArgs st__law_ring) (defBody st__law_ring) (defScope st__law_ring) .none kV14 dc14 pm14 an14 cd14 ct14), sl14⟩) (c14 : PySem.W.codeIn K cd14 "_law_ring" = true) (k14 : PySem.W.keepIn K (.ref a14) = true)
    {a15 : Addr} {od15 an15 : Option Addr} {sl15 : Array (Option Value)} {oc15 kV15 dc15 pm15 cd15 ct15 : Value} (n15 : PySem.W.nsIn K mainGlobals "is_lot" = some (some (.ref a15))) (l15 : K.lookup a15 = some ⟨oc15, od15, .func (PySem.W.fnOf "is_lot" "is_lot" (defArgs st_is_lot) (defBody st_is_lot) (defScope st_is_lot) .none kV15 dc15 pm15 an15 cd15 ct15), sl15⟩) (c15 : PySem.W.codeIn K cd15 "is_lot" = true) (k15 : PySem.W.keepIn K (.ref a15) = true)
    {a16 : Addr} {od16 an16 : Option Addr} {sl16 : Array (Option Value)} {oc16 kV16 dc16 pm16 cd16 ct16 : Value} (n16 : PySem.W.nsIn K mainGlobals "from_word" = some (some (.ref a16))) (l16 : K.lookup a16 = some ⟨oc16, od16, .func (PySem.W.fnOf "from_word" "from_word" (defArgs st_from_word) (defBody st_from_word) (defScope st_from_word) .none kV16 dc16 pm16 an16 cd16 ct16), sl16⟩) (c16 : PySem.W.codeIn K cd16 "from_word" = true) (k16 : PySem.W.keepIn K (.ref a16) = true)
    {a17 : Addr} {od17 an17 : Option Addr} {sl17 : Array (Option Value)} {oc17 kV17 dc17 pm17 cd17 ct17 : Value} (n17 : PySem.W.nsIn K mainGlobals "to_word" = some (some (.ref a17))) (l17 : K.lookup a17 = some ⟨oc17, od17, .func (PySem.W.fnOf "to_word" "to_word" (defArgs st_to_word) (defBody st_to_word) (defScope st_to_word) .none kV17 dc17 pm17 an17 cd17 ct17), sl17⟩) (c17 : PySem.W.codeIn K cd17 "to_word" = true) (k17 : PySem.W.keepIn K (.ref a17) = true)
    {a18 : Addr} {od18 an18 : Option Addr} {sl18 : Array (Option Value)} {oc18 kV18 dc18 pm18 cd18 ct18 : Value} (n18 : PySem.W.nsIn K mainGlobals "_law_side_by_side" = some (some (.ref a18))) (l18 : K.lookup a18 = some ⟨oc18, od18, .func (PySem.W.fnOf "_law_side_by_side" "_law_side_by_side" (defArgs st__law_side_by_side) (defBody st__law_side_by_side) (defScope st__law_side_by_side) .none kV18 dc18 pm18 an18 cd18 ct18), sl18⟩) (c18 : PySem.W.codeIn K cd18 "_law_side_by_side" = true) (k18 : PySem.W.keepIn K (.ref a18) = true)
    {a19 : Addr} {od19 an19 : Option Addr} {sl19 : Array (Option Value)} {oc19 kV19 dc19 pm19 cd19 ct19 : Value} (n19 : PySem.W.nsIn K mainGlobals "within" = some (some (.ref a19))) (l19 : K.lookup a19 = some ⟨oc19, od19, .func (PySem.W.fnOf "within" "within" (defArgs st_within) (defBody st_within) (defScope st_within) .none kV19 dc19 pm19 an19 cd19 ct19), sl19⟩) (c19 : PySem.W.codeIn K cd19 "within" = true) (k19 : PySem.W.keepIn K (.ref a19) = true)
    {a20 : Addr} {od20 an20 : Option Addr} {sl20 : Array (Option Value)} {oc20 kV20 dc20 pm20 cd20 ct20 : Value} (n20 : PySem.W.nsIn K mainGlobals "leaving" = some (some (.ref a20))) (l20 : K.lookup a20 = some ⟨oc20, od20, .func (PySem.W.fnOf "leaving" "leaving" (defArgs st_leaving) (defBody st_leaving) (defScope st_leaving) .none kV20 dc20 pm20 an20 cd20 ct20), sl20⟩) (c20 : PySem.W.codeIn K cd20 "leaving" = true) (k20 : PySem.W.keepIn K (.ref a20) = true)
    {a21 : Addr} {od21 an21 : Option Addr} {sl21 : Array (Option Value)} {oc21 kV21 dc21 pm21 cd21 ct21 : Value} (n21 : PySem.W.nsIn K mainGlobals "entering" = some (some (.ref a21))) (l21 : K.lookup a21 = some ⟨oc21, od21, .func (PySem.W.fnOf "entering" "entering" (defArgs st_entering) (defBody st_entering) (defScope st_entering) .none kV21 dc21 pm21 an21 cd21 ct21), sl21⟩) (c21 : PySem.W.codeIn K cd21 "entering" = true) (k21 : PySem.W.keepIn K (.ref a21) = true)
    {a22 : Addr} {od22 an22 : Option Addr} {sl22 : Array (Option Value)} {oc22 kV22 dc22 pm22 cd22 ct22 : Value} (n22 : PySem.W.nsIn K mainGlobals "fan_of" = some (some (.ref a22))) (l22 : K.lookup a22 = some ⟨oc22, od22, .func (PySem.W.fnOf "fan_of" "fan_of" (defArgs st_fan_of) (defBody st_fan_of) (defScope st_fan_of) .none kV22 dc22 pm22 an22 cd22 ct22), sl22⟩) (c22 : PySem.W.codeIn K cd22 "fan_of" = true) (k22 : PySem.W.keepIn K (.ref a22) = true)
    {a23 : Addr} {od23 an23 : Option Addr} {sl23 : Array (Option Value)} {oc23 kV23 dc23 pm23 cd23 ct23 : Value} (n23 : PySem.W.nsIn K mainGlobals "ends_of" = some (some (.ref a23))) (l23 : K.lookup a23 = some ⟨oc23, od23, .func (PySem.W.fnOf "ends_of" "ends_of" (defArgs st_ends_of) (defBody st_ends_of) (defScope st_ends_of) .none kV23 dc23 pm23 an23 cd23 ct23), sl23⟩) (c23 : PySem.W.codeIn K cd23 "ends_of" = true) (k23 : PySem.W.keepIn K (.ref a23) = true)
    {a24 : Addr} {od24 an24 : Option Addr} {sl24 : Array (Option Value)} {oc24 kV24 dc24 pm24 cd24 ct24 : Value} (n24 : PySem.W.nsIn K mainGlobals "_law_heap" = some (some (.ref a24))) (l24 : K.lookup a24 = some ⟨oc24, od24, .func (PySem.W.fnOf "_law_heap" "_law_heap" (defArgs st__law_heap) (defBody st__law_heap) (defScope st__law_heap) .none kV24 dc24 pm24 an24 cd24 ct24), sl24⟩) (c24 : PySem.W.codeIn K cd24 "_law_heap" = true) (k24 : PySem.W.keepIn K (.ref a24) = true)
    {a25 : Addr} {od25 an25 : Option Addr} {sl25 : Array (Option Value)} {oc25 kV25 dc25 pm25 cd25 ct25 : Value} (n25 : PySem.W.nsIn K mainGlobals "gates_of" = some (some (.ref a25))) (l25 : K.lookup a25 = some ⟨oc25, od25, .func (PySem.W.fnOf "gates_of" "gates_of" (defArgs st_gates_of) (defBody st_gates_of) (defScope st_gates_of) .none kV25 dc25 pm25 an25 cd25 ct25), sl25⟩) (c25 : PySem.W.codeIn K cd25 "gates_of" = true) (k25 : PySem.W.keepIn K (.ref a25) = true)
    {a26 : Addr} {od26 an26 : Option Addr} {sl26 : Array (Option Value)} {oc26 kV26 dc26 pm26 cd26 ct26 : Value} (n26 : PySem.W.nsIn K mainGlobals "hangs_together" = some (some (.ref a26))) (l26 : K.lookup a26 = some ⟨oc26, od26, .func (PySem.W.fnOf "hangs_together" "hangs_together" (defArgs st_hangs_together) (defBody st_hangs_together) (defScope st_hangs_together) .none kV26 dc26 pm26 an26 cd26 ct26), sl26⟩) (c26 : PySem.W.codeIn K cd26 "hangs_together" = true) (k26 : PySem.W.keepIn K (.ref a26) = true)
    {a27 : Addr} {od27 an27 : Option Addr} {sl27 : Array (Option Value)} {oc27 kV27 dc27 pm27 cd27 ct27 : Value} (n27 : PySem.W.nsIn K mainGlobals "surplus_of" = some (some (.ref a27))) (l27 : K.lookup a27 = some ⟨oc27, od27, .func (PySem.W.fnOf "surplus_of" "surplus_of" (defArgs st_surplus_of) (defBody st_surplus_of) (defScope st_surplus_of) .none kV27 dc27 pm27 an27 cd27 ct27), sl27⟩) (c27 : PySem.W.codeIn K cd27 "surplus_of" = true) (k27 : PySem.W.keepIn K (.ref a27) = true)
    {a28 : Addr} {od28 an28 : Option Addr} {sl28 : Array (Option Value)} {oc28 kV28 dc28 pm28 cd28 ct28 : Value} (n28 : PySem.W.nsIn K mainGlobals "_law_same" = some (some (.ref a28))) (l28 : K.lookup a28 = some ⟨oc28, od28, .func (PySem.W.fnOf "_law_same" "_law_same" (defArgs st__law_same) (defBody st__law_same) (defScope st__law_same) .none kV28 dc28 pm28 an28 cd28 ct28), sl28⟩) (c28 : PySem.W.codeIn K cd28 "_law_same" = true) (k28 : PySem.W.keepIn K (.ref a28) = true)
    {a29 : Addr} {od29 an29 : Option Addr} {sl29 : Array (Option Value)} {oc29 kV29 dc29 pm29 cd29 ct29 : Value} (n29 : PySem.W.nsIn K mainGlobals "_law_hangs" = some (some (.ref a29))) (l29 : K.lookup a29 = some ⟨oc29, od29, .func (PySem.W.fnOf "_law_hangs" "_law_hangs" (defArgs st__law_hangs) (defBody st__law_hangs) (defScope st__law_hangs) .none kV29 dc29 pm29 an29 cd29 ct29), sl29⟩) (c29 : PySem.W.codeIn K cd29 "_law_hangs" = true) (k29 : PySem.W.keepIn K (.ref a29) = true)
    {a30 : Addr} {od30 an30 : Option Addr} {sl30 : Array (Option Value)} {oc30 kV30 dc30 pm30 cd30 ct30 : Value} (n30 : PySem.W.nsIn K mainGlobals "_law_pieces" = some (some (.ref a30))) (l30 : K.lookup a30 = some ⟨oc30, od30, .func (PySem.W.fnOf "_law_pieces" "_law_pieces" (defArgs st__law_pieces) (defBody st__law_pieces) (defScope st__law_pieces) .none kV30 dc30 pm30 an30 cd30 ct30), sl30⟩) (c30 : PySem.W.codeIn K cd30 "_law_pieces" = true) (k30 : PySem.W.keepIn K (.ref a30) = true)
    {a31 : Addr} {od31 an31 : Option Addr} {sl31 : Array (Option Value)} {oc31 kV31 dc31 pm31 cd31 ct31 : Value} (n31 : PySem.W.nsIn K mainGlobals "_law_gates" = some (some (.ref a31))) (l31 : K.lookup a31 = some ⟨oc31, od31, .func (PySem.W.fnOf "_law_gates" "_law_gates" (defArgs st__law_gates) (defBody st__law_gates) (defScope st__law_gates) .none kV31 dc31 pm31 an31 cd31 ct31), sl31⟩) (c31 : PySem.W.codeIn K cd31 "_law_gates" = true) (k31 : PySem.W.keepIn K (.ref a31) = true)
    {a32 : Addr} {od32 an32 : Option Addr} {sl32 : Array (Option Value)} {oc32 kV32 dc32 pm32 cd32 ct32 : Value} (n32 : PySem.W.nsIn K mainGlobals "law" = some (some (.ref a32))) (l32 : K.lookup a32 = some ⟨oc32, od32, .func (PySem.W.fnOf "law" "law" (defArgs st_law) (defBody st_law) (defScope st_law) .none kV32 dc32 pm32 an32 cd32 ct32), sl32⟩) (c32 : PySem.W.codeIn K cd32 "law" = true) (k32 : PySem.W.keepIn K (.ref a32) = true)
    (z_abs : PySem.W.nsIn K mainGlobals "abs" = some none)
    (z_all : PySem.W.nsIn K mainGlobals "all" = some none)
    (z_bool : PySem.W.nsIn K mainGlobals "bool" = some none)
    (z_enumerate : PySem.W.nsIn K mainGlobals "enumerate" = some none)
    (z_int : PySem.W.nsIn K mainGlobals "int" = some none)
    (z_isinstance : PySem.W.nsIn K mainGlobals "isinstance" = some none)
    (z_len : PySem.W.nsIn K mainGlobals "len" = some none)
    (z_list : PySem.W.nsIn K mainGlobals "list" = some none)
    (z_range : PySem.W.nsIn K mainGlobals "range" = some none)
    (z_reversed : PySem.W.nsIn K mainGlobals "reversed" = some none)
    (z_sorted : PySem.W.nsIn K mainGlobals "sorted" = some none)
    (z_sum : PySem.W.nsIn K mainGlobals "sum" = some none)
    (z_tuple : PySem.W.nsIn K mainGlobals "tuple" = some none) :
    ∃ fd : FuncData, (∀ (s : Shared) (v : Value), BindsTo s fd ⟨[v], []⟩ [("_law_script", v)]) ∧ ∀ base : Heap, K.In base → base.Ns mainGlobals mg → FnOk l.prog w K mg base CX0 9 fa fd ["_law_script"] (spF K S_law) := by
  have e := Value.ref.inj (Option.some.inj (hfa.symm.trans (PySem.W.mg_of X G n32)))
  rw [e]
  exact ⟨PySem.W.fnOf "law" "law" (defArgs st_law) (defBody st_law) (defScope st_law) .none kV32 dc32 pm32 an32 cd32 ct32, fun s v => .of_eq rfl, fun base _ _ => ok_law (P := l.prog) (w := w) (base := base) ({ a_word_bonds := a0, d_word_bonds := PySem.W.fnOf "word_bonds" "word_bonds" (defArgs st_word_bonds) (defBody st_word_bonds) (defScope st_word_bonds) .none kV0 dc0 pm0 an0 cd0 ct0, m_word_bonds := PySem.W.mg_of X G n0, k_word_bonds := k0, f_word_bonds := fun_mk (st := st_word_bonds) l0 c0 k0, b_word_bonds := (fun_mk (st := st_word_bonds) l0 c0 k0).binds (ps := ["leaves"]) (fun _ _ _ _ _ _ us hl => match us, hl with | [_], _ => rfl), a_piece_by := a1, d_piece_by := PySem.W.fnOf "piece_by" "piece_by" (defArgs st_piece_by) (defBody st_piece_by) (defScope st_piece_by) .none kV1 dc1 pm1 an1 cd1 ct1, m_piece_by := PySem.W.mg_of X G n1, k_piece_by := k1, f_piece_by := fun_mk (st := st_piece_by) l1 c1 k1, b_piece_by := (fun_mk (st := st_piece_by) l1 c1 k1).binds (ps := ["bonds", "start"]) (fun _ _ _ _ _ _ us hl => match us, hl with | [_, _], _ => rfl), a_is_integer := a2, d_is_integer := PySem.W.fnOf "is_integer" "is_integer" (defArgs st_is_integer) (defBody st_is_integer) (defScope st_is_integer) .none kV2 dc2 pm2 an2 cd2 ct2, m_is_integer := PySem.W.mg_of X G n2, k_is_integer := k2, f_is_integer := fun_mk (st := st_is_integer) l2 c2 k2, b_is_integer := (fun_mk (st := st_is_integer) l2 c2 k2).binds (ps := ["thing"]) (fun _ _ _ _ _ _ us hl => match us, hl with | [_], _ => rfl), a__law_mix := a3, d__law_mix := PySem.W.fnOf "_law_mix" "_law_mix" (defArgs st__law_mix) (defBody st__law_mix) (defScope st__law_mix) .none kV3 dc3 pm3 an3 cd3 ct3, m__law_mix := PySem.W.mg_of X G n3, k__law_mix := k3, f__law_mix := fun_mk (st := st__law_mix) l3 c3 k3, b__law_mix := (fun_mk (st := st__law_mix) l3 c3 k3).binds (ps := ["_law_cell", "_law_k"]) (fun _ _ _ _ _ _ us hl => match us, hl with | [_, _], _ => rfl), a__law_pick := a4, d__law_pick := PySem.W.fnOf "_law_pick" "_law_pick" (defArgs st__law_pick) (defBody st__law_pick) (defScope st__law_pick) .none kV4 dc4 pm4 an4 cd4 ct4, m__law_pick := PySem.W.mg_of X G n4, k__law_pick := k4, f__law_pick := fun_mk (st := st__law_pick) l4 c4 k4, b__law_pick := (fun_mk (st := st__law_pick) l4 c4 k4).binds (ps := ["_law_cells_here", "_law_limit"]) (fun _ _ _ _ _ _ us hl => match us, hl with | [_, _], _ => rfl), a__law_across := a5, d__law_across := PySem.W.fnOf "_law_across" "_law_across" (defArgs st__law_across) (defBody st__law_across) (defScope st__law_across) .none kV5 dc5 pm5 an5 cd5 ct5, m__law_across := PySem.W.mg_of X G n5, k__law_across := k5, f__law_across := fun_mk (st := st__law_across) l5 c5 k5, b__law_across := (fun_mk (st := st__law_across) l5 c5 k5).binds (ps := ["_law_pile", "_law_left", "_law_right"]) (fun _ _ _ _ _ _ us hl => match us, hl with | [_, _, _], _ => rfl), a__law_parted := a6, d__law_parted := PySem.W.fnOf "_law_parted" "_law_parted" (defArgs st__law_parted) (defBody st__law_parted) (defScope st__law_parted) .none kV6 dc6 pm6 an6 cd6 ct6, m__law_parted := PySem.W.mg_of X G n6, k__law_parted := k6, f__law_parted := fun_mk (st := st__law_parted) l6 c6 k6, b__law_parted := (fun_mk (st := st__law_parted) l6 c6 k6).binds (ps := ["_law_pile", "_law_part"]) (fun _ _ _ _ _ _ us hl => match us, hl with | [_, _], _ => rfl), a__law_grown := a7, d__law_grown := PySem.W.fnOf "_law_grown" "_law_grown" (defArgs st__law_grown) (defBody st__law_grown) (defScope st__law_grown) .none kV7 dc7 pm7 an7 cd7 ct7, m__law_grown := PySem.W.mg_of X G n7, k__law_grown := k7, f__law_grown := fun_mk (st := st__law_grown) l7 c7 k7, b__law_grown := (fun_mk (st := st__law_grown) l7 c7 k7).binds (ps := ["_law_pile", "_law_seed", "_law_part"]) (fun _ _ _ _ _ _ us hl => match us, hl with | [_, _, _], _ => rfl), a_is_number := a8, d_is_number := PySem.W.fnOf "is_number" "is_number" (defArgs st_is_number) (defBody st_is_number) (defScope st_is_number) .none kV8 dc8 pm8 an8 cd8 ct8, m_is_number := PySem.W.mg_of X G n8, k_is_number := k8, f_is_number := fun_mk (st := st_is_number) l8 c8 k8, b_is_number := (fun_mk (st := st_is_number) l8 c8 k8).binds (ps := ["thing"]) (fun _ _ _ _ _ _ us hl => match us, hl with | [_], _ => rfl), a_pieces_of := a9, d_pieces_of := PySem.W.fnOf "pieces_of" "pieces_of" (defArgs st_pieces_of) (defBody st_pieces_of) (defScope st_pieces_of) .none kV9 dc9 pm9 an9 cd9 ct9, m_pieces_of := PySem.W.mg_of X G n9, k_pieces_of := k9, f_pieces_of := fun_mk (st := st_pieces_of) l9 c9 k9, b_pieces_of := (fun_mk (st := st_pieces_of) l9 c9 k9).binds (ps := ["heap"]) (fun _ _ _ _ _ _ us hl => match us, hl with | [_], _ => rfl), kb_pieces_of_heap := KwB.of (fun ws hl => match ws, hl with | [_], _ => rfl), a__law_cells := a10, d__law_cells := PySem.W.fnOf "_law_cells" "_law_cells" (defArgs st__law_cells) (defBody st__law_cells) (defScope st__law_cells) .none kV10 dc10 pm10 an10 cd10 ct10, m__law_cells := PySem.W.mg_of X G n10, k__law_cells := k10, f__law_cells := fun_mk (st := st__law_cells) l10 c10 k10, b__law_cells := (fun_mk (st := st__law_cells) l10 c10 k10).binds (ps := ["_law_script", "_law_many_more"]) (fun _ _ _ _ _ _ us hl => match us, hl with | [_, _], _ => rfl), a__law_dealt := a11, d__law_dealt := PySem.W.fnOf "_law_dealt" "_law_dealt" (defArgs st__law_dealt) (defBody st__law_dealt) (defScope st__law_dealt) .none kV11 dc11 pm11 an11 cd11 ct11, m__law_dealt := PySem.W.mg_of X G n11, k__law_dealt := k11, f__law_dealt := fun_mk (st := st__law_dealt) l11 c11 k11, b__law_dealt := (fun_mk (st := st__law_dealt) l11 c11 k11).binds (ps := ["_law_cells_here", "_law_things"]) (fun _ _ _ _ _ _ us hl => match us, hl with | [_, _], _ => rfl), a__law_lot := a12, d__law_lot := PySem.W.fnOf "_law_lot" "_law_lot" (defArgs st__law_lot) (defBody st__law_lot) (defScope st__law_lot) .none kV12 dc12 pm12 an12 cd12 ct12, m__law_lot := PySem.W.mg_of X G n12, k__law_lot := k12, f__law_lot := fun_mk (st := st__law_lot) l12 c12 k12, b__law_lot := (fun_mk (st := st__law_lot) l12 c12 k12).binds (ps := ["_law_cells_here", "_law_pile"]) (fun _ _ _ _ _ _ us hl => match us, hl with | [_, _], _ => rfl), a_is_word := a13, d_is_word := PySem.W.fnOf "is_word" "is_word" (defArgs st_is_word) (defBody st_is_word) (defScope st_is_word) .none kV13 dc13 pm13 an13 cd13 ct13, m_is_word := PySem.W.mg_of X G n13, k_is_word := k13, f_is_word := fun_mk (st := st_is_word) l13 c13 k13, b_is_word := (fun_mk (st := st_is_word) l13 c13 k13).binds (ps := ["heap", "thing"]) (fun _ _ _ _ _ _ us hl => match us, hl with | [_, _], _ => rfl), a__law_ring := a14, d__law_ring := PySem.W.fnOf "_law_ring" "_law_ring" (defArgs st__law_ring) (defBody st__law_ring) (defScope st__law_ring) .none kV14 dc14 pm14 an14 cd14 ct14, m__law_ring := PySem.W.mg_of X G n14, k__law_ring := k14, f__law_ring := fun_mk (st := st__law_ring) l14 c14 k14, b__law_ring := (fun_mk (st := st__law_ring) l14 c14 k14).binds (ps := ["_law_cells_here", "_law_size", "_law_extra"]) (fun _ _ _ _ _ _ us hl => match us, hl with | [_, _, _], _ => rfl), a_is_lot := a15, d_is_lot := PySem.W.fnOf "is_lot" "is_lot" (defArgs st_is_lot) (defBody st_is_lot) (defScope st_is_lot) .none kV15 dc15 pm15 an15 cd15 ct15, m_is_lot := PySem.W.mg_of X G n15, k_is_lot := k15, f_is_lot := fun_mk (st := st_is_lot) l15 c15 k15, b_is_lot := (fun_mk (st := st_is_lot) l15 c15 k15).binds (ps := ["heap", "thing"]) (fun _ _ _ _ _ _ us hl => match us, hl with | [_, _], _ => rfl), a_from_word := a16, d_from_word := PySem.W.fnOf "from_word" "from_word" (defArgs st_from_word) (defBody st_from_word) (defScope st_from_word) .none kV16 dc16 pm16 an16 cd16 ct16, m_from_word := PySem.W.mg_of X G n16, k_from_word := k16, f_from_word := fun_mk (st := st_from_word) l16 c16 k16, b_from_word := (fun_mk (st := st_from_word) l16 c16 k16).binds (ps := ["heap", "word"]) (fun _ _ _ _ _ _ us hl => match us, hl with | [_, _], _ => rfl), a_to_word := a17, d_to_word := PySem.W.fnOf "to_word" "to_word" (defArgs st_to_word) (defBody st_to_word) (defScope st_to_word) .none kV17 dc17 pm17 an17 cd17 ct17, m_to_word := PySem.W.mg_of X G n17, k_to_word := k17, f_to_word := fun_mk (st := st_to_word) l17 c17 k17, b_to_word := (fun_mk (st := st_to_word) l17 c17 k17).binds (ps := ["heap", "word"]) (fun _ _ _ _ _ _ us hl => match us, hl with | [_, _], _ => rfl), a__law_side_by_side := a18, d__law_side_by_side := PySem.W.fnOf "_law_side_by_side" "_law_side_by_side" (defArgs st__law_side_by_side) (defBody st__law_side_by_side) (defScope st__law_side_by_side) .none kV18 dc18 pm18 an18 cd18 ct18, m__law_side_by_side := PySem.W.mg_of X G n18, k__law_side_by_side := k18, f__law_side_by_side := fun_mk (st := st__law_side_by_side) l18 c18 k18, b__law_side_by_side := (fun_mk (st := st__law_side_by_side) l18 c18 k18).binds (ps := ["_law_cells_here", "_law_parts"]) (fun _ _ _ _ _ _ us hl => match us, hl with | [_, _], _ => rfl), a_within := a19, d_within := PySem.W.fnOf "within" "within" (defArgs st_within) (defBody st_within) (defScope st_within) .none kV19 dc19 pm19 an19 cd19 ct19, m_within := PySem.W.mg_of X G n19, k_within := k19, f_within := fun_mk (st := st_within) l19 c19 k19, b_within := (fun_mk (st := st_within) l19 c19 k19).binds (ps := ["heap", "lot"]) (fun _ _ _ _ _ _ us hl => match us, hl with | [_, _], _ => rfl), a_leaving := a20, d_leaving := PySem.W.fnOf "leaving" "leaving" (defArgs st_leaving) (defBody st_leaving) (defScope st_leaving) .none kV20 dc20 pm20 an20 cd20 ct20, m_leaving := PySem.W.mg_of X G n20, k_leaving := k20, f_leaving := fun_mk (st := st_leaving) l20 c20 k20, b_leaving := (fun_mk (st := st_leaving) l20 c20 k20).binds (ps := ["heap", "lot"]) (fun _ _ _ _ _ _ us hl => match us, hl with | [_, _], _ => rfl), a_entering := a21, d_entering := PySem.W.fnOf "entering" "entering" (defArgs st_entering) (defBody st_entering) (defScope st_entering) .none kV21 dc21 pm21 an21 cd21 ct21, m_entering := PySem.W.mg_of X G n21, k_entering := k21, f_entering := fun_mk (st := st_entering) l21 c21 k21, b_entering := (fun_mk (st := st_entering) l21 c21 k21).binds (ps := ["heap", "lot"]) (fun _ _ _ _ _ _ us hl => match us, hl with | [_, _], _ => rfl), kb_entering_lot_heap := KwB.of (fun ws hl => match ws, hl with | [_, _], _ => rfl), a_fan_of := a22, d_fan_of := PySem.W.fnOf "fan_of" "fan_of" (defArgs st_fan_of) (defBody st_fan_of) (defScope st_fan_of) .none kV22 dc22 pm22 an22 cd22 ct22, m_fan_of := PySem.W.mg_of X G n22, k_fan_of := k22, f_fan_of := fun_mk (st := st_fan_of) l22 c22 k22, b_fan_of := (fun_mk (st := st_fan_of) l22 c22 k22).binds (ps := ["heap", "word"]) (fun _ _ _ _ _ _ us hl => match us, hl with | [_, _], _ => rfl), a_ends_of := a23, d_ends_of := PySem.W.fnOf "ends_of" "ends_of" (defArgs st_ends_of) (defBody st_ends_of) (defScope st_ends_of) .none kV23 dc23 pm23 an23 cd23 ct23, m_ends_of := PySem.W.mg_of X G n23, k_ends_of := k23, f_ends_of := fun_mk (st := st_ends_of) l23 c23 k23, b_ends_of := (fun_mk (st := st_ends_of) l23 c23 k23).binds (ps := ["heap", "word"]) (fun _ _ _ _ _ _ us hl => match us, hl with | [_, _], _ => rfl), a__law_heap := a24, d__law_heap := PySem.W.fnOf "_law_heap" "_law_heap" (defArgs st__law_heap) (defBody st__law_heap) (defScope st__law_heap) .none kV24 dc24 pm24 an24 cd24 ct24, m__law_heap := PySem.W.mg_of X G n24, k__law_heap := k24, f__law_heap := fun_mk (st := st__law_heap) l24 c24 k24, b__law_heap := (fun_mk (st := st__law_heap) l24 c24 k24).binds (ps := ["_law_cells_here", "_law_kind"]) (fun _ _ _ _ _ _ us hl => match us, hl with | [_, _], _ => rfl), a_gates_of := a25, d_gates_of := PySem.W.fnOf "gates_of" "gates_of" (defArgs st_gates_of) (defBody st_gates_of) (defScope st_gates_of) .none kV25 dc25 pm25 an25 cd25 ct25, m_gates_of := PySem.W.mg_of X G n25, k_gates_of := k25, f_gates_of := fun_mk (st := st_gates_of) l25 c25 k25, b_gates_of := (fun_mk (st := st_gates_of) l25 c25 k25).binds (ps := ["heap", "lot"]) (fun _ _ _ _ _ _ us hl => match us, hl with | [_, _], _ => rfl), a_hangs_together := a26, d_hangs_together := PySem.W.fnOf "hangs_together" "hangs_together" (defArgs st_hangs_together) (defBody st_hangs_together) (defScope st_hangs_together) .none kV26 dc26 pm26 an26 cd26 ct26, m_hangs_together := PySem.W.mg_of X G n26, k_hangs_together := k26, f_hangs_together := fun_mk (st := st_hangs_together) l26 c26 k26, b_hangs_together := (fun_mk (st := st_hangs_together) l26 c26 k26).binds (ps := ["heap", "lot"]) (fun _ _ _ _ _ _ us hl => match us, hl with | [_, _], _ => rfl), a_surplus_of := a27, d_surplus_of := PySem.W.fnOf "surplus_of" "surplus_of" (defArgs st_surplus_of) (defBody st_surplus_of) (defScope st_surplus_of) .none kV27 dc27 pm27 an27 cd27 ct27, m_surplus_of := PySem.W.mg_of X G n27, k_surplus_of := k27, f_surplus_of := fun_mk (st := st_surplus_of) l27 c27 k27, b_surplus_of := (fun_mk (st := st_surplus_of) l27 c27 k27).binds (ps := ["heap", "word"]) (fun _ _ _ _ _ _ us hl => match us, hl with | [_, _], _ => rfl), a__law_same := a28, d__law_same := PySem.W.fnOf "_law_same" "_law_same" (defArgs st__law_same) (defBody st__law_same) (defScope st__law_same) .none kV28 dc28 pm28 an28 cd28 ct28, m__law_same := PySem.W.mg_of X G n28, k__law_same := k28, f__law_same := fun_mk (st := st__law_same) l28 c28 k28, b__law_same := (fun_mk (st := st__law_same) l28 c28 k28).binds (ps := ["_law_told", "_law_due"]) (fun _ _ _ _ _ _ us hl => match us, hl with | [_, _], _ => rfl), a__law_hangs := a29, d__law_hangs := PySem.W.fnOf "_law_hangs" "_law_hangs" (defArgs st__law_hangs) (defBody st__law_hangs) (defScope st__law_hangs) .none kV29 dc29 pm29 an29 cd29 ct29, m__law_hangs := PySem.W.mg_of X G n29, k__law_hangs := k29, f__law_hangs := fun_mk (st := st__law_hangs) l29 c29 k29, b__law_hangs := (fun_mk (st := st__law_hangs) l29 c29 k29).binds (ps := ["_law_pile", "_law_part"]) (fun _ _ _ _ _ _ us hl => match us, hl with | [_, _], _ => rfl), a__law_pieces := a30, d__law_pieces := PySem.W.fnOf "_law_pieces" "_law_pieces" (defArgs st__law_pieces) (defBody st__law_pieces) (defScope st__law_pieces) .none kV30 dc30 pm30 an30 cd30 ct30, m__law_pieces := PySem.W.mg_of X G n30, k__law_pieces := k30, f__law_pieces := fun_mk (st := st__law_pieces) l30 c30 k30, b__law_pieces := (fun_mk (st := st__law_pieces) l30 c30 k30).binds (ps := ["_law_pile"]) (fun _ _ _ _ _ _ us hl => match us, hl with | [_], _ => rfl), a__law_gates := a31, d__law_gates := PySem.W.fnOf "_law_gates" "_law_gates" (defArgs st__law_gates) (defBody st__law_gates) (defScope st__law_gates) .none kV31 dc31 pm31 an31 cd31 ct31, m__law_gates := PySem.W.mg_of X G n31, k__law_gates := k31, f__law_gates := fun_mk (st := st__law_gates) l31 c31 k31, b__law_gates := (fun_mk (st := st__law_gates) l31 c31 k31).binds (ps := ["_law_pile", "_law_left", "_law_right"]) (fun _ _ _ _ _ _ us hl => match us, hl with | [_, _, _], _ => rfl), a_law := a32, d_law := PySem.W.fnOf "law" "law" (defArgs st_law) (defBody st_law) (defScope st_law) .none kV32 dc32 pm32 an32 cd32 ct32, m_law := PySem.W.mg_of X G n32, k_law := k32, f_law := fun_mk (st := st_law) l32 c32 k32, b_law := (fun_mk (st := st_law) l32 c32 k32).binds (ps := ["_law_script"]) (fun _ _ _ _ _ _ us hl => match us, hl with | [_], _ => rfl), z_abs := PySem.W.mg_none_of X G z_abs, z_all := PySem.W.mg_none_of X G z_all, z_bool := PySem.W.mg_none_of X G z_bool, z_enumerate := PySem.W.mg_none_of X G z_enumerate, z_int := PySem.W.mg_none_of X G z_int, z_isinstance := PySem.W.mg_none_of X G z_isinstance, z_len := PySem.W.mg_none_of X G z_len, z_list := PySem.W.mg_none_of X G z_list, z_range := PySem.W.mg_none_of X G z_range, z_reversed := PySem.W.mg_none_of X G z_reversed, z_sorted := PySem.W.mg_none_of X G z_sorted, z_sum := PySem.W.mg_none_of X G z_sum, z_tuple := PySem.W.mg_none_of X G z_tuple } : Tx K mg)⟩
theorem walk {l : PySem.W.OpenLaw} {q : Program} {loose : List Str} {XP : (Str → Option Value) → Heap → Prop} {YP : World → Heap → Prop} {d : DefRec} {K : Params → PySem.W.Frag} (hn : l.most = some 63) (hdf : d.params.defaults = [])
    (hY : ∀ (w : World) (h : Heap), YP w h → (K w.params).In h)
    (F : ∀ (w : World) (mg : Str → Option Value) (fa : Addr) (h : Heap), (K w.params).In h → h.Ns mainGlobals mg → mg d.name = some (.ref fa) →
      ∃ fd : FuncData, (∀ (s : Shared) (u : Value), BindsTo s fd ⟨[u], []⟩ [("_law_script", u)]) ∧ ∀ base : Heap, (K w.params).In base → base.Ns mainGlobals mg → FnOk l.prog w (K w.params) mg base CX0 9 fa fd ["_law_script"] (spF (K w.params) S_law)) :
    PySem.W.WalkO q loose XP YP l.row.toRowW d [] (fun f vs => PySem.call f vs) :=
  L2.walk_of (n := 63) (k := 9) (x := "_law_script") (CX := fun _ => CX0) (sp := fun w => spF (K w.params) S_law) hn (by decide) hdf ⟨rfl, by decide, by decide⟩ hY F (fun _ H a ns hl _ hS => spF_law law_pure H a ns _ hl hS) fun _ _ _ _ _ z => z
end LawK02
open PySem PySem.W PyProof.Rows
set_option maxRecDepth 100000 in
set_option maxHeartbeats 0 in
theorem PySem.Challenge.cw_unsewn_k02_whole_gates_and_pieces_holds : PySem.Challenge.rw_unsewn_k02_whole_gates_and_pieces.Holds := by
  w_on; o_law; k_head; (case hw => w_witness2)
  k_fill
  refine LawK02.walk (l := PySem.Challenge.rw_unsewn_k02_whole_gates_and_pieces) rfl rfl (fun w h Y => PySem.W.kIn_of Y) ?F
  case F =>
    intro w mg fa h KX G hmg
    refine' LawK02.all_mk KX G hmg ?n0 ?l0 ?c0 ?k0 ?n1 ?l1 ?c1 ?k1 ?n2 ?l2 ?c2 ?k2 ?n3 ?l3 ?c3 ?k3 ?n4 ?l4 ?c4 ?k4 ?n5 ?l5 ?c5 ?k5 ?n6 ?l6 ?c6 ?k6 ?n7 ?l7 ?c7 ?k7 ?n8 ?l8 ?c8 ?k8 ?n9 ?l9 ?c9 ?k9 ?n10 ?l10 ?c10 ?k10 ?n11 ?l11 ?c11 ?k11 ?n12 ?l12 ?c12 ?k12 ?n13 ?l13 ?c13 ?k13 ?n14 ?l14 ?c14 ?k14 ?n15 ?l15 ?c15 ?k15 ?n16 ?l16 ?c16 ?k16 ?n17 ?l17 ?c17 ?k17 ?n18 ?l18 ?c18 ?k18 ?n19 ?l19 ?c19 ?k19 ?n20 ?l20 ?c20 ?k20 ?n21 ?l21 ?c21 ?k21 ?n22 ?l22 ?c22 ?k22 ?n23 ?l23 ?c23 ?k23 ?n24 ?l24 ?c24 ?k24 ?n25 ?l25 ?c25 ?k25 ?n26 ?l26 ?c26 ?k26 ?n27 ?l27 ?c27 ?k27 ?n28 ?l28 ?c28 ?k28 ?n29 ?l29 ?c29 ?k29 ?n30 ?l30 ?c30 ?k30 ?n31 ?l31 ?c31 ?k31 ?n32 ?l32 ?c32 ?k32 ?z_abs ?z_all ?z_bool ?z_enumerate ?z_int ?z_isinstance ?z_len ?z_list ?z_range ?z_reversed ?z_sorted ?z_sum ?z_tuple
    (case n0 => k_is); (case l0 => k_is); (case c0 => k_is); (case k0 => k_is)
    (case n1 => k_is); (case l1 => k_is); (case c1 => k_is); (case k1 => k_is)
    (case n2 => k_is); (case l2 => k_is); (case c2 => k_is); (case k2 => k_is)
    (case n3 => k_is); (case l3 => k_is); (case c3 => k_is); (case k3 => k_is)
    (case n4 => k_is); (case l4 => k_is); (case c4 => k_is); (case k4 => k_is)
    (case n5 => k_is); (case l5 => k_is); (case c5 => k_is); (case k5 => k_is)
    (case n6 => k_is); (case l6 => k_is); (case c6 => k_is); (case k6 => k_is)
    (case n7 => k_is); (case l7 => k_is); (case c7 => k_is); (case k7 => k_is)
    (case n8 => k_is); (case l8 => k_is); (case c8 => k_is); (case k8 => k_is)
    (case n9 => k_is); (case l9 => k_is); (case c9 => k_is); (case k9 => k_is)
    (case n10 => k_is); (case l10 => k_is); (case c10 => k_is); (case k10 => k_is)
    (case n11 => k_is); (case l11 => k_is); (case c11 => k_is); (case k11 => k_is)
    (case n12 => k_is); (case l12 => k_is); (case c12 => k_is); (case k12 => k_is)
    (case n13 => k_is); (case l13 => k_is); (case c13 => k_is); (case k13 => k_is)
    (case n14 => k_is); (case l14 => k_is); (case c14 => k_is); (case k14 => k_is)
    (case n15 => k_is); (case l15 => k_is); (case c15 => k_is); (case k15 => k_is)
    (case n16 => k_is); (case l16 => k_is); (case c16 => k_is); (case k16 => k_is)
    (case n17 => k_is); (case l17 => k_is); (case c17 => k_is); (case k17 => k_is)
    (case n18 => k_is); (case l18 => k_is); (case c18 => k_is); (case k18 => k_is)
    (case n19 => k_is); (case l19 => k_is); (case c19 => k_is); (case k19 => k_is)
    (case n20 => k_is); (case l20 => k_is); (case c20 => k_is); (case k20 => k_is)
    (case n21 => k_is); (case l21 => k_is); (case c21 => k_is); (case k21 => k_is)
    (case n22 => k_is); (case l22 => k_is); (case c22 => k_is); (case k22 => k_is)
    (case n23 => k_is); (case l23 => k_is); (case c23 => k_is); (case k23 => k_is)
    (case n24 => k_is); (case l24 => k_is); (case c24 => k_is); (case k24 => k_is)
    (case n25 => k_is); (case l25 => k_is); (case c25 => k_is); (case k25 => k_is)
    (case n26 => k_is); (case l26 => k_is); (case c26 => k_is); (case k26 => k_is)
    (case n27 => k_is); (case l27 => k_is); (case c27 => k_is); (case k27 => k_is)
    (case n28 => k_is); (case l28 => k_is); (case c28 => k_is); (case k28 => k_is)
    (case n29 => k_is); (case l29 => k_is); (case c29 => k_is); (case k29 => k_is)
    (case n30 => k_is); (case l30 => k_is); (case c30 => k_is); (case k30 => k_is)
    (case n31 => k_is); (case l31 => k_is); (case c31 => k_is); (case k31 => k_is)
    (case n32 => k_is); (case l32 => k_is); (case c32 => k_is); (case k32 => k_is)
    (case z_abs => k_is); (case z_all => k_is); (case z_bool => k_is); (case z_enumerate => k_is)
    (case z_int => k_is); (case z_isinstance => k_is); (case z_len => k_is); (case z_list => k_is)
    (case z_range => k_is); (case z_reversed => k_is); (case z_sorted => k_is); (case z_sum => k_is)
    (case z_tuple => k_is)

