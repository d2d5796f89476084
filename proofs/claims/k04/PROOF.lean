import PyProof.Rows.All
import HandS.ForMost
import HandS.ForExc
import HandS.Walk
import HandS.Deep
import HandS.Wide
import HandS.IsInst
import HandS.More
import KE.GoesMore
import HandS.Rev
import HandS.Conv
import HandS.SetKeys
import HandS.DictTup
import PyProof.DictMoreH
import HandS.SortInts
import HandS.Style
import HandS.ExcInit
import HandS.ExcField
import HandS.ExcOwn
import HandS.WordsExc
import HandS.TupAny
import HandS.DictComp
import Wide.All
import OpenK.AllK
import Wide.FinOn
import PySem.Challenge.RW_unsewn_k04_whole_turns_and_makings
set_option Elab.async false
set_option linter.all false
set_option maxRecDepth 100000
/-! Pv1: data by value over the abstract heap: what is shared (frozen for good), what a slot owns alone. -/
namespace Pv
open PySem PySem.Spec PyProof.Rows L2

abbrev D := PyData
/-- how a slot holds its value: not at all; shared data; a list of its own; a pair of its own; a dict of its own (keys ints and texts; tuples of them) -/
inductive T where
  | no | sh | ol (t : T) | pr (s t : T) | dk (t : T) | dt (t : T) | ex (a d : Addr)
  deriving DecidableEq
abbrev FzT := Addr → Prop
/-- a key's data -/
def kD : Key → D
  | .inl i => .int i
  | .inr x => .str x
def kTD (ks : List Key) : D := .tuple (ks.map kD)
/-- a dict's data, keys tuples: told apart by a first pair -/
abbrev tagT : D × D := (.bool true, .none)
abbrev dtD (kvd : List (D × D)) : D := .dict (tagT :: kvd)
/-- a caught exception's data: its fields -/
def exD (xs : List (Str × D)) : D := .dict (xs.map fun p => (.str p.1, p.2))
/-- what may change -/
def mutO : HO → Bool
  | .lst _ => true
  | .dK _ => true
  | .dT _ => true
  | _ => false

/-- a list of the written part -/
def KL (K : PySem.W.Frag) (a : Addr) (xs : List V) : Prop := ∃ (o : Obj) (its : Array Value) (n : Nat), K.lookup a = some o ∧ o.cls = .type "list" ∧ o.dict = none ∧ o.data = .seq its n ∧ its.size ≤ sizeLine ∧ Vals xs its.toList
/-- a list that stays -/
def FzL (K : PySem.W.Frag) (H : Hp) (Z : FzT) (a : Addr) (xs : List V) : Prop := (Z a ∧ Rd H a (.lst xs)) ∨ KL K a xs
theorem FzL.sql {K : PySem.W.Frag} {H : Hp} {Z : FzT} {a : Addr} {xs : List V} (h : FzL K H Z a xs) : SqL K H a xs := h.elim (fun h => .inl h.2) .inr
theorem FzL.mono {K : PySem.W.Frag} {H : Hp} {Z Z' : FzT} {a : Addr} {xs : List V} (m : ∀ a, Z a → Z' a) (h : FzL K H Z a xs) : FzL K H Z' a xs := h.imp (fun h => ⟨m _ h.1, h.2⟩) id
mutual
inductive Sh (K : PySem.W.Frag) (H : Hp) (Z : FzT) : V → D → Prop
  | non : Sh K H Z .non .none
  | bl (b : Bool) : Sh K H Z (.bl b) (.bool b)
  | int (i : Int) : Sh K H Z (.int i) (.int i)
  | str (x : Str) : Sh K H Z (.str x) (.str x)
  | lst {a : Addr} {xs : List V} {ds : List D} : FzL K H Z a xs → ShA K H Z xs ds → Sh K H Z (.ref a) (.list ds)
  | tup {a : Addr} {xs : List V} {ds : List D} : H a = some (.tup xs) → ShA K H Z xs ds → Sh K H Z (.ref a) (.tuple ds)
  | dk {a : Addr} {o : Obj} {kvs : List (Key × V)} {kvd : List (D × D)} : Z a → H a = some (.frz o (.dK kvs)) → kvd.map Prod.fst = kvs.map (fun p => kD p.1) → ShA K H Z (kvs.map Prod.snd) (kvd.map Prod.snd) → Sh K H Z (.ref a) (.dict kvd)
  | dt {a : Addr} {o : Obj} {kvs : List (List Key × V)} {kvd : List (D × D)} : Z a → H a = some (.frz o (.dT kvs)) → kvd.map Prod.fst = kvs.map (fun p => kTD p.1) → ShA K H Z (kvs.map Prod.snd) (kvd.map Prod.snd) → Sh K H Z (.ref a) (dtD kvd)
inductive ShA (K : PySem.W.Frag) (H : Hp) (Z : FzT) : List V → List D → Prop
  | nil : ShA K H Z [] []
  | cons {v : V} {vs : List V} {d : D} {ds : List D} : Sh K H Z v d → ShA K H Z vs ds → ShA K H Z (v :: vs) (d :: ds)
end
mutual
inductive Rep (K : PySem.W.Frag) (H : Hp) (Z : FzT) : T → V → D → List Addr → Prop
  | no {v : V} {d : D} : Rep K H Z .no v d []
  | sh {v : V} {d : D} : Sh K H Z v d → Rep K H Z .sh v d []
  | ol {t : T} {a : Addr} {xs : List V} {ds : List D} {f : List Addr} : H a = some (.lst xs) → RepA K H Z t xs ds f → Rep K H Z (.ol t) (.ref a) (.list ds) (a :: f)
  | pr {s t : T} {a : Addr} {x y : V} {dx dy : D} {f g : List Addr} : H a = some (.tup [x, y]) → Rep K H Z s x dx f → Rep K H Z t y dy g → Rep K H Z (.pr s t) (.ref a) (.tuple [dx, dy]) (f ++ g)
  | dk {t : T} {a : Addr} {kvs : List (Key × V)} {kvd : List (D × D)} {f : List Addr} : H a = some (.dK kvs) → kvd.map Prod.fst = kvs.map (fun p => kD p.1) → RepA K H Z t (kvs.map Prod.snd) (kvd.map Prod.snd) f → Rep K H Z (.dk t) (.ref a) (.dict kvd) (a :: f)
  | dt {t : T} {a : Addr} {kvs : List (List Key × V)} {kvd : List (D × D)} {f : List Addr} : H a = some (.dT kvs) → kvd.map Prod.fst = kvs.map (fun p => kTD p.1) → RepA K H Z t (kvs.map Prod.snd) (kvd.map Prod.snd) f → Rep K H Z (.dt t) (.ref a) (dtD kvd) (a :: f)
  | ex {a dd : Addr} {fs : List (Str × V)} {xs : List (Str × D)} : Z dd → H dd = some (.xd fs) → (∀ p ∈ xs, ∃ v, fs.lookup p.1 = some v ∧ Sh K H Z v p.2) → Rep K H Z (.ex a dd) (.ref a) (exD xs) []
inductive RepA (K : PySem.W.Frag) (H : Hp) (Z : FzT) : T → List V → List D → List Addr → Prop
  | nil {t : T} : RepA K H Z t [] [] []
  | cons {t : T} {v : V} {vs : List V} {d : D} {ds : List D} {f g : List Addr} : Rep K H Z t v d f → RepA K H Z t vs ds g → RepA K H Z t (v :: vs) (d :: ds) (f ++ g)
end
/-- the slots -/
inductive Env (K : PySem.W.Frag) (H : Hp) (Z : FzT) : List T → L2.St → List D → List Addr → Prop
  | nil : Env K H Z [] [] [] []
  | no {ts : List T} {ov : Option V} {σ : L2.St} {d : D} {δ : List D} {g : List Addr} : Env K H Z ts σ δ g → Env K H Z (.no :: ts) (ov :: σ) (d :: δ) g
  | cons {t : T} {ts : List T} {v : V} {σ : L2.St} {d : D} {δ : List D} {f g : List Addr} : Rep K H Z t v d f → Env K H Z ts σ δ g → Env K H Z (t :: ts) (some v :: σ) (d :: δ) (f ++ g)

structure Ok (K : PySem.W.Frag) (Γ : List T) (σ : L2.St) (δ : List D) (H : Hp) (Z : FzT) (F : List Addr) : Prop where
  env : Env K H Z Γ σ δ F
  nd : F.Nodup
  dz : ∀ a ∈ F, ¬ Z a
  zs : ∀ a, Z a → H a ≠ none
/-- from a heap to a later one: what is not in F stays -/
structure Stp (H : Hp) (Z : FzT) (F : List Addr) (H' : Hp) (Z' : FzT) (F' : List Addr) : Prop where
  keep : ∀ a o, H a = some o → a ∉ F → H' a = some o
  mono : ∀ a, Z a → Z' a
  own : ∀ a ∈ F', a ∈ F ∨ H a = none
  frz : ∀ a, Z' a → Z a ∨ a ∈ F ∨ H a = none
  live : ∀ a, H a ≠ none → H' a ≠ none
  zs : ∀ a, Z' a → Z a ∨ H' a ≠ none
abbrev Ext (H : Hp) (Z : FzT) (H' : Hp) (Z' : FzT) : Prop := Stp H Z [] H' Z' []
/-- the owned addresses hold what may change -/
def Mu (H : Hp) (F : List Addr) : Prop := ∀ a ∈ F, ∃ o, H a = some o ∧ mutO o = true

section
variable {K : PySem.W.Frag} {H H' H1 H2 : Hp} {Z Z' Z1 Z2 : FzT} {F F' F1 F2 : List Addr}
theorem Ext.refl : Ext H Z H Z := ⟨fun _ _ h _ => h, fun _ h => h, fun _ h => (nomatch h), fun _ h => .inl h, fun _ h => h, fun _ h => .inl h⟩
theorem Stp.refl : Stp H Z F H Z F := ⟨fun _ _ h _ => h, fun _ h => h, fun _ h => .inl h, fun _ h => .inl h, fun _ h => h, fun _ h => .inl h⟩
theorem Stp.trans (a : Stp H Z F H1 Z1 F1) (b : Stp H1 Z1 F1 H2 Z2 F2) : Stp H Z F H2 Z2 F2 := by
  have back : ∀ x, H1 x = none → x ∈ F ∨ H x = none := fun x h => by
    by_cases hx : x ∈ F
    · exact .inl hx
    · cases q : H x with
      | none => exact .inr rfl
      | some o => rw [a.keep x o q hx] at h; cases h
  refine ⟨fun x o h hx => ?_, fun x h => b.mono x (a.mono x h), fun x h => ?_, fun x h => ?_, fun x h => b.live x (a.live x h), fun x h => ?_⟩
  · have h1 := a.keep x o h hx
    refine b.keep x o h1 fun hf => ?_
    rcases a.own x hf with z | z
    · exact hx z
    · rw [h] at z; cases z
  · rcases b.own x h with z | z
    · exact a.own x z
    · exact back x z
  · rcases b.frz x h with z | z | z
    · exact a.frz x z
    · exact .inr (a.own x z)
    · exact .inr (back x z)
  · rcases b.zs x h with z | z
    · exact (a.zs x z).imp id (b.live x)
    · exact .inr z
theorem Ext.trans (a : Ext H Z H1 Z1) (b : Ext H1 Z1 H2 Z2) : Ext H Z H2 Z2 := Stp.trans a b
theorem Ext.same (a : Ext H Z H' Z') : Same H H' := fun b o h => a.keep b o h (by simp)
theorem Ext.stp (a : Ext H Z H' Z') : Stp H Z F H' Z' F :=
  ⟨fun x o h _ => a.keep x o h (by simp), a.mono, fun _ h => .inl h, fun x h => (a.frz x h).elim .inl fun z => .inr (z.elim (fun q => nomatch q) .inr), a.live, a.zs⟩
theorem Stp.sub (a : Stp H Z F H' Z' F') (h : ∀ x ∈ F2, x ∈ F') : Stp H Z F H' Z' F2 := ⟨a.keep, a.mono, fun x q => a.own x (h x q), a.frz, a.live, a.zs⟩
theorem Stp.wide (a : Stp H Z F H' Z' F') (h : ∀ x ∈ F, x ∈ F1) : Stp H Z F1 H' Z' F' :=
  ⟨fun x o q hx => a.keep x o q fun z => hx (h x z), a.mono, fun x q => (a.own x q).imp (h x) id, fun x q => (a.frz x q).imp id fun z => z.imp (h x) id, a.live, a.zs⟩
/-- a new object -/
theorem upd_live {a b : Addr} {o : HO} (h : H b ≠ none) : upd H a o b ≠ none := by
  unfold upd
  split
  · intro z; cases z
  · exact h
theorem Ext.new {a : Addr} {o : HO} (h : H a = none) : Ext H Z (upd H a o) Z :=
  ⟨fun x u q _ => by rw [upd_ne (ne_of_none q h)]; exact q, fun _ q => q, fun _ q => (nomatch q), fun _ q => .inl q, fun _ q => upd_live q, fun _ q => .inl q⟩
theorem Ext.newZ {a : Addr} {o : HO} (h : H a = none) : Ext H Z (upd H a o) (fun x => Z x ∨ x = a) :=
  ⟨fun x u q _ => by rw [upd_ne (ne_of_none q h)]; exact q, fun _ q => .inl q, fun _ q => (nomatch q), fun x q => q.elim .inl fun e => .inr (.inr (by rw [e]; exact h)), fun _ q => upd_live q,
    fun x q => q.elim .inl fun e => .inr (by subst e; rw [upd_same]; intro z; cases z)⟩

theorem SqL.keep {a : Addr} {xs : List V} (k : ∀ o, H a = some o → H' a = some o) (h : SqL K H a xs) : SqL K H' a xs := by
  rcases h with (h | ⟨o, h⟩) | h
  · exact .inl (.inl (k _ h))
  · exact .inl (.inr ⟨o, k _ h⟩)
  · exact .inr h
theorem SqT.keep {a : Addr} {xs : List V} (k : ∀ o, H a = some o → mutO o = false → H' a = some o) (h : SqT K H a xs) : SqT K H' a xs := by
  rcases h with (h | ⟨o, h⟩) | h
  · exact .inl (.inl (k _ h rfl))
  · exact .inl (.inr ⟨o, k _ h rfl⟩)
  · exact .inr h
theorem Rd.keep {a : Addr} {u : HO} (k : ∀ o, H a = some o → H' a = some o) (h : Rd H a u) : Rd H' a u := by
  rcases h with h | ⟨o, h⟩
  · exact .inl (k _ h)
  · exact .inr ⟨o, k _ h⟩
theorem Mu.not {F : List Addr} (m : ∀ a ∈ F, ∃ o, H a = some o ∧ mutO o = true) {a : Addr} {o : HO} (q : H a = some o) (n : mutO o = false) : a ∉ F := fun hf => by
  obtain ⟨u, e, z⟩ := m a hf
  rw [q] at e
  cases e
  rw [n] at z
  cases z

theorem FzL.step {a : Addr} {xs : List V} (s : Stp H Z F H' Z' F') (dz : ∀ a ∈ F, ¬ Z a) (h : FzL K H Z a xs) : FzL K H' Z' a xs :=
  h.imp (fun h => ⟨s.mono _ h.1, Rd.keep (fun o q => s.keep _ o q fun hf => dz _ hf h.1) h.2⟩) id

mutual
theorem Sh.step (s : Stp H Z F H' Z' F') (m : Mu H F) (dz : ∀ a ∈ F, ¬ Z a) : ∀ {v : V} {d : D}, Sh K H Z v d → Sh K H' Z' v d
  | _, _, .non => .non
  | _, _, .bl b => .bl b
  | _, _, .int i => .int i
  | _, _, .str x => .str x
  | _, _, .lst z r => .lst (z.step s dz) (ShA.step s m dz r)
  | _, _, .tup h r => .tup (s.keep _ _ h (Mu.not m h rfl)) (ShA.step s m dz r)
  | _, _, .dk z h e r => .dk (s.mono _ z) (s.keep _ _ h fun hf => dz _ hf z) e (ShA.step s m dz r)
  | _, _, .dt z h e r => .dt (s.mono _ z) (s.keep _ _ h fun hf => dz _ hf z) e (ShA.step s m dz r)
theorem ShA.step (s : Stp H Z F H' Z' F') (m : Mu H F) (dz : ∀ a ∈ F, ¬ Z a) : ∀ {vs : List V} {ds : List D}, ShA K H Z vs ds → ShA K H' Z' vs ds
  | _, _, .nil => .nil
  | _, _, .cons h r => .cons (Sh.step s m dz h) (ShA.step s m dz r)
end
mutual
theorem Rep.step (s : Stp H Z F H' Z' F') (m : Mu H F) (dz : ∀ a ∈ F, ¬ Z a) : ∀ {t : T} {v : V} {d : D} {f : List Addr}, Rep K H Z t v d f → (∀ a ∈ f, a ∉ F) → Rep K H' Z' t v d f
  | _, _, _, _, .no, _ => .no
  | _, _, _, _, .sh h, _ => .sh (h.step s m dz)
  | _, _, _, _, .ol h r, q => .ol (s.keep _ _ h (q _ List.mem_cons_self)) (RepA.step s m dz r fun a ha => q a (List.mem_cons_of_mem _ ha))
  | _, _, _, _, .pr h r1 r2, q => .pr (s.keep _ _ h (Mu.not m h rfl))
      (Rep.step s m dz r1 fun a ha => q a (List.mem_append_left _ ha)) (Rep.step s m dz r2 fun a ha => q a (List.mem_append_right _ ha))
  | _, _, _, _, .dk h e r, q => .dk (s.keep _ _ h (q _ List.mem_cons_self)) e (RepA.step s m dz r fun a ha => q a (List.mem_cons_of_mem _ ha))
  | _, _, _, _, .dt h e r, q => .dt (s.keep _ _ h (q _ List.mem_cons_self)) e (RepA.step s m dz r fun a ha => q a (List.mem_cons_of_mem _ ha))
  | _, _, _, _, .ex z h k, _ => .ex (s.mono _ z) (s.keep _ _ h fun q => dz _ q z) fun p hp => let ⟨v, h1, h2⟩ := k p hp; ⟨v, h1, h2.step s m dz⟩
theorem RepA.step (s : Stp H Z F H' Z' F') (m : Mu H F) (dz : ∀ a ∈ F, ¬ Z a) : ∀ {t : T} {vs : List V} {ds : List D} {f : List Addr}, RepA K H Z t vs ds f → (∀ a ∈ f, a ∉ F) → RepA K H' Z' t vs ds f
  | _, _, _, _, .nil, _ => .nil
  | _, _, _, _, .cons h r, q => .cons (Rep.step s m dz h fun a ha => q a (List.mem_append_left _ ha)) (RepA.step s m dz r fun a ha => q a (List.mem_append_right _ ha))
end
theorem Env.step (s : Stp H Z F H' Z' F') (m : Mu H F) (dz : ∀ a ∈ F, ¬ Z a) : ∀ {Γ : List T} {σ : L2.St} {δ : List D} {f : List Addr}, Env K H Z Γ σ δ f → (∀ a ∈ f, a ∉ F) → Env K H' Z' Γ σ δ f
  | _, _, _, _, .nil, _ => .nil
  | _, _, _, _, .no r, q => .no (r.step s m dz q)
  | _, _, _, _, .cons h r, q => .cons (h.step s m dz fun a ha => q a (List.mem_append_left _ ha)) (r.step s m dz fun a ha => q a (List.mem_append_right _ ha))
mutual
theorem Rep.mu : ∀ {t : T} {v : V} {d : D} {f : List Addr}, Rep K H Z t v d f → Mu H f
  | _, _, _, _, .no, _, q => nomatch q
  | _, _, _, _, .sh _, _, q => nomatch q
  | _, _, _, _, .ol h r, a, q => (List.mem_cons.mp q).elim (fun e => by subst e; exact ⟨_, h, rfl⟩) fun q => RepA.mu r a q
  | _, _, _, _, .dk h _ r, a, q => (List.mem_cons.mp q).elim (fun e => by subst e; exact ⟨_, h, rfl⟩) fun q => RepA.mu r a q
  | _, _, _, _, .dt h _ r, a, q => (List.mem_cons.mp q).elim (fun e => by subst e; exact ⟨_, h, rfl⟩) fun q => RepA.mu r a q
  | _, _, _, _, .pr _ r1 r2, a, q => (List.mem_append.mp q).elim (fun z => Rep.mu r1 a z) fun z => Rep.mu r2 a z
  | _, _, _, _, .ex _ _ _, _, q => nomatch q
theorem RepA.mu : ∀ {t : T} {vs : List V} {ds : List D} {f : List Addr}, RepA K H Z t vs ds f → Mu H f
  | _, _, _, _, .nil, _, q => nomatch q
  | _, _, _, _, .cons h r, a, q => (List.mem_append.mp q).elim (fun z => Rep.mu h a z) fun z => RepA.mu r a z
end
theorem Env.mu : ∀ {Γ : List T} {σ : L2.St} {δ : List D} {f : List Addr}, Env K H Z Γ σ δ f → Mu H f
  | _, _, _, _, .nil, _, q => nomatch q
  | _, _, _, _, .no r, a, q => Env.mu r a q
  | _, _, _, _, .cons h r, a, q => (List.mem_append.mp q).elim (fun z => h.mu a z) fun z => Env.mu r a z
theorem Mu.some {f : List Addr} (m : Mu H f) {a : Addr} (h : a ∈ f) : H a ≠ none := fun z => by obtain ⟨xs, e, _⟩ := m a h; rw [z] at e; cases e
theorem Mu.one {a : Addr} {o : HO} (h : H a = Option.some o) (q : mutO o = true := by rfl) : Mu H [a] := fun x hx => by
  have e : x = a := by simpa using hx
  rw [e]
  exact ⟨o, h, q⟩
theorem Mu.nil : Mu H [] := fun _ h => nomatch h
theorem Sh.ext {v : V} {d : D} (s : Ext H Z H' Z') (h : Sh K H Z v d) : Sh K H' Z' v d := h.step s Mu.nil (fun _ q => nomatch q)
theorem ShA.ext {v : List V} {d : List D} (s : Ext H Z H' Z') (h : ShA K H Z v d) : ShA K H' Z' v d := h.step s Mu.nil (fun _ q => nomatch q)
theorem Rep.ext {t : T} {v : V} {d : D} {f : List Addr} (s : Ext H Z H' Z') (h : Rep K H Z t v d f) : Rep K H' Z' t v d f := h.step s Mu.nil (fun _ q => nomatch q) fun _ _ q => nomatch q
theorem RepA.ext {t : T} {v : List V} {d : List D} {f : List Addr} (s : Ext H Z H' Z') (h : RepA K H Z t v d f) : RepA K H' Z' t v d f := h.step s Mu.nil (fun _ q => nomatch q) fun _ _ q => nomatch q
variable {Γ : List T} {σ : L2.St} {δ : List D}
theorem Ok.mu (o : Ok K Γ σ δ H Z F) : Mu H F := o.env.mu
theorem Ok.ext (s : Ext H Z H' Z') (o : Ok K Γ σ δ H Z F) : Ok K Γ σ δ H' Z' F :=
  ⟨o.env.step s Mu.nil (fun _ q => nomatch q) (fun _ _ q => nomatch q), o.nd, fun a ha hz => (s.frz a hz).elim (o.dz a ha) (fun z => z.elim (fun q => nomatch q) fun q => o.mu.some ha q), fun a hz => (s.zs a hz).elim (fun z => s.live a (o.zs a z)) id⟩
/-- a slot's value -/
theorem Env.get : ∀ {Γ : List T} {σ : L2.St} {δ : List D} {f : List Addr} {i : Nat} {t : T} {d : D}, Env K H Z Γ σ δ f → Γ[i]? = some t → t ≠ .no → δ[i]? = some d → ∃ v g, σ[i]? = some (some v) ∧ Rep K H Z t v d g ∧ ∀ a ∈ g, a ∈ f
  | _, _, _, _, i, _, _, .nil, h, _, _ => by simp at h
  | _, _, _, _, 0, t, _, .no r, h, n, _ => by simp at h; exact absurd h.symm n
  | _, _, _, _, i + 1, t, d, .no r, h, n, e => by
    obtain ⟨v, g, h1, h2, h3⟩ := Env.get (i := i) r (by simpa using h) n (by simpa using e)
    exact ⟨v, g, by simpa using h1, h2, h3⟩
  | _, _, _, _, 0, t, d, .cons q r, h, n, e => by
    simp at h e; subst h; subst e
    exact ⟨_, _, rfl, q, fun a ha => List.mem_append_left _ ha⟩
  | _, _, _, _, i + 1, t, d, .cons q r, h, n, e => by
    obtain ⟨v, g, h1, h2, h3⟩ := Env.get (i := i) r (by simpa using h) n (by simpa using e)
    exact ⟨v, g, by simpa using h1, h2, fun a ha => List.mem_append_right _ (h3 a ha)⟩
theorem Rep.len : ∀ {vs : List V} {ds : List D} {t : T} {f : List Addr}, RepA K H Z t vs ds f → vs.length = ds.length
  | _, _, _, _, .nil => rfl
  | _, _, _, _, .cons _ r => by simp [Rep.len r]
theorem ShA.len : ∀ {vs : List V} {ds : List D}, ShA K H Z vs ds → vs.length = ds.length
  | _, _, .nil => rfl
  | _, _, .cons _ r => by simp [ShA.len r]
theorem Env.len : ∀ {Γ : List T} {σ : L2.St} {δ : List D} {f : List Addr}, Env K H Z Γ σ δ f → σ.length = Γ.length ∧ δ.length = Γ.length
  | _, _, _, _, .nil => ⟨rfl, rfl⟩
  | _, _, _, _, .no r => by simp [Env.len r]
  | _, _, _, _, .cons _ r => by simp [Env.len r]
end
end Pv

set_option Elab.async false
set_option linter.all false
set_option maxRecDepth 100000
/-! Pv2: expressions that change nothing: their values as functions of the slots' data. -/
namespace Pv
open PySem PySem.Spec PyProof.Rows L2
abbrev EF := List D → Option D
abbrev EM := List D → Option (D × List D)
abbrev BF := List D → Option Bool
abbrev BM := List D → Option (Bool × List D)
abbrev LF := List D → Option (List D)
abbrev LM := List D → Option (List D × List D)

/-- what is read, the slots as they were -/
def tP (K : PySem.W.Frag) (Γ : List T) (t : T) (f : EF) : TE := fun σ H Q => ∃ δ Z F d, Ok K Γ σ δ H Z F ∧ f δ = some d ∧
  ∀ v H' Z' g, Ext H Z H' Z' → Rep K H' Z' t v d g → Q v H'
/-- what is made anew -/
def tC (K : PySem.W.Frag) (Γ : List T) (t : T) (f : EF) : TE := fun σ H Q => ∃ δ Z F d, Ok K Γ σ δ H Z F ∧ f δ = some d ∧
  ∀ v H' Z' g, Ext H Z H' Z' → Rep K H' Z' t v d g → g.Nodup → (∀ a ∈ g, H a = none ∧ ¬ Z' a) → Q v H'
/-- what may change the slots -/
def tM (K : PySem.W.Frag) (Γ Γ' : List T) (t : T) (f : EM) : TE := fun σ H Q => ∃ δ Z F d δ', Ok K Γ σ δ H Z F ∧ f δ = some (d, δ') ∧
  ∀ v H' Z' F' g, Stp H Z F H' Z' (F' ++ g) → Ok K Γ' σ δ' H' Z' F' → Rep K H' Z' t v d g → (F' ++ g).Nodup → (∀ a ∈ g, ¬ Z' a) → Q v H'
def bP (K : PySem.W.Frag) (Γ : List T) (f : BF) : TT := fun σ H Q => ∃ δ Z F b, Ok K Γ σ δ H Z F ∧ f δ = some b ∧ ∀ H' Z', Ext H Z H' Z' → Q b H'
def bM (K : PySem.W.Frag) (Γ Γ' : List T) (f : BM) : TT := fun σ H Q => ∃ δ Z F b δ', Ok K Γ σ δ H Z F ∧ f δ = some (b, δ') ∧ ∀ H' Z' F', Stp H Z F H' Z' F' → Ok K Γ' σ δ' H' Z' F' → Q b H'
def aP (K : PySem.W.Frag) (Γ ts : List T) (f : LF) : TA := fun σ H Q => ∃ δ Z F ds, Ok K Γ σ δ H Z F ∧ f δ = some ds ∧
  ∀ vs H' Z' g, Ext H Z H' Z' → Env K H' Z' ts (vs.map some) ds g → Q vs H'

theorem _root_.L2.PE.imp {X : Cx} {e : Expr} {t t' : TE} (h : PE X e t) (i : ∀ σ H Q, t' σ H Q → t σ H Q) : PE X e t' := ⟨fun pins s σ H Q I q => h.run pins s σ H Q I (i _ _ _ q)⟩
theorem _root_.L2.PT.imp {X : Cx} {e : Expr} {t t' : TT} (h : PT X e t) (i : ∀ σ H Q, t' σ H Q → t σ H Q) : PT X e t' := ⟨fun pins s σ H Q I q => h.run pins s σ H Q I (i _ _ _ q)⟩
theorem _root_.L2.PW.imp {X : Cx} {e : Expr} {t t' : TT} (h : PW X e t) (i : ∀ σ H Q, t' σ H Q → t σ H Q) : PW X e t' := ⟨fun w pins s σ H Q I q => h.run w pins s σ H Q I (i _ _ _ q)⟩
theorem _root_.L2.PA.imp {X : Cx} {e : List Expr} {t t' : TA} (h : PA X e t) (i : ∀ σ H Q, t' σ H Q → t σ H Q) : PA X e t' := ⟨fun p pins s σ H Q I q => h.run p pins s σ H Q I (i _ _ _ q)⟩

/-! ### the shapes -/
def xV (i : Nat) : EF := fun δ => δ[i]?
def xK (d : D) : EF := fun _ => some d
def x1 (o : D → Option D) (a : EF) : EF := fun δ => (a δ).bind o
def x2 (o : D → D → Option D) (a b : EF) : EF := fun δ => (a δ).bind fun x => (b δ).bind fun y => o x y
def xNil : LF := fun _ => some []
def xCons (a : EF) (r : LF) : LF := fun δ => (a δ).bind fun x => (r δ).bind fun xs => some (x :: xs)
def xL (o : List D → Option D) (r : LF) : EF := fun δ => (r δ).bind o
def toB : D → Option Bool | .bool b => some b | _ => none
def bE (f : EF) : BF := fun δ => (f δ).bind toB
def bNot (f : BF) : BF := fun δ => (f δ).bind fun b => some (!b)
def bAnd (f g : BF) : BF := fun δ => (f δ).bind fun b => if b then g δ else some false
def bOr (f g : BF) : BF := fun δ => (f δ).bind fun b => if b then some true else g δ
def xB (f : BF) : EF := fun δ => (f δ).bind fun b => some (.bool b)
def xIf (c : BF) (a b : EF) : EF := fun δ => (c δ).bind fun k => if k then a δ else b δ

section
variable {K : PySem.W.Frag} {X : Cx} {Γ : List T} {H H' : Hp} {Z Z' : FzT}
theorem Sh.rep {v : V} {d : D} (h : Sh K H Z v d) : Rep K H Z .sh v d [] := .sh h
theorem Rep.shOf {v : V} {d : D} {g : List Addr} (h : Rep K H Z .sh v d g) : Sh K H Z v d ∧ g = [] := by cases h; exact ⟨‹_›, rfl⟩
theorem cOfP {f : EF} {e : Expr} (h : PE X e (tP X.K Γ .sh f)) : PE X e (tC X.K Γ .sh f) := h.imp fun σ H Q ⟨δ, Z, F, d, o, e, k⟩ => ⟨δ, Z, F, d, o, e, fun v H' Z' g s r => by
  obtain ⟨_, rfl⟩ := r.shOf
  exact k v H' Z' [] s r .nil (fun _ q => nomatch q)⟩
theorem pOfC {t : T} {f : EF} {e : Expr} (h : PE X e (tC X.K Γ t f)) : PE X e (tP X.K Γ t f) := h.imp fun σ H Q ⟨δ, Z, F, d, o, e, k⟩ => ⟨δ, Z, F, d, o, e, fun v H' Z' g s r _ _ => k v H' Z' g s r⟩
def mOf (f : EF) : EM := fun δ => (f δ).map (·, δ)
theorem Ok.live {σ : L2.St} {δ : List D} {F : List Addr} (o : Ok K Γ σ δ H Z F) {a : Addr} (h : a ∈ F) : H a ≠ none := o.mu.some h
theorem nodup_app {F g : List Addr} (h1 : F.Nodup) (h2 : g.Nodup) (h : ∀ a ∈ g, a ∉ F) : (F ++ g).Nodup :=
  List.nodup_append.mpr ⟨h1, h2, fun a ha b hb e => h b hb (e ▸ ha)⟩
theorem mOfC {t : T} {f : EF} {e : Expr} (h : PE X e (tC X.K Γ t f)) : PE X e (tM X.K Γ Γ t (mOf f)) := h.imp fun σ H Q ⟨δ, Z, F, d, δ', o, e, k⟩ => by
  unfold mOf at e
  cases q : f δ with
  | none => rw [q] at e; cases e
  | some d' =>
    rw [q] at e; cases e
    refine ⟨δ, Z, F, d, o, q, fun v H' Z' g s r nd hz => k v H' Z' F g ?_ (o.ext s) r (nodup_app o.nd nd fun a ha hf => o.live hf (hz a ha).1) fun a ha => (hz a ha).2⟩
    exact ⟨s.stp.keep, s.mono, fun a ha => (List.mem_append.mp ha).imp id fun z => (hz a z).1, s.stp.frz, s.live, s.zs⟩
theorem mOfP {f : EF} {e : Expr} (h : PE X e (tP X.K Γ .sh f)) : PE X e (tM X.K Γ Γ .sh (mOf f)) := mOfC (cOfP h)

theorem toB_sh {v : V} {d : D} {b : Bool} (r : Sh K H Z v d) (e : toB d = some b) : v = .bl b ∧ d = .bool b := by
  cases r with
  | bl b' => cases e; exact ⟨rfl, rfl⟩
  | _ => cases e
/-! ### names, constants -/
theorem cV (i : Nat) {x : Str} {pos : Pos} {t : T} (ht : Γ[i]? = some t) (hn : t ≠ .no) (h : PE X (.Name x pos) (tVar i)) : PE X (.Name x pos) (tP X.K Γ t (xV i)) := h.imp fun σ H Q ⟨δ, Z, F, d, o, e, k⟩ => by
  obtain ⟨v, g, h1, h2, _⟩ := o.env.get ht hn e
  exact ⟨v, h1, k v H Z g .refl h2⟩
theorem cInt {i : Int} {j pos} : PE X (.Constant (.int i) j pos) (tP X.K Γ .sh (xK (.int i))) := pe_int.imp fun σ H Q ⟨δ, Z, F, d, o, e, k⟩ => by cases e; exact k _ H Z [] .refl (.sh (.int i))
theorem cBl {b : Bool} {j pos} : PE X (.Constant (.bool b) j pos) (tP X.K Γ .sh (xK (.bool b))) := pe_bl.imp fun σ H Q ⟨δ, Z, F, d, o, e, k⟩ => by cases e; exact k _ H Z [] .refl (.sh (.bl b))
theorem cNon {j pos} : PE X (.Constant .none j pos) (tP X.K Γ .sh (xK .none)) := pe_non.imp fun σ H Q ⟨δ, Z, F, d, o, e, k⟩ => by cases e; exact k _ H Z [] .refl (.sh .non)
theorem cStr {x : Str} {j pos} : PE X (.Constant (.str x) j pos) (tP X.K Γ .sh (xK (.str x))) := pe_str.imp fun σ H Q ⟨δ, Z, F, d, o, e, k⟩ => by cases e; exact k _ H Z [] .refl (.sh (.str x))

/-! ### operators by their data -/
/-- r holds where the data's operation gives something -/
def OpS (K : PySem.W.Frag) (r : R2) (s t u : T) (o : D → D → Option D) : Prop :=
  ∀ (H : Hp) (Z : FzT) (x y : V) (dx dy d : D) (f g : List Addr) (Q : VK), Rep K H Z s x dx f → Rep K H Z t y dy g → o dx dy = some d → (∀ v H' Z' h, Ext H Z H' Z' → Rep K H' Z' u v d h → Q v H') → r x y H Q
theorem p2 {r : R2} {s t u : T} {o : D → D → Option D} {fa fb : EF} (hs : OpS K r s t u o) {σ : L2.St} {Q : VK} (h : tP K Γ u (x2 o fa fb) σ H Q) : tOp r (tP K Γ s fa) (tP K Γ t fb) σ H Q := by
  obtain ⟨δ, Z, F, d, ok, e, k⟩ := h
  unfold x2 at e
  obtain ⟨x, ex, e⟩ := Option.bind_eq_some_iff.mp e
  obtain ⟨y, ey, e⟩ := Option.bind_eq_some_iff.mp e
  exact ⟨δ, Z, F, x, ok, ex, fun v H1 Z1 g s1 r1 => ⟨δ, Z1, F, y, ok.ext s1, ey, fun w H2 Z2 g2 s2 r2 =>
    hs H2 Z2 v w x y d _ _ Q (r1.ext s2) r2 e fun v' H' Z' h s3 r3 => k v' H' Z' h (s1.trans (s2.trans s3)) r3⟩⟩
theorem c2 {op : Operator} {r : R2} {s t u : T} {o : D → D → Option D} {fa fb : EF} {a b : Expr} {pos : Pos} (ho : OpR X (binaryOp op) r) (hs : OpS X.K r s t u o) (ha : PE X a (tP X.K Γ s fa)) (hb : PE X b (tP X.K Γ t fb)) :
    PE X (.BinOp a op b pos) (tP X.K Γ u (x2 o fa fb)) := (pe_op ho ha hb).imp fun _ _ _ => p2 hs
theorem cCmp {op : CmpOp} {r : R2} {s t u : T} {o : D → D → Option D} {fa fb : EF} {a b : Expr} {pos : Pos} (ho : OpR X (compareOp op) r) (hs : OpS X.K r s t u o) (ha : PE X a (tP X.K Γ s fa)) (hb : PE X b (tP X.K Γ t fb)) (hm : behindInMarks op b = false) :
    PE X (.Compare a [op] [b] pos) (tP X.K Γ u (x2 o fa fb)) := (pe_cmpR ho ha hb hm).imp fun _ _ _ => p2 hs
theorem tB_of {te : TE} {f : EF} {σ : L2.St} {Q : Bool → Hp → Prop} (hq : ∀ Q, tP K Γ .sh f σ H Q → te σ H Q) (h : bP K Γ (bE f) σ H Q) : te σ H fun x H' => ∃ k, x = .bl k ∧ Q k H' := by
  obtain ⟨δ, Z, F, b, ok, e, k⟩ := h
  obtain ⟨d, ed, e⟩ := Option.bind_eq_some_iff.mp e
  refine hq _ ⟨δ, Z, F, d, ok, ed, fun v H' Z' g s r => ?_⟩
  obtain ⟨rfl, rfl⟩ := toB_sh r.shOf.1 e
  exact ⟨b, rfl, k H' Z' s⟩
theorem qCmp {op : CmpOp} {r : R2} {s t : T} {o : D → D → Option D} {fa fb : EF} {a b : Expr} {pos : Pos} (ho : OpR X (compareOp op) r) (hs : OpS X.K r s t .sh o) (ha : PE X a (tP X.K Γ s fa)) (hb : PE X b (tP X.K Γ t fb)) (hm : behindInMarks op b = false) :
    PT X (.Compare a [op] [b] pos) (bP X.K Γ (bE (x2 o fa fb))) := (pt_cmpR ho ha hb hm).imp fun _ _ _ h => tB_of (fun Q => p2 hs) h
/-- an expression whose value is a bool -/
theorem qVal {f : EF} {e : Expr} (h : PE X e (tP X.K Γ .sh f)) (he : ∀ whole, isTrue e X.env whole = (do let v ← whole; standAt e.pos; holding [v] (truthy v)) := by intro _; rfl) : PT X e (bP X.K Γ (bE f)) :=
  (pt_val h he).imp fun _ _ _ h => tB_of (fun Q q => q) h
theorem qNot {f : BF} {e : Expr} {pos : Pos} (h : PT X e (bP X.K Γ f)) : PT X (.UnaryOp .Not e pos) (bP X.K Γ (bNot f)) := (pt_not h).imp fun σ H Q ⟨δ, Z, F, b, ok, e, k⟩ => by
  obtain ⟨c, ec, e⟩ := Option.bind_eq_some_iff.mp e
  cases e
  exact ⟨δ, Z, F, c, ok, ec, k⟩
theorem qAnd1 {f : BF} {a : Expr} {pos : Pos} (h : PT X a (bP X.K Γ f)) : PW X (.BoolOp .And [a] pos) (bP X.K Γ f) := pw_and1 h
theorem qOr1 {f : BF} {a : Expr} {pos : Pos} (h : PT X a (bP X.K Γ f)) : PW X (.BoolOp .Or [a] pos) (bP X.K Γ f) := pw_or1 h
theorem qAnd {f g : BF} {a b : Expr} {rest : List Expr} {pos : Pos} (h : PT X a (bP X.K Γ f)) (h2 : PW X (.BoolOp .And (b :: rest) pos) (bP X.K Γ g)) : PW X (.BoolOp .And (a :: b :: rest) pos) (bP X.K Γ (bAnd f g)) :=
  (pw_and h h2).imp fun σ H Q ⟨δ, Z, F, b, ok, e, k⟩ => by
    obtain ⟨c, ec, e⟩ := Option.bind_eq_some_iff.mp e
    refine ⟨δ, Z, F, c, ok, ec, fun H1 Z1 s1 => ?_⟩
    cases c with
    | true => exact ⟨δ, Z1, F, b, ok.ext s1, e, fun H' Z' s => k H' Z' (s1.trans s)⟩
    | false => cases e; exact k H1 Z1 s1
theorem qOr {f g : BF} {a b : Expr} {rest : List Expr} {pos : Pos} (h : PT X a (bP X.K Γ f)) (h2 : PW X (.BoolOp .Or (b :: rest) pos) (bP X.K Γ g)) : PW X (.BoolOp .Or (a :: b :: rest) pos) (bP X.K Γ (bOr f g)) :=
  (pw_or h h2).imp fun σ H Q ⟨δ, Z, F, b, ok, e, k⟩ => by
    obtain ⟨c, ec, e⟩ := Option.bind_eq_some_iff.mp e
    refine ⟨δ, Z, F, c, ok, ec, fun H1 Z1 s1 => ?_⟩
    cases c with
    | true => cases e; exact k H1 Z1 s1
    | false => exact ⟨δ, Z1, F, b, ok.ext s1, e, fun H' Z' s => k H' Z' (s1.trans s)⟩
def xAnd (a b : EF) : EF := fun δ => (a δ).bind fun x => (toB x).bind fun k => if k then b δ else some (.bool false)
def xOr (a b : EF) : EF := fun δ => (a δ).bind fun x => (toB x).bind fun k => if k then some (.bool true) else b δ
def xNot (a : EF) : EF := fun δ => (a δ).bind fun x => (toB x).bind fun k => some (.bool (!k))
theorem vOne {op} {f : EF} {a : Expr} {pos : Pos} (h : PE X a (tP X.K Γ .sh f)) : PE X (.BoolOp op [a] pos) (tP X.K Γ .sh f) := pe_one h
theorem vAnd {f g : EF} {a b : Expr} {rest : List Expr} {pos : Pos} (h : PE X a (tP X.K Γ .sh f)) (h2 : PE X (.BoolOp .And (b :: rest) pos) (tP X.K Γ .sh g)) : PE X (.BoolOp .And (a :: b :: rest) pos) (tP X.K Γ .sh (xAnd f g)) :=
  (pe_and h h2).imp fun σ H Q ⟨δ, Z, F, d, ok, e, k⟩ => by
    obtain ⟨x, ex, e⟩ := Option.bind_eq_some_iff.mp e
    obtain ⟨c, ec, e⟩ := Option.bind_eq_some_iff.mp e
    refine ⟨δ, Z, F, x, ok, ex, fun v H1 Z1 g1 s1 r1 => ?_⟩
    obtain ⟨rfl, rfl⟩ := toB_sh r1.shOf.1 ec
    refine ⟨c, rfl, ?_⟩
    cases c with
    | true => exact ⟨δ, Z1, F, d, ok.ext s1, e, fun v H' Z' g s r => k v H' Z' g (s1.trans s) r⟩
    | false => cases e; exact k _ H1 Z1 [] s1 (.sh (.bl false))
theorem vOr {f g : EF} {a b : Expr} {rest : List Expr} {pos : Pos} (h : PE X a (tP X.K Γ .sh f)) (h2 : PE X (.BoolOp .Or (b :: rest) pos) (tP X.K Γ .sh g)) : PE X (.BoolOp .Or (a :: b :: rest) pos) (tP X.K Γ .sh (xOr f g)) :=
  (pe_or h h2).imp fun σ H Q ⟨δ, Z, F, d, ok, e, k⟩ => by
    obtain ⟨x, ex, e⟩ := Option.bind_eq_some_iff.mp e
    obtain ⟨c, ec, e⟩ := Option.bind_eq_some_iff.mp e
    refine ⟨δ, Z, F, x, ok, ex, fun v H1 Z1 g1 s1 r1 => ?_⟩
    obtain ⟨rfl, rfl⟩ := toB_sh r1.shOf.1 ec
    refine ⟨c, rfl, ?_⟩
    cases c with
    | true => cases e; exact k _ H1 Z1 [] s1 (.sh (.bl true))
    | false => exact ⟨δ, Z1, F, d, ok.ext s1, e, fun v H' Z' g s r => k v H' Z' g (s1.trans s) r⟩
theorem vNot {f : EF} {a : Expr} {pos : Pos} (h : PE X a (tP X.K Γ .sh f)) : PE X (.UnaryOp .Not a pos) (tP X.K Γ .sh (xNot f)) :=
  (pe_not h).imp fun σ H Q ⟨δ, Z, F, d, ok, e, k⟩ => by
    obtain ⟨x, ex, e⟩ := Option.bind_eq_some_iff.mp e
    obtain ⟨c, ec, e⟩ := Option.bind_eq_some_iff.mp e
    cases e
    refine ⟨δ, Z, F, x, ok, ex, fun v H1 Z1 g1 s1 r1 => ?_⟩
    obtain ⟨rfl, rfl⟩ := toB_sh r1.shOf.1 ec
    exact ⟨c, rfl, k _ H1 Z1 [] s1 (.sh (.bl _))⟩
theorem vIf {t : T} {c : BF} {f g : EF} {ec a b : Expr} {pos : Pos} (hc : PT X ec (bP X.K Γ c)) (ha : PE X a (tP X.K Γ t f)) (hb : PE X b (tP X.K Γ t g)) : PE X (.IfExp ec a b pos) (tP X.K Γ t (xIf c f g)) :=
  (pe_ifExp hc ha hb).imp fun σ H Q ⟨δ, Z, F, d, ok, e, k⟩ => by
    obtain ⟨c, ec, e⟩ := Option.bind_eq_some_iff.mp e
    refine ⟨δ, Z, F, c, ok, ec, fun H1 Z1 s1 => ?_⟩
    cases c with
    | true => exact ⟨δ, Z1, F, d, ok.ext s1, e, fun v H' Z' g s r => k v H' Z' g (s1.trans s) r⟩
    | false => exact ⟨δ, Z1, F, d, ok.ext s1, e, fun v H' Z' g s r => k v H' Z' g (s1.trans s) r⟩

/-! ### arguments -/
theorem aNil : PA X [] (aP X.K Γ [] xNil) := pa_nil.imp fun σ H Q ⟨δ, Z, F, d, ok, e, k⟩ => by cases e; exact k [] H Z [] .refl .nil
theorem aCons {t : T} {ts : List T} {f : EF} {r : LF} {e : Expr} {es : List Expr} (ha : PE X e (tP X.K Γ t f)) (hr : PA X es (aP X.K Γ ts r)) (hs : starEach (e :: es) X.env = (false, eval e X.env) :: starEach es X.env := by rfl) :
    PA X (e :: es) (aP X.K Γ (t :: ts) (xCons f r)) := (pa_cons ha hr hs).imp fun σ H Q ⟨δ, Z, F, d, ok, e, k⟩ => by
  obtain ⟨x, ex, e⟩ := Option.bind_eq_some_iff.mp e
  obtain ⟨xs, exs, e⟩ := Option.bind_eq_some_iff.mp e
  cases e
  exact ⟨δ, Z, F, x, ok, ex, fun v H1 Z1 g1 s1 r1 => ⟨δ, Z1, F, xs, ok.ext s1, exs, fun vs H2 Z2 g2 s2 r2 => k (v :: vs) H2 Z2 _ (s1.trans s2) (.cons (r1.ext s2) r2)⟩⟩
/-- a call by values -/
def CalS (K : PySem.W.Frag) (r : List V → Hp → VK → Prop) (ts : List T) (u : T) (o : List D → Option D) : Prop :=
  ∀ (H : Hp) (Z : FzT) (vs : List V) (ds : List D) (d : D) (g : List Addr) (Q : VK), Env K H Z ts (vs.map some) ds g → o ds = some d → (∀ v H' Z' h, Ext H Z H' Z' → Rep K H' Z' u v d h → Q v H') → r vs H Q
/-- .. that makes something new -/
def CalC (K : PySem.W.Frag) (r : List V → Hp → VK → Prop) (ts : List T) (u : T) (o : List D → Option D) : Prop :=
  ∀ (H : Hp) (Z : FzT) (vs : List V) (ds : List D) (d : D) (g : List Addr) (Q : VK), Env K H Z ts (vs.map some) ds g → o ds = some d →
    (∀ v H' Z' h, Ext H Z H' Z' → Rep K H' Z' u v d h → h.Nodup → (∀ a ∈ h, H a = none ∧ ¬ Z' a) → Q v H') → r vs H Q
theorem pL {r : List V → Hp → VK → Prop} {ts : List T} {u : T} {o : List D → Option D} {f : LF} {σ : L2.St} {Q : VK} (hs : CalS K r ts u o) (h : tP K Γ u (xL o f) σ H Q) : tCB r (aP K Γ ts f) σ H Q := by
  obtain ⟨δ, Z, F, d, ok, e, k⟩ := h
  obtain ⟨ds, eds, e⟩ := Option.bind_eq_some_iff.mp e
  exact ⟨δ, Z, F, ds, ok, eds, fun vs H1 Z1 g s1 r1 => hs H1 Z1 vs ds d g Q r1 e fun v H' Z' h s2 r2 => k v H' Z' h (s1.trans s2) r2⟩
theorem pLC {r : List V → Hp → VK → Prop} {ts : List T} {u : T} {o : List D → Option D} {f : LF} {σ : L2.St} {Q : VK} (hs : CalC K r ts u o) (h : tC K Γ u (xL o f) σ H Q) : tCB r (aP K Γ ts f) σ H Q := by
  obtain ⟨δ, Z, F, d, ok, e, k⟩ := h
  obtain ⟨ds, eds, e⟩ := Option.bind_eq_some_iff.mp e
  refine ⟨δ, Z, F, ds, ok, eds, fun vs H1 Z1 g s1 r1 => hs H1 Z1 vs ds d g Q r1 e fun v H' Z' h s2 r2 nd hz => k v H' Z' h (s1.trans s2) r2 nd fun a ha => ⟨?_, (hz a ha).2⟩⟩
  cases q : H a with
  | none => rfl
  | some o => have := s1.keep a o q (by simp); rw [(hz a ha).1] at this; cases this
theorem cCallB {x : Str} {p pos : Pos} {e : Expr} {es : List Expr} {id : String} {r : List V → Hp → VK → Prop} {ts : List T} {u : T} {o : List D → Option D} {f : LF} (hc : CallR X (.builtin id) r) (hs : CalS X.K r ts u o) (hg : Gl X x) (hm : X.mg x = none) (hv : bootBuiltins x = some (.builtin id))
    (ha : PA X (e :: es) (aP X.K Γ ts f)) (hn : x ≠ "__name__" := by decide) (hdb : (x == ("__debug__" : Str)) = false := by decide)
    (he : starEach (e :: es) X.env = (false, eval e X.env) :: starEach es X.env := by rfl) (hpl : (backTo pos (starEach es X.env)).any (·.1) = false := by rfl) : PE X (.Call (.Name x p) (e :: es) [] pos) (tP X.K Γ u (xL o f)) :=
  (pe_callB hc hg hm hv ha hn hdb he hpl).imp fun _ _ _ => pL hs
theorem cCallT {x : Str} {p pos : Pos} {e : Expr} {es : List Expr} {ty : String} {r : List V → Hp → VK → Prop} {ts : List T} {u : T} {o : List D → Option D} {f : LF} (hc : CallR X (.type ty) r) (hs : CalS X.K r ts u o) (hg : Gl X x) (hm : X.mg x = none) (hv : bootBuiltins x = some (.type ty))
    (ha : PA X (e :: es) (aP X.K Γ ts f)) (hn : x ≠ "__name__" := by decide) (hdb : (x == ("__debug__" : Str)) = false := by decide)
    (he : starEach (e :: es) X.env = (false, eval e X.env) :: starEach es X.env := by rfl) (hpl : (backTo pos (starEach es X.env)).any (·.1) = false := by rfl) : PE X (.Call (.Name x p) (e :: es) [] pos) (tP X.K Γ u (xL o f)) :=
  (pe_callTy hc hg hm hv ha hn hdb he hpl).imp fun _ _ _ => pL hs
theorem cCallTC {x : Str} {p pos : Pos} {e : Expr} {es : List Expr} {ty : String} {r : List V → Hp → VK → Prop} {ts : List T} {u : T} {o : List D → Option D} {f : LF} (hc : CallR X (.type ty) r) (hs : CalC X.K r ts u o) (hg : Gl X x) (hm : X.mg x = none) (hv : bootBuiltins x = some (.type ty))
    (ha : PA X (e :: es) (aP X.K Γ ts f)) (hn : x ≠ "__name__" := by decide) (hdb : (x == ("__debug__" : Str)) = false := by decide)
    (he : starEach (e :: es) X.env = (false, eval e X.env) :: starEach es X.env := by rfl) (hpl : (backTo pos (starEach es X.env)).any (·.1) = false := by rfl) : PE X (.Call (.Name x p) (e :: es) [] pos) (tC X.K Γ u (xL o f)) :=
  (pe_callTy hc hg hm hv ha hn hdb he hpl).imp fun _ _ _ => pLC hs
theorem cCallBC {x : Str} {p pos : Pos} {e : Expr} {es : List Expr} {id : String} {r : List V → Hp → VK → Prop} {ts : List T} {u : T} {o : List D → Option D} {f : LF} (hc : CallR X (.builtin id) r) (hs : CalC X.K r ts u o) (hg : Gl X x) (hm : X.mg x = none) (hv : bootBuiltins x = some (.builtin id))
    (ha : PA X (e :: es) (aP X.K Γ ts f)) (hn : x ≠ "__name__" := by decide) (hdb : (x == ("__debug__" : Str)) = false := by decide)
    (he : starEach (e :: es) X.env = (false, eval e X.env) :: starEach es X.env := by rfl) (hpl : (backTo pos (starEach es X.env)).any (·.1) = false := by rfl) : PE X (.Call (.Name x p) (e :: es) [] pos) (tC X.K Γ u (xL o f)) :=
  (pe_callB hc hg hm hv ha hn hdb he hpl).imp fun _ _ _ => pLC hs

/-! ### displays -/
theorem Env.shA : ∀ {ts : List T} {vs : List V} {ds : List D} {g : List Addr}, Env K H Z ts (vs.map some) ds g → ts.all (· == .sh) = true → ShA K H Z vs ds
  | [], [], _, _, h, _ => by cases h; exact .nil
  | [], v :: vs, _, _, h, _ => by cases h
  | t :: ts, [], _, _, h, _ => by cases h
  | t :: ts, v :: vs, _, _, h, q => by
    rw [List.all_cons, Bool.and_eq_true] at q
    have e : t = .sh := by simpa using q.1
    subst e
    cases h with
    | cons r h => exact .cons r.shOf.1 (Env.shA h q.2)
def mkTup (ds : List D) : Option D := if ds.length ≤ sizeLine then some (.tuple ds) else none
def mkLst (ds : List D) : Option D := if ds.length ≤ sizeLine then some (.list ds) else none
theorem cTup {x1} {es : List Expr} {pos : Pos} {ts : List T} {f : LF} (h : PA X es (aP X.K Γ ts f)) (ht : ts.all (· == .sh) = true := by rfl) : PE X (.Tuple es x1 pos) (tP X.K Γ .sh (xL mkTup f)) :=
  (pe_tup h).imp fun σ H Q ⟨δ, Z, F, d, ok, e, k⟩ => by
    obtain ⟨ds, eds, e⟩ := Option.bind_eq_some_iff.mp e
    refine ⟨δ, Z, F, ds, ok, eds, fun vs H1 Z1 g s1 r1 => ?_⟩
    have sa := Env.shA r1 ht
    unfold mkTup at e
    split at e
    · rename_i hl
      cases e
      refine ⟨by rw [sa.len]; exact hl, fun p hp => k _ _ Z1 [] (s1.trans (Ext.new hp)) (.sh (.tup upd_same (sa.ext (Ext.new hp))))⟩
    · cases e
/-- a written list, frozen at once -/
theorem cLstS {es : List Expr} {pos : Pos} {ts : List T} {f : LF} (h : PA X es (aP X.K Γ ts f)) (ht : ts.all (· == .sh) = true := by rfl) : PE X (.List es pos) (tP X.K Γ .sh (xL mkLst f)) :=
  (pe_lst h).imp fun σ H Q ⟨δ, Z, F, d, ok, e, k⟩ => by
    obtain ⟨ds, eds, e⟩ := Option.bind_eq_some_iff.mp e
    refine ⟨δ, Z, F, ds, ok, eds, fun vs H1 Z1 g s1 r1 => ?_⟩
    have sa := Env.shA r1 ht
    unfold mkLst at e
    split at e
    · rename_i hl
      cases e
      refine ⟨by rw [sa.len]; exact hl, fun p hp => k _ _ _ [] (s1.trans (Ext.newZ hp)) (.sh (.lst (.inl ⟨.inr rfl, .inl upd_same⟩) (sa.ext (Ext.newZ hp))))⟩
    · cases e
theorem ShA.repA : ∀ {vs : List V} {ds : List D}, ShA K H Z vs ds → RepA K H Z .sh vs ds []
  | _, _, .nil => .nil
  | _, _, .cons h r => RepA.cons (f := []) (.sh h) (ShA.repA r)
theorem RepA.shA : ∀ {vs : List V} {ds : List D} {g : List Addr}, RepA K H Z .sh vs ds g → ShA K H Z vs ds ∧ g = []
  | _, _, _, .nil => ⟨.nil, rfl⟩
  | _, _, _, .cons h r => by
    obtain ⟨h', e⟩ := h.shOf
    obtain ⟨r', e'⟩ := RepA.shA r
    rw [e, e']
    exact ⟨.cons h' r', rfl⟩
/-- a written list of one's own -/
theorem cLst {es : List Expr} {pos : Pos} {ts : List T} {f : LF} (h : PA X es (aP X.K Γ ts f)) (ht : ts.all (· == .sh) = true := by rfl) : PE X (.List es pos) (tC X.K Γ (.ol .sh) (xL mkLst f)) :=
  (pe_lst h).imp fun σ H Q ⟨δ, Z, F, d, ok, e, k⟩ => by
    obtain ⟨ds, eds, e⟩ := Option.bind_eq_some_iff.mp e
    refine ⟨δ, Z, F, ds, ok, eds, fun vs H1 Z1 g s1 r1 => ?_⟩
    have sa := Env.shA r1 ht
    unfold mkLst at e
    split at e
    · rename_i hl
      cases e
      refine ⟨by rw [sa.len]; exact hl, fun p hp => k _ _ Z1 [p] (s1.trans (Ext.new hp)) (.ol upd_same (sa.ext (Ext.new hp)).repA) (by simp) fun a ha => ?_⟩
      have ea : a = p := by simpa using ha
      subst ea
      exact ⟨Same.free s1.same hp, fun hz => (ok.ext s1).zs a hz hp⟩
    · cases e
/-- [] of any kind -/
theorem cNew {t : T} {pos : Pos} : PE X (.List [] pos) (tC X.K Γ (.ol t) (xK (.list []))) :=
  (pe_lst pa_nil).imp fun σ H Q ⟨δ, Z, F, d, ok, e, k⟩ => by
    cases e
    refine ⟨Nat.zero_le _, fun p hp => k _ _ Z [p] (Ext.new hp) (.ol upd_same .nil) (by simp) fun a ha => ?_⟩
    have ea : a = p := by simpa using ha
    subst ea
    exact ⟨hp, fun hz => ok.zs a hz hp⟩
end
end Pv

set_option Elab.async false
set_option linter.all false
set_option maxRecDepth 100000
/-! Pv3: statements, calls, loops, comprehensions, as functions of the slots' data. -/
namespace Pv
open PySem PySem.Spec PyProof.Rows L2
inductive Out where
  | nx (δ : List D) | bk (δ : List D) | ct (δ : List D) | rt (d : D) (δ : List D)
abbrev SF := List D → Option Out
/-- the slots' types at each end -/
structure TyE where
  n : List T
  b : List T
  c : List T
  r : List T
  t : T
/-- the slots that a return hands back hold the very values they held -/
def Fix (r : List T) (σ σ' : L2.St) : Prop := ∀ (i : Nat) (t : T), r[i]? = some t → t ≠ .no → σ'[i]? = σ[i]?
theorem Fix.refl (r : List T) (σ : L2.St) : Fix r σ σ := fun _ _ _ _ => rfl
theorem Fix.trans {r : List T} {σ σ1 σ2 : L2.St} (a : Fix r σ σ1) (b : Fix r σ1 σ2) : Fix r σ σ2 := fun i t h n => (b i t h n).trans (a i t h n)
def Post (K : PySem.W.Frag) (E : TyE) (W : Ends) (σ : L2.St) (H : Hp) (Z : FzT) (F : List Addr) : Out → Prop
  | .nx δ' => ∀ σ' H' Z' F', Stp H Z F H' Z' F' → Ok K E.n σ' δ' H' Z' F' → Fix E.r σ σ' → W.nx σ' H'
  | .bk δ' => ∀ σ' H' Z' F', Stp H Z F H' Z' F' → Ok K E.b σ' δ' H' Z' F' → Fix E.r σ σ' → W.bk σ' H'
  | .ct δ' => ∀ σ' H' Z' F', Stp H Z F H' Z' F' → Ok K E.c σ' δ' H' Z' F' → Fix E.r σ σ' → W.ct σ' H'
  | .rt d δ' => ∀ v σ' H' Z' F' g, Stp H Z F H' Z' (F' ++ g) → Ok K E.r σ' δ' H' Z' F' → Fix E.r σ σ' → Rep K H' Z' E.t v d g → (F' ++ g).Nodup → (∀ a ∈ g, ¬ Z' a) → W.rt v H'
def tS (K : PySem.W.Frag) (Γ : List T) (E : TyE) (f : SF) : TS := fun W σ H => ∃ δ Z F out, Ok K Γ σ δ H Z F ∧ f δ = some out ∧ Post K E W σ H Z F out
section
variable {K : PySem.W.Frag} {X : Cx} {Γ Γ' Γ1 : List T} {H H' H1 : Hp} {Z Z' Z1 : FzT} {F F' F1 : List Addr} {σ σ' σ1 : L2.St} {δ δ' : List D} {E : TyE} {en eb ec er : List T} {et : T} {W W' : Ends}
theorem Post.later {o : Out} (p : Post K E W σ H Z F o) (s : Stp H Z F H1 Z1 F1) (fx : Fix E.r σ σ1) : Post K E W σ1 H1 Z1 F1 o := by
  cases o with
  | nx δ' => exact fun σ' H' Z' F' s' o' f' => p σ' H' Z' F' (s.trans s') o' (fx.trans f')
  | bk δ' => exact fun σ' H' Z' F' s' o' f' => p σ' H' Z' F' (s.trans s') o' (fx.trans f')
  | ct δ' => exact fun σ' H' Z' F' s' o' f' => p σ' H' Z' F' (s.trans s') o' (fx.trans f')
  | rt d δ' => exact fun v σ' H' Z' F' g s' o' f' => p v σ' H' Z' F' g (s.trans s') o' (fx.trans f')
theorem _root_.L2.PS.imp {st : Stmt} {t t' : TS} (h : PS X st t) (i : ∀ W σ H, t' W σ H → t W σ H) : PS X st t' := ⟨fun pins s σ H W I q => h.run pins s σ H W I (i _ _ _ q)⟩
theorem _root_.L2.PSs.imp {st : List Stmt} {t t' : TS} (h : PSs X st t) (i : ∀ W σ H, t' W σ H → t W σ H) : PSs X st t' := ⟨fun pins s σ H W I q => h.run pins s σ H W I (i _ _ _ q)⟩

/-! ### what may be forgotten -/
def wk : List T → List T → Bool
  | [], [] => true
  | t :: ts, u :: us => (u == .no || u == t) && wk ts us
  | _, _ => false
theorem Env.weak : ∀ {Γ Γ' : List T} {σ : L2.St} {δ : List D} {F : List Addr}, wk Γ Γ' = true → Env K H Z Γ σ δ F → ∃ F', Env K H Z Γ' σ δ F' ∧ F'.Sublist F
  | _, [], _, _, _, h, .nil => ⟨[], .nil, .slnil⟩
  | _, u :: us, _, _, _, h, .no (d := d) r => by
    unfold wk at h
    rw [Bool.and_eq_true] at h
    obtain ⟨F', e, s⟩ := Env.weak h.2 r
    have : u = .no := by simpa using h.1
    subst this
    exact ⟨F', .no e, s⟩
  | t :: _, u :: us, _, _, _, h, .cons q r => by
    unfold wk at h
    rw [Bool.and_eq_true] at h
    obtain ⟨F', e, s⟩ := Env.weak h.2 r
    have hu : u = .no ∨ u = t := by simpa using h.1
    rcases hu with rfl | rfl
    · exact ⟨F', .no e, s.trans (List.sublist_append_right _ _)⟩
    · exact ⟨_, .cons q e, (List.Sublist.refl _).append s⟩
  | _, [], _, _, _, h, .no _ => by simp [wk] at h
  | _, [], _, _, _, h, .cons _ _ => by simp [wk] at h
theorem Ok.weak (h : wk Γ Γ' = true) (o : Ok K Γ σ δ H Z F) : ∃ F', Ok K Γ' σ δ H Z F' ∧ F'.Sublist F := by
  obtain ⟨F', e, s⟩ := o.env.weak h
  exact ⟨F', ⟨e, o.nd.sublist s, fun a ha => o.dz a (s.subset ha), o.zs⟩, s⟩
theorem Post.weak {E' : TyE} {o : Out} (hn : wk E'.n E.n = true) (hb : wk E'.b E.b = true) (hc : wk E'.c E.c = true) (hr : E'.r = E.r) (ht : E'.t = E.t) (p : Post K E W σ H Z F o) : Post K E' W σ H Z F o := by
  cases o with
  | nx δ' =>
    intro σ' H' Z' F' s o fx
    obtain ⟨F2, o2, sb⟩ := o.weak hn
    exact p σ' H' Z' F2 (s.sub fun x hx => sb.subset hx) o2 (hr ▸ fx)
  | bk δ' =>
    intro σ' H' Z' F' s o fx
    obtain ⟨F2, o2, sb⟩ := o.weak hb
    exact p σ' H' Z' F2 (s.sub fun x hx => sb.subset hx) o2 (hr ▸ fx)
  | ct δ' =>
    intro σ' H' Z' F' s o fx
    obtain ⟨F2, o2, sb⟩ := o.weak hc
    exact p σ' H' Z' F2 (s.sub fun x hx => sb.subset hx) o2 (hr ▸ fx)
  | rt d δ' =>
    intro v σ' H' Z' F' g s o fx r nd dz
    exact p v σ' H' Z' F' g s (hr ▸ o) (hr ▸ fx) (ht ▸ r) nd dz
theorem zWk {st : List Stmt} {f : SF} {n' b' c' r' : List T} {t' : T} (h : PSs X st (tS X.K Γ ⟨n', b', c', r', t'⟩ f)) (hn : wk n' en = true) (hb : wk b' eb = true) (hc : wk c' ec = true) (hr : r' = er) (ht : t' = et) : PSs X st (tS X.K Γ ⟨en, eb, ec, er, et⟩ f) :=
  h.imp fun W σ H ⟨δ, Z, F, out, ok, e, p⟩ => ⟨δ, Z, F, out, ok, e, p.weak hn hb hc hr ht⟩
theorem zWk1 {st : Stmt} {f : SF} {n' b' c' r' : List T} {t' : T} (h : PS X st (tS X.K Γ ⟨n', b', c', r', t'⟩ f)) (hn : wk n' en = true) (hb : wk b' eb = true) (hc : wk c' ec = true) (hr : r' = er) (ht : t' = et) : PS X st (tS X.K Γ ⟨en, eb, ec, er, et⟩ f) :=
  h.imp fun W σ H ⟨δ, Z, F, out, ok, e, p⟩ => ⟨δ, Z, F, out, ok, e, p.weak hn hb hc hr ht⟩

/-! ### a slot is set -/
theorem Env.set : ∀ {Γ : List T} {σ : L2.St} {δ : List D} {F : List Addr} {i : Nat} {t : T} {v : V} {d : D} {g : List Addr}, Env K H Z Γ σ δ F → i < Γ.length → Rep K H Z t v d g →
    ∃ F1 o F2, F = F1 ++ o ++ F2 ∧ Env K H Z (Γ.set i t) (σ.set i (some v)) (δ.set i d) (F1 ++ g ++ F2)
  | _, _, _, _, _, _, _, _, _, .nil, h, _ => by simp at h
  | _, _, _, _, 0, _, _, _, g, .no (g := G) r, _, q => ⟨[], [], G, by simp, by simpa using Env.cons q r⟩
  | _, _, _, _, 0, _, _, _, g, .cons (f := f) (g := G) _ r, _, q => ⟨[], f, G, by simp, by simpa using Env.cons q r⟩
  | _, _, _, _, i + 1, _, _, _, g, .no r, h, q => by
    obtain ⟨F1, o, F2, rfl, e⟩ := Env.set (i := i) r (by simpa using h) q
    exact ⟨F1, o, F2, rfl, .no e⟩
  | _, _, _, _, i + 1, _, _, _, g, .cons (f := f) q' r, h, q => by
    obtain ⟨F1, o, F2, rfl, e⟩ := Env.set (i := i) r (by simpa using h) q
    exact ⟨f ++ F1, o, F2, by simp [List.append_assoc], by simpa [List.append_assoc] using Env.cons q' e⟩
theorem Ok.set {i : Nat} {t : T} {v : V} {d : D} {g : List Addr} (o : Ok K Γ σ δ H Z F) (hi : i < Γ.length) (r : Rep K H Z t v d g) (nd : (F ++ g).Nodup) (dz : ∀ a ∈ g, ¬ Z a) :
    ∃ F', Ok K (Γ.set i t) (σ.set i (some v)) (δ.set i d) H Z F' ∧ ∀ a ∈ F', a ∈ F ++ g := by
  obtain ⟨F1, od, F2, rfl, e⟩ := o.env.set hi r
  refine ⟨F1 ++ g ++ F2, ⟨e, ?_, fun a ha => ?_, o.zs⟩, fun a ha => ?_⟩
  · have p : List.Perm ((F1 ++ od ++ F2) ++ g) (od ++ (F1 ++ g ++ F2)) := by
      refine List.Perm.trans ?_ (List.perm_append_comm_assoc F1 od (g ++ F2) |>.trans (by simp [List.append_assoc]))
      simp only [List.append_assoc]
      exact (List.perm_append_comm (l₁ := F2) (l₂ := g)).append_left od |>.append_left F1
    exact (List.nodup_append.mp (p.nodup nd)).2.1
  · rcases List.mem_append.mp ha with h | h
    · rcases List.mem_append.mp h with h | h
      · exact o.dz a (by simp [h])
      · exact dz a h
    · exact o.dz a (by simp [h])
  · simp only [List.mem_append] at ha ⊢
    rcases ha with (h | h) | h
    · exact .inl (.inl (.inl h))
    · exact .inr h
    · exact .inl (.inr h)
/-- forgetting a slot -/
def isNo (r : List T) (i : Nat) : Bool := match r[i]? with | some t => t == .no | none => true
theorem Fix.set {r : List T} {i : Nat} {ov : Option V} (h : isNo r i = true) : Fix r σ (σ.set i ov) := fun j t hj n => by
  by_cases e : i = j
  · subst e
    unfold isNo at h
    rw [hj] at h
    exact absurd (by simpa using h) n
  · rw [List.getElem?_set_ne e]

/-! ### small statements -/
def sNil : SF := fun δ => some (.nx δ)
def sSeq (f g : SF) : SF := fun δ => (f δ).bind fun o => match o with | .nx δ' => g δ' | o => some o
def sSet (i : Nat) (f : EF) : SF := fun δ => (f δ).bind fun d => some (.nx (δ.set i d))
def sSetM (i : Nat) (f : EM) : SF := fun δ => (f δ).bind fun p => some (.nx (p.2.set i p.1))
def sDrop (f : EM) : SF := fun δ => (f δ).bind fun p => some (.nx p.2)
def sRet (f : EF) : SF := fun δ => (f δ).bind fun d => some (.rt d δ)
def sRetM (f : EM) : SF := fun δ => (f δ).bind fun p => some (.rt p.1 p.2)
def sRetN : SF := fun δ => some (.rt .none δ)
def sIf (c : BF) (f g : SF) : SF := fun δ => (c δ).bind fun b => if b then f δ else g δ
def sIfM (c : BM) (f g : SF) : SF := fun δ => (c δ).bind fun p => if p.1 then f p.2 else g p.2
def sBk : SF := fun δ => some (.bk δ)
def sCt : SF := fun δ => some (.ct δ)
def sNo : SF := fun _ => none
theorem zNil : PSs X [] (tS X.K Γ ⟨Γ, eb, ec, er, et⟩ sNil) := pss_nil.imp fun W σ H ⟨δ, Z, F, out, ok, e, p⟩ => by
  cases e
  exact p σ H Z F .refl ok (.refl _ _)
theorem zCons {st : Stmt} {rest : List Stmt} {f g : SF} (h1 : PS X st (tS X.K Γ ⟨Γ1, eb, ec, er, et⟩ f)) (h2 : PSs X rest (tS X.K Γ1 ⟨en, eb, ec, er, et⟩ g)) : PSs X (st :: rest) (tS X.K Γ ⟨en, eb, ec, er, et⟩ (sSeq f g)) := (pss_cons h1 h2).imp fun W σ H ⟨δ, Z, F, out, ok, e, p⟩ => by
  obtain ⟨o1, e1, e2⟩ := Option.bind_eq_some_iff.mp e
  refine ⟨δ, Z, F, o1, ok, e1, ?_⟩
  cases o1 with
  | nx δ1 => exact fun σ' H' Z' F' s o fx => ⟨δ1, Z', F', out, o, e2, p.later s fx⟩
  | bk δ1 => cases e2; exact p
  | ct δ1 => cases e2; exact p
  | rt d δ1 => cases e2; exact p
theorem zOne {st : Stmt} {f : SF} (h1 : PS X st (tS X.K Γ ⟨en, eb, ec, er, et⟩ f)) : PSs X [st] (tS X.K Γ ⟨en, eb, ec, er, et⟩ f) := pss_one h1
theorem zPass {pos : Pos} : PS X (.Pass pos) (tS X.K Γ ⟨Γ, eb, ec, er, et⟩ sNil) := ps_pass.imp fun W σ H ⟨δ, Z, F, out, ok, e, p⟩ => by cases e; exact p σ H Z F .refl ok (.refl _ _)
theorem zNever {st : Stmt} : PS X st (tS X.K Γ ⟨en, eb, ec, er, et⟩ sNo) := ps_never.imp fun W σ H ⟨δ, Z, F, out, ok, e, p⟩ => nomatch e
theorem zBk {pos : Pos} : PS X (.Break pos) (tS X.K Γ ⟨en, Γ, ec, er, et⟩ sBk) := ps_break.imp fun W σ H ⟨δ, Z, F, out, ok, e, p⟩ => by cases e; exact p σ H Z F .refl ok (.refl _ _)
theorem zCt {pos : Pos} : PS X (.Continue pos) (tS X.K Γ ⟨en, eb, Γ, er, et⟩ sCt) := ps_continue.imp fun W σ H ⟨δ, Z, F, out, ok, e, p⟩ => by cases e; exact p σ H Z F .refl ok (.refl _ _)
theorem post_set {i : Nat} {t : T} {te : TE} {f : EM} (hi : i < Γ'.length) (hr : isNo er i = true) (hq : ∀ Q, tM K Γ Γ' t f σ H Q → te σ H Q) (h : tS K Γ ⟨Γ'.set i t, eb, ec, er, et⟩ (sSetM i f) W σ H) : tAsg te (gName i) W σ H := by
  obtain ⟨δ, Z, F, out, ok, e, p⟩ := h
  obtain ⟨⟨d, δ'⟩, e1, e2⟩ := Option.bind_eq_some_iff.mp e
  cases e2
  refine hq _ ⟨δ, Z, F, d, δ', ok, e1, fun v H' Z' F' g s o r nd dz => ?_⟩
  obtain ⟨F2, o2, sb⟩ := o.set hi r nd dz
  exact p _ H' Z' F2 (s.sub sb) o2 (Fix.set hr)
theorem sSet_eq (i : Nat) (f : EF) : sSet i f = sSetM i (mOf f) := by
  funext δ
  unfold sSet sSetM mOf
  cases f δ <;> rfl
theorem sRet_eq (f : EF) : sRet f = sRetM (mOf f) := by
  funext δ
  unfold sRet sRetM mOf
  cases f δ <;> rfl
theorem zSetM {i : Nat} {x : Str} {e : Expr} {t : T} {f : EM} {pos pos' : Pos} (hN : X.N.Nodup) (hi : X.N[i]? = some x) (hx : Loc X.env.scope x) (he : PE X e (tM X.K Γ Γ' t f)) (hl : i < Γ'.length) (hr : isNo er i = true)
    (hs : swapsWith e (some (.Name x pos')) pos.line X.env = pure false := by rfl) (hf : X.fn x = true ∨ X.env.scope.names.lookup x = some .local := by first | exact .inl rfl | exact .inr rfl | assumption) :
    PS X (.Assign [.Name x pos'] e pos) (tS X.K Γ ⟨Γ'.set i t, eb, ec, er, et⟩ (sSetM i f)) := (ps_set hN hi hx he hs hf).imp fun W σ H h => post_set hl hr (fun Q q => q) h
theorem zSet {i : Nat} {x : Str} {e : Expr} {t : T} {f : EF} {pos pos' : Pos} (hN : X.N.Nodup) (hi : X.N[i]? = some x) (hx : Loc X.env.scope x) (he : PE X e (tC X.K Γ t f)) (hl : i < Γ.length) (hr : isNo er i = true)
    (hs : swapsWith e (some (.Name x pos')) pos.line X.env = pure false := by rfl) (hf : X.fn x = true ∨ X.env.scope.names.lookup x = some .local := by first | exact .inl rfl | exact .inr rfl | assumption) :
    PS X (.Assign [.Name x pos'] e pos) (tS X.K Γ ⟨Γ.set i t, eb, ec, er, et⟩ (sSet i f)) := by rw [sSet_eq]; exact zSetM hN hi hx (mOfC he) hl hr hs hf
theorem zDrop {e : Expr} {t : T} {f : EM} {pos : Pos} (he : PE X e (tM X.K Γ Γ' t f)) (hs : swapsWith e none pos.line X.env = pure false := by rfl) : PS X (.Expr e pos) (tS X.K Γ ⟨Γ', eb, ec, er, et⟩ (sDrop f)) := (ps_expr he hs).imp fun W σ H ⟨δ, Z, F, out, ok, e, p⟩ => by
  obtain ⟨⟨d, δ'⟩, e1, e2⟩ := Option.bind_eq_some_iff.mp e
  cases e2
  exact ⟨δ, Z, F, d, δ', ok, e1, fun v H' Z' F' g s o r nd dz => p _ H' Z' F' (s.sub fun a ha => List.mem_append_left _ ha) o (.refl _ _)⟩
theorem zDoc {x : Str} {j pos pos'} : PS X (.Expr (.Constant (.str x) j pos) pos') (tS X.K Γ ⟨Γ, eb, ec, er, et⟩ sNil) := ps_doc.imp fun W σ H ⟨δ, Z, F, out, ok, e, p⟩ => by cases e; exact p σ H Z F .refl ok (.refl _ _)
theorem zRetM {e : Expr} {f : EM} {pos : Pos} (he : PE X e (tM X.K Γ Γ' et f)) (hw : wk Γ' er = true) : PS X (.Return (some e) pos) (tS X.K Γ ⟨en, eb, ec, er, et⟩ (sRetM f)) := (ps_ret he).imp fun W σ H ⟨δ, Z, F, out, ok, e, p⟩ => by
  obtain ⟨⟨d, δ'⟩, e1, e2⟩ := Option.bind_eq_some_iff.mp e
  cases e2
  refine ⟨δ, Z, F, d, δ', ok, e1, fun v H' Z' F' g s o r nd dz => ?_⟩
  obtain ⟨F2, o2, sb⟩ := o.weak hw
  exact p v σ H' Z' F2 g (s.sub fun a ha => by rcases List.mem_append.mp ha with h | h; exact List.mem_append_left _ (sb.subset h); exact List.mem_append_right _ h) o2 (.refl _ _) r (nd.sublist (sb.append (.refl _))) dz
theorem zRet {e : Expr} {f : EF} {pos : Pos} (he : PE X e (tC X.K Γ et f)) (hw : wk Γ er = true) : PS X (.Return (some e) pos) (tS X.K Γ ⟨en, eb, ec, er, et⟩ (sRet f)) := by rw [sRet_eq]; exact zRetM (mOfC he) hw
theorem zIfM {c : Expr} {a b : List Stmt} {pos : Pos} {k : BM} {f g : SF} (hc : PT X c (bM X.K Γ Γ' k)) (ha : PSs X a (tS X.K Γ' ⟨en, eb, ec, er, et⟩ f)) (hb : PSs X b (tS X.K Γ' ⟨en, eb, ec, er, et⟩ g)) : PS X (.If c a b pos) (tS X.K Γ ⟨en, eb, ec, er, et⟩ (sIfM k f g)) := (ps_if hc ha hb).imp fun W σ H ⟨δ, Z, F, out, ok, e, p⟩ => by
  obtain ⟨⟨b, δ'⟩, e1, e2⟩ := Option.bind_eq_some_iff.mp e
  refine ⟨δ, Z, F, b, δ', ok, e1, fun H' Z' F' s o => ?_⟩
  cases b with
  | true => exact ⟨δ', Z', F', out, o, e2, p.later s (.refl _ _)⟩
  | false => exact ⟨δ', Z', F', out, o, e2, p.later s (.refl _ _)⟩
theorem zIf {c : Expr} {a b : List Stmt} {pos : Pos} {k : BF} {f g : SF} (hc : PT X c (bP X.K Γ k)) (ha : PSs X a (tS X.K Γ ⟨en, eb, ec, er, et⟩ f)) (hb : PSs X b (tS X.K Γ ⟨en, eb, ec, er, et⟩ g)) : PS X (.If c a b pos) (tS X.K Γ ⟨en, eb, ec, er, et⟩ (sIf k f g)) := (ps_if hc ha hb).imp fun W σ H ⟨δ, Z, F, out, ok, e, p⟩ => by
  obtain ⟨b, e1, e2⟩ := Option.bind_eq_some_iff.mp e
  refine ⟨δ, Z, F, b, ok, e1, fun H' Z' s => ?_⟩
  cases b with
  | true => exact ⟨δ, Z', F, out, ok.ext s, e2, p.later s.stp (.refl _ _)⟩
  | false => exact ⟨δ, Z', F, out, ok.ext s, e2, p.later s.stp (.refl _ _)⟩

end
end Pv

set_option Elab.async false
set_option linter.all false
set_option maxRecDepth 100000
/-! Pv4: defs and their calls; lists handed over, frozen, changed. -/
namespace Pv
open PySem PySem.Spec PyProof.Rows L2
/-- a def by its data: the parameters' types, what of them comes back, the answer's type, the answer and the parameters behind it -/
structure FS where
  ps : List T
  io : List T
  t : T
  f : List D → Option (D × List D)
def spF (K : PySem.W.Frag) (S : FS) : Sp := fun vs H Q _ => ∃ ds Z F d ds', Ok K S.ps (vs.map some) ds H Z F ∧ S.f ds = some (d, ds') ∧
  ∀ v H' Z' F' g, Stp H Z F H' Z' (F' ++ g) → Ok K S.io (vs.map some) ds' H' Z' F' → Rep K H' Z' S.t v d g → (F' ++ g).Nodup → (∀ a ∈ g, ¬ Z' a) → Q v H'
def outF (n : Nat) (fo : Bool) : Out → Option (D × List D)
  | .rt d δ => some (d, δ.take n)
  | .nx δ => if fo then some (.none, δ.take n) else none
  | _ => none
/-- a body as a function: nl further slots; fo: it may fall off its end -/
def fnF (nl : Nat) (fo : Bool) (g : SF) : List D → Option (D × List D) := fun ds => (g (ds ++ List.replicate nl .none)).bind (outF ds.length fo)
section
variable {K : PySem.W.Frag} {X : Cx} {Γ Γ' Γ1 : List T} {H H' H1 : Hp} {Z Z' Z1 : FzT} {F F' F1 : List Addr} {σ σ' σ1 : L2.St} {δ δ' : List D} {E : TyE} {en eb ec er : List T} {et : T} {W W' : Ends}
theorem Env.pad : ∀ {Γ : List T} {σ : L2.St} {δ : List D} {F : List Addr} (n : Nat), Env K H Z Γ σ δ F → Env K H Z (Γ ++ List.replicate n .no) (σ ++ List.replicate n none) (δ ++ List.replicate n .none) F
  | _, _, _, _, n, .no r => .no (Env.pad n r)
  | _, _, _, _, n, .cons q r => .cons q (Env.pad n r)
  | _, _, _, _, 0, .nil => .nil
  | _, _, _, _, n + 1, .nil => by
    have h : Env K H Z _ _ _ _ := Env.pad n .nil
    exact .no h
theorem Env.nos : ∀ {L : List T} {σ : L2.St} {δ : List D} {F : List Addr}, Env K H Z L σ δ F → L.all (· == .no) = true → F = []
  | _, _, _, _, .nil, _ => rfl
  | _, _, _, _, .no r, h => Env.nos r (by rw [List.all_cons, Bool.and_eq_true] at h; exact h.2)
  | t :: _, _, _, _, .cons q r, h => by
    rw [List.all_cons, Bool.and_eq_true] at h
    have e : t = T.no := by simpa using h.1
    subst e
    cases q
    rw [Env.nos r h.2]
    rfl
theorem Env.back : ∀ {io L : List T} {vs : List V} {σ : L2.St} {δ : List D} {F : List Addr}, Env K H Z (io ++ L) σ δ F → L.all (· == .no) = true → vs.length = io.length →
    (∀ (i : Nat) (t : T), io[i]? = some t → t ≠ .no → σ[i]? = (vs.map some)[i]?) → Env K H Z io (vs.map some) (δ.take io.length) F
  | [], L, vs, σ, δ, F, h, hl, e, _ => by
    have : vs = [] := List.eq_nil_of_length_eq_zero e
    subst this
    rw [Env.nos h hl]
    exact .nil
  | t :: io, L, [], _, _, _, _, _, e, _ => by simp at e
  | t :: io, L, v :: vs, _, _, _, h, hl, e, q => by
    have e' : vs.length = io.length := by simpa using e
    cases h with
    | no r =>
      have := Env.back r hl e' fun i t hi n => by simpa using q (i + 1) t (by simpa using hi) n
      exact .no this
    | @cons _ _ v' _ _ _ _ _ p r =>
      have ih := Env.back r hl e' fun i t hi n => by simpa using q (i + 1) t (by simpa using hi) n
      by_cases hn : t = .no
      · subst hn
        cases p
        exact .no ih
      · have e0 := q 0 t rfl hn
        have e1 : v' = v := by simpa using e0
        subst e1
        exact .cons p ih
theorem all_rep (n : Nat) : (List.replicate n T.no).all (· == .no) = true := by simp
/-- THE RULE for a def that raises nothing -/
theorem fn_val {P : Program} {w : World} {mg : Str → Option Value} {base : Heap} {x qual : Str} {st : Stmt} {f : Addr} {fd : FuncData} {N ps : List Str} {k nl : Nat} {fo : Bool} {S : FS} {g : SF}
    (Fu : Fun K x qual st f fd) (Sc : FnScope N ps (defScope st)) (hp : S.ps.length = ps.length) (hio : S.io.length = ps.length) (hN : N.length = ps.length + nl) (hf : S.f = fnF nl fo g) (hfo : fo = true → S.t = .sh)
    (body : ∀ (cdv : Value) (A : Around) (outer : List PySem.Env) (s : Shared) (H : Hp) (E : XK), Room k (A.deeper (envOfC qual (defScope st) s.heap.objs.size f cdv)) →
      PSs (cxOf CX0 P w K mg base N qual (defScope st) f cdv A outer s H E).nox (defBody st) (tS K (S.ps ++ List.replicate nl .no) ⟨S.io ++ List.replicate nl .no, [], [], S.io ++ List.replicate nl .no, S.t⟩ g)) :
    FnOk P w K mg base CX0 (k + 1) f fd ps (spF K S) := by
  refine Fu.ok Sc (fun vs H Q E h => ?_) (fun cdv A outer s H vs Q E hr h => ?_)
  · obtain ⟨ds, Z, F, d, ds', ok, _⟩ := h
    have := ok.env.len.1
    rw [List.length_map] at this
    omega
  · obtain ⟨ds, Z, F, d, ds', ok, e, k⟩ := h
    have lv : vs.length = ps.length := by
      have := ok.env.len.1
      rw [List.length_map] at this
      omega
    have ld : ds.length = ps.length := by
      have := ok.env.len.2
      omega
    rw [hf] at e
    obtain ⟨out, e1, e2⟩ := Option.bind_eq_some_iff.mp e
    refine ⟨_, body cdv A outer s H E hr, ds ++ List.replicate nl .none, Z, F, out, ⟨?_, ok.nd, ok.dz, ok.zs⟩, e1, ?_⟩
    · have hs : L2.start N vs = vs.map some ++ List.replicate nl none := by
        unfold L2.start
        rw [show N.length - vs.length = nl by omega]
      rw [hs]
      exact ok.env.pad nl
    · have back : ∀ {σ' : L2.St} {δ' : List D} {H' : Hp} {Z' : FzT} {F' : List Addr}, Ok K (S.io ++ List.replicate nl .no) σ' δ' H' Z' F' → Fix (S.io ++ List.replicate nl .no) (L2.start N vs) σ' → Ok K S.io (vs.map some) (δ'.take ds.length) H' Z' F' := fun o fx => by
        rw [show ds.length = S.io.length by omega]
        refine ⟨o.env.back (all_rep nl) (by omega) fun i t hi n => ?_, o.nd, o.dz, o.zs⟩
        have hl : i < S.io.length := (List.getElem?_eq_some_iff.mp hi).1
        rw [fx i t (by rw [List.getElem?_append_left hl]; exact hi) n]
        unfold L2.start
        rw [List.getElem?_append_left (by rw [List.length_map]; omega)]
      cases out with
      | nx δ' =>
        unfold outF at e2
        cases hq : fo with
        | false => rw [hq] at e2; cases e2
        | true =>
          rw [hq] at e2
          cases e2
          intro σ' H' Z' F' s' o fx
          refine k .non H' Z' F' [] (by simpa using s') (back o fx) ?_ (by simpa using o.nd) (fun _ q => nomatch q)
          rw [hfo hq]
          exact .sh .non
      | rt d' δ' =>
        cases e2
        intro v σ' H' Z' F' g' s' o fx r nd dz
        exact k v H' Z' F' g' s' (back o fx) r nd dz
      | bk δ' => cases e2
      | ct δ' => cases e2

/-! ### a slot's value is taken out -/
theorem Env.take : ∀ {Γ : List T} {σ : L2.St} {δ : List D} {F : List Addr} {i : Nat} {t : T} {d : D}, Env K H Z Γ σ δ F → Γ[i]? = some t → t ≠ .no → δ[i]? = some d →
    ∃ v F1 g F2, σ[i]? = some (some v) ∧ Rep K H Z t v d g ∧ F = F1 ++ g ++ F2 ∧ Env K H Z (Γ.set i .no) σ δ (F1 ++ F2)
  | _, _, _, _, i, _, _, .nil, h, _, _ => by simp at h
  | _, _, _, _, 0, t, _, .no r, h, n, _ => by simp at h; exact absurd h.symm n
  | _, _, _, _, i + 1, t, d, .no r, h, n, e => by
    obtain ⟨v, F1, g, F2, h1, h2, h3, h4⟩ := Env.take (i := i) r (by simpa using h) n (by simpa using e)
    exact ⟨v, F1, g, F2, by simpa using h1, h2, h3, .no h4⟩
  | _, _, _, _, 0, t, d, .cons (f := f) (g := G) q r, h, n, e => by
    simp at h e; subst h; subst e
    exact ⟨_, [], f, G, rfl, q, by simp, by simpa using Env.no r⟩
  | _, _, _, _, i + 1, t, d, .cons (f := f) q r, h, n, e => by
    obtain ⟨v, F1, g, F2, h1, h2, h3, h4⟩ := Env.take (i := i) r (by simpa using h) n (by simpa using e)
    exact ⟨v, f ++ F1, g, F2, by simpa using h1, h2, by rw [h3]; simp [List.append_assoc], by simpa [List.append_assoc] using Env.cons q h4⟩
theorem nodup_mid {F1 g F2 : List Addr} (h : (F1 ++ g ++ F2).Nodup) : (F1 ++ F2 ++ g).Nodup := by
  refine List.Perm.nodup ?_ h
  rw [List.append_assoc, List.append_assoc]
  exact (List.perm_append_comm (l₁ := g) (l₂ := F2)).append_left F1
def xMov (i : Nat) : EM := fun δ => (δ[i]?).map (·, δ)
theorem Ok.take {i : Nat} {t : T} {d : D} (o : Ok K Γ σ δ H Z F) (h : Γ[i]? = some t) (n : t ≠ .no) (e : δ[i]? = some d) :
    ∃ v F' g, σ[i]? = some (some v) ∧ Rep K H Z t v d g ∧ Ok K (Γ.set i .no) σ δ H Z F' ∧ (F' ++ g).Nodup ∧ (∀ a ∈ F' ++ g, a ∈ F) := by
  obtain ⟨v, F1, g, F2, h1, h2, rfl, h4⟩ := o.env.take h n e
  have nd := nodup_mid o.nd
  have sub : ∀ a ∈ F1 ++ F2 ++ g, a ∈ F1 ++ g ++ F2 := fun a ha => by
    simp only [List.mem_append] at ha ⊢
    rcases ha with (h | h) | h
    · exact .inl (.inl h)
    · exact .inr h
    · exact .inl (.inr h)
  exact ⟨v, F1 ++ F2, g, h1, h2, ⟨h4, (List.nodup_append.mp nd).1, fun a ha => o.dz a (sub a (List.mem_append_left _ ha)), o.zs⟩, nd, sub⟩
theorem mMov (i : Nat) {x : Str} {pos : Pos} {t : T} (ht : Γ[i]? = some t) (hn : t ≠ .no) (h : PE X (.Name x pos) (tVar i)) : PE X (.Name x pos) (tM X.K Γ (Γ.set i .no) t (xMov i)) := h.imp fun σ H Q ⟨δ, Z, F, d, δ', o, e, k⟩ => by
  unfold xMov at e
  cases q : δ[i]? with
  | none => rw [q] at e; cases e
  | some d' =>
    rw [q] at e; cases e
    obtain ⟨v, F', g, h1, h2, h3, h4, h5⟩ := o.take ht hn q
    exact ⟨v, h1, k v H Z F' g (Stp.refl.sub h5) h3 h2 h4 fun a ha => o.dz a (h5 a (List.mem_append_right _ ha))⟩

/-! ### frozen -/
def T.full : T → Bool
  | .no => false
  | .sh => true
  | .ol t => t.full
  | .pr s t => s.full && t.full
  | .dk _ => false
  | .dt _ => false
  | .ex _ _ => false
mutual
theorem Sh.zmono (m : ∀ a, Z a → Z' a) : ∀ {v : V} {d : D}, Sh K H Z v d → Sh K H Z' v d
  | _, _, .non => .non
  | _, _, .bl b => .bl b
  | _, _, .int i => .int i
  | _, _, .str x => .str x
  | _, _, .lst z r => .lst (z.mono m) (ShA.zmono m r)
  | _, _, .tup h r => .tup h (ShA.zmono m r)
  | _, _, .dk z h e r => .dk (m _ z) h e (ShA.zmono m r)
  | _, _, .dt z h e r => .dt (m _ z) h e (ShA.zmono m r)
theorem ShA.zmono (m : ∀ a, Z a → Z' a) : ∀ {vs : List V} {ds : List D}, ShA K H Z vs ds → ShA K H Z' vs ds
  | _, _, .nil => .nil
  | _, _, .cons h r => .cons (Sh.zmono m h) (ShA.zmono m r)
end
mutual
theorem Rep.zmono (m : ∀ a, Z a → Z' a) : ∀ {t : T} {v : V} {d : D} {f : List Addr}, Rep K H Z t v d f → Rep K H Z' t v d f
  | _, _, _, _, .no => .no
  | _, _, _, _, .sh h => .sh (h.zmono m)
  | _, _, _, _, .ol h r => .ol h (RepA.zmono m r)
  | _, _, _, _, .pr h r1 r2 => .pr h (Rep.zmono m r1) (Rep.zmono m r2)
  | _, _, _, _, .dk h e r => .dk h e (RepA.zmono m r)
  | _, _, _, _, .dt h e r => .dt h e (RepA.zmono m r)
  | _, _, _, _, .ex z h k => .ex (m _ z) h fun p hp => let ⟨v, h1, h2⟩ := k p hp; ⟨v, h1, h2.zmono m⟩
theorem RepA.zmono (m : ∀ a, Z a → Z' a) : ∀ {t : T} {vs : List V} {ds : List D} {f : List Addr}, RepA K H Z t vs ds f → RepA K H Z' t vs ds f
  | _, _, _, _, .nil => .nil
  | _, _, _, _, .cons h r => .cons (Rep.zmono m h) (RepA.zmono m r)
end
/-- what is frozen besides -/
def zu (Z : FzT) (g : List Addr) : FzT := fun a => Z a ∨ a ∈ g
mutual
theorem Rep.frz (m : ∀ a, Z a → Z' a) : ∀ {t : T} {v : V} {d : D} {f : List Addr}, Rep K H Z t v d f → t.full = true → (∀ a ∈ f, Z' a) → Sh K H Z' v d
  | _, _, _, _, .no, h, _ => by cases h
  | _, _, _, _, .sh h, _, _ => h.zmono m
  | _, _, _, _, .ol h r, hf, q => .lst (.inl ⟨q _ List.mem_cons_self, .inl h⟩) (RepA.frz m r hf fun a ha => q a (List.mem_cons_of_mem _ ha))
  | _, _, _, _, .dk _ _ _, hf, _ => by cases hf
  | _, _, _, _, .dt _ _ _, hf, _ => by cases hf
  | _, _, _, _, .ex _ _ _, hf, _ => by cases hf
  | _, _, _, _, .pr h r1 r2, hf, q => by
    have hf' := (Bool.and_eq_true _ _).mp hf
    exact .tup h (.cons (Rep.frz m r1 hf'.1 fun a ha => q a (List.mem_append_left _ ha)) (.cons (Rep.frz m r2 hf'.2 fun a ha => q a (List.mem_append_right _ ha)) .nil))
theorem RepA.frz (m : ∀ a, Z a → Z' a) : ∀ {t : T} {v : List V} {d : List D} {f : List Addr}, RepA K H Z t v d f → t.full = true → (∀ a ∈ f, Z' a) → ShA K H Z' v d
  | _, _, _, _, .nil, _, _ => .nil
  | _, _, _, _, .cons h r, hf, q => .cons (Rep.frz m h hf fun a ha => q a (List.mem_append_left _ ha)) (RepA.frz m r hf fun a ha => q a (List.mem_append_right _ ha))
end
/-- g is frozen: it leaves what is owned -/
theorem Stp.freeze {g : List Addr} (s : Stp H Z F H' Z' (F' ++ g)) (m : Mu H' g) : Stp H Z F H' (zu Z' g) F' :=
  ⟨s.keep, fun a h => .inl (s.mono a h), fun a h => s.own a (List.mem_append_left _ h), fun a h => Or.elim h (s.frz a) fun h => .inr (s.own a (List.mem_append_right _ h)), s.live, fun a h => Or.elim h (s.zs a) fun h => .inr (m.some h)⟩
theorem Env.zmono (m : ∀ a, Z a → Z' a) : ∀ {Γ : List T} {σ : L2.St} {δ : List D} {F : List Addr}, Env K H Z Γ σ δ F → Env K H Z' Γ σ δ F
  | _, _, _, _, .nil => .nil
  | _, _, _, _, .no r => .no (r.zmono m)
  | _, _, _, _, .cons q r => .cons (q.zmono m) (r.zmono m)
theorem Ok.freeze {g : List Addr} (o : Ok K Γ σ δ H Z F) (nd : (F ++ g).Nodup) (m : Mu H g) : Ok K Γ σ δ H (zu Z g) F :=
  ⟨o.env.zmono fun _ => .inl, o.nd, fun a ha h => Or.elim h (o.dz a ha) fun h => (List.nodup_append.mp nd).2.2 a ha a h rfl, fun a h => Or.elim h (o.zs a) fun h => m.some h⟩
theorem mFrz {t : T} {f : EM} {e : Expr} (h : PE X e (tM X.K Γ Γ' t f)) (hf : t.full = true := by rfl) : PE X e (tM X.K Γ Γ' .sh f) := h.imp fun σ H Q ⟨δ, Z, F, d, δ', o, e, k⟩ =>
  ⟨δ, Z, F, d, δ', o, e, fun v H' Z' F' g s o' r nd dz => k v H' (zu Z' g) F' [] (by simpa using s.freeze r.mu) (o'.freeze nd r.mu) (.sh (r.frz (fun _ => .inl) hf fun _ => .inr)) (by simpa using o'.nd) (fun _ q => nomatch q)⟩
theorem cFrz {t : T} {f : EF} {e : Expr} (h : PE X e (tC X.K Γ t f)) (hf : t.full = true := by rfl) : PE X e (tP X.K Γ .sh f) := h.imp fun σ H Q ⟨δ, Z, F, d, o, e, k⟩ =>
  ⟨δ, Z, F, d, o, e, fun v H' Z' g s r nd dz => k v H' (zu Z' g) [] ⟨s.keep, fun a h => .inl (s.mono a h), (fun _ q => nomatch q), fun a h => Or.elim h (s.frz a) fun h => .inr (.inr (dz a h).1), s.live, fun a h => Or.elim h (s.zs a) fun h => .inr (r.mu.some h)⟩
    (.sh (r.frz (fun _ => .inl) hf fun _ => .inr))⟩
/-- the slot i is frozen ahead of a block -/
theorem zFrz (i : Nat) {t : T} {sts : List Stmt} {f : SF} (ht : Γ[i]? = some t) (hf : t.full = true) (h : PSs X sts (tS X.K (Γ.set i .sh) ⟨en, eb, ec, er, et⟩ f)) (hl : ∀ δ o, f δ = some o → i < δ.length → True := by intros; trivial) : PSs X sts (tS X.K Γ ⟨en, eb, ec, er, et⟩ f) := h.imp fun W σ H ⟨δ, Z, F, out, ok, e, p⟩ => by
  have hn : t ≠ .no := fun z => by rw [z] at hf; cases hf
  have hi : i < Γ.length := (List.getElem?_eq_some_iff.mp ht).1
  obtain ⟨d, hd⟩ : ∃ d, δ[i]? = some d := ⟨δ[i]'(by rw [ok.env.len.2]; exact hi), by simp [ok.env.len.2, hi]⟩
  obtain ⟨v, F', g, h1, h2, h3, h4, h5⟩ := ok.take ht hn hd
  have s := (Stp.refl (H := H) (Z := Z) (F := F)).sub h5
  have o1 := h3.freeze h4 h2.mu
  have sh : Sh X.K H (zu Z g) v d := h2.frz (fun _ => .inl) hf fun _ => .inr
  obtain ⟨F2, o2, sb⟩ := o1.set (i := i) (t := .sh) (v := v) (d := d) (g := []) (by simpa using hi) (.sh sh) (by simpa using o1.nd) (fun _ q => nomatch q)
  have e1 : σ.set i (some v) = σ := by
    refine List.ext_getElem? fun j => ?_
    by_cases hj : i = j
    · subst hj
      rw [List.getElem?_set_self (by rw [ok.env.len.1]; exact hi), h1]
    · rw [List.getElem?_set_ne hj]
  have e2 : δ.set i d = δ := by
    refine List.ext_getElem? fun j => ?_
    by_cases hj : i = j
    · subst hj
      rw [List.getElem?_set_self (by rw [ok.env.len.2]; exact hi), hd]
    · rw [List.getElem?_set_ne hj]
  rw [e1, e2, List.set_set] at o2
  exact ⟨δ, _, F2, out, o2, e, p.later ((s.freeze h2.mu).sub fun a ha => by simpa using sb a ha) (.refl _ _)⟩
end
end Pv

set_option Elab.async false
set_option linter.all false
set_option maxRecDepth 100000
/-! Pv5: calls of the text's own defs; methods that change a list. -/
namespace Pv
open PySem PySem.Spec PyProof.Rows L2
def xCall (f : List D → Option (D × List D)) (a : LF) : EF := fun δ => (a δ).bind fun ds => (f ds).map (·.1)
def giveT : List (Option Nat) → List T → List T → List T
  | some i :: gb, t :: ts, Γ => giveT gb ts (Γ.set i t)
  | none :: gb, _ :: ts, Γ => giveT gb ts Γ
  | _, _, Γ => Γ
def giveD : List (Option Nat) → List D → List D → List D
  | some i :: gb, d :: ds, δ => giveD gb ds (δ.set i d)
  | none :: gb, _ :: ds, δ => giveD gb ds δ
  | _, _, δ => δ
def xCallM (gb : List (Option Nat)) (f : List D → Option (D × List D)) (a : LM) : EM := fun δ => (a δ).bind fun p => (f p.1).map fun q => (q.1, giveD gb q.2 p.2)
/-- arguments that come from slots -/
def Gv : List (Option Nat) → List V → L2.St → Prop
  | some i :: gb, v :: vs, σ => σ[i]? = some (some v) ∧ Gv gb vs σ
  | none :: gb, _ :: vs, σ => Gv gb vs σ
  | [], [], _ => True
  | _, _, _ => False
def aM (K : PySem.W.Frag) (Γ Γ' ts : List T) (gb : List (Option Nat)) (f : LM) : TA := fun σ H Q => ∃ δ Z F ds δ', Ok K Γ σ δ H Z F ∧ f δ = some (ds, δ') ∧
  ∀ vs H' Z' F' g, Stp H Z F H' Z' (F' ++ g) → Ok K Γ' σ δ' H' Z' F' → Env K H' Z' ts (vs.map some) ds g → (F' ++ g).Nodup → (∀ a ∈ g, ¬ Z' a) → Gv gb vs σ → Q vs H'
def xmNil : LM := fun δ => some ([], δ)
def xmCons (a : EM) (r : LM) : LM := fun δ => (a δ).bind fun p => (r p.2).bind fun q => some (p.1 :: q.1, q.2)
section
variable {K : PySem.W.Frag} {X : Cx} {Γ Γ' Γ1 Γ2 : List T} {H H' H1 H2 : Hp} {Z Z' Z1 Z2 : FzT} {F F' F1 F2 : List Addr} {σ σ' σ1 : L2.St} {δ δ' : List D} {E : TyE} {en eb ec er : List T} {et : T} {W W' : Ends}
theorem Env.shs : ∀ {ts : List T} {σ : L2.St} {ds : List D} {g : List Addr}, Env K H Z ts σ ds g → ts.all (· == .sh) = true → g = []
  | _, _, _, _, .nil, _ => rfl
  | _, _, _, _, .no r, h => by simp at h
  | t :: _, _, _, _, .cons q r, h => by
    rw [List.all_cons, Bool.and_eq_true] at h
    have e : t = .sh := by simpa using h.1
    subst e
    rw [q.shOf.2, Env.shs r h.2]
    rfl
/-- f(e, ..) of a def that takes and gives shared data alone -/
theorem cCall {k : Nat} {f : Addr} {fd : FuncData} {ps : List Str} {S : FS} {x : Str} {p pos : Pos} {e : Expr} {es : List Expr} {fa : LF} (Fn : FnOk X.prog X.w X.K X.mg X.base CX0 k f fd ps (spF X.K S)) (hr : Room k X.A) (hg : Gl X x) (hm : X.mg x = some (.ref f)) (hk : PySem.W.keepIn X.K (.ref f) = true)
    (hb : Binds X.K fd ps []) (ha : PA X (e :: es) (aP X.K Γ S.ps fa)) (h1 : S.ps.all (· == .sh) = true) (h2 : S.io.all (· == .no) = true) (hdb : (x == ("__debug__" : Str)) = false := by decide)
    (he : starEach (e :: es) X.env = (false, eval e X.env) :: starEach es X.env := by rfl) (hpl : (backTo pos (starEach es X.env)).any (·.1) = false := by rfl) :
    PE X (.Call (.Name x p) (e :: es) [] pos) (tC X.K Γ S.t (xCall S.f fa)) := (pe_call Fn hr hg hm hk hb .nil pass0 ha hdb he hpl).imp fun σ H Q ⟨δ, Z, F, d, ok, e, k⟩ => by
  obtain ⟨ds, e1, e2⟩ := Option.bind_eq_some_iff.mp e
  obtain ⟨⟨d', ds'⟩, e3, e4⟩ := Option.map_eq_some_iff.mp e2
  cases e4
  refine ⟨δ, Z, F, ds, ok, e1, fun vs H1 Z1 g s1 r1 => ?_⟩
  have eg := r1.shs h1
  subst eg
  refine ⟨ds, Z1, [], d', ds', ⟨by rw [List.append_nil]; exact r1, .nil, (fun _ q => nomatch q), (ok.ext s1).zs⟩, e3, fun v H' Z' F' g' s' o r nd dz => ?_⟩
  have eF := o.env.nos h2
  subst eF
  refine k v H' Z' g' (s1.trans (s'.sub fun a q => nomatch q)) r (by simpa using nd) fun a ha => ⟨?_, dz a ha⟩
  rcases s'.own a ha with z | z
  · cases z
  · exact Same.free s1.same z

/-! ### frames of steps -/
theorem Stp.frame {g : List Addr} (s : Stp H Z F H' Z' F') : Stp H Z (F ++ g) H' Z' (F' ++ g) :=
  ⟨fun a o h n => s.keep a o h fun z => n (List.mem_append_left _ z), s.mono, fun a h => (List.mem_append.mp h).elim (fun z => (s.own a z).imp (List.mem_append_left _) id) fun z => .inl (List.mem_append_right _ z),
    fun a h => (s.frz a h).imp id fun z => z.imp (List.mem_append_left _) id, s.live, s.zs⟩
theorem Stp.dzs {g : List Addr} (s : Stp H Z F H' Z' F') (m : Mu H g) (dz : ∀ a ∈ g, ¬ Z a) (nf : ∀ a ∈ g, a ∉ F) : ∀ a ∈ g, ¬ Z' a := fun a ha h => by
  rcases s.frz a h with z | z | z
  · exact dz a ha z
  · exact nf a ha z
  · exact m.some ha z
theorem Stp.apart {g : List Addr} (s : Stp H Z F H' Z' F') (m : Mu H g) (nf : ∀ a ∈ g, a ∉ F) : ∀ a ∈ g, a ∉ F' := fun a ha h => by
  rcases s.own a h with z | z
  · exact nf a ha z
  · exact m.some ha z
theorem nd_apart {A B : List Addr} (h : (A ++ B).Nodup) : ∀ a ∈ B, a ∉ A := fun a ha hb => (List.nodup_append.mp h).2.2 a hb a ha rfl
theorem nd_of {A B : List Addr} (h1 : A.Nodup) (h2 : B.Nodup) (h : ∀ a ∈ B, a ∉ A) : (A ++ B).Nodup := nodup_app h1 h2 h
theorem aMNil : PA X [] (aM X.K Γ Γ [] [] xmNil) := pa_nil.imp fun σ H Q ⟨δ, Z, F, d, δ', ok, e, k⟩ => by
  cases e
  exact k [] H Z F [] (by simpa using Stp.refl) ok .nil (by simpa using ok.nd) (fun _ q => nomatch q) trivial
theorem aM_step {v : V} {t : T} {ts : List T} {d : D} {ds : List D} {vs : List V} {g1 g2 : List Addr} (s1 : Stp H Z F H1 Z1 (F1 ++ g1)) (ok1 : Ok K Γ1 σ δ H1 Z1 F1) (r1 : Rep K H1 Z1 t v d g1) (nd1 : (F1 ++ g1).Nodup) (dz1 : ∀ a ∈ g1, ¬ Z1 a)
    (s2 : Stp H1 Z1 F1 H2 Z2 (F2 ++ g2)) (ok2 : Ok K Γ2 σ δ' H2 Z2 F2) (r2 : Env K H2 Z2 ts (vs.map some) ds g2) (nd2 : (F2 ++ g2).Nodup) (dz2 : ∀ a ∈ g2, ¬ Z2 a) :
    Stp H Z F H2 Z2 (F2 ++ (g1 ++ g2)) ∧ Env K H2 Z2 (t :: ts) ((v :: vs).map some) (d :: ds) (g1 ++ g2) ∧ (F2 ++ (g1 ++ g2)).Nodup ∧ ∀ a ∈ g1 ++ g2, ¬ Z2 a := by
  have ap := s2.apart r1.mu (nd_apart nd1)
  refine ⟨s1.trans (s2.frame.sub fun a ha => by simp only [List.mem_append] at ha ⊢; rcases ha with h | h | h <;> simp [h]), .cons (r1.step s2 ok1.mu ok1.dz (nd_apart nd1)) r2, ?_, fun a ha => (List.mem_append.mp ha).elim (s2.dzs r1.mu dz1 (nd_apart nd1) a) (dz2 a)⟩
  have nd : ((F2 ++ g2) ++ g1).Nodup := nd_of nd2 (List.nodup_append.mp nd1).2.1 ap
  refine List.Perm.nodup ?_ nd
  rw [List.append_assoc]
  exact (List.perm_append_comm).append_left F2
theorem aMCons {t : T} {ts : List T} {gb : List (Option Nat)} {f : EM} {r : LM} {e : Expr} {es : List Expr} (ha : PE X e (tM X.K Γ Γ1 t f)) (hr : PA X es (aM X.K Γ1 Γ2 ts gb r)) (hs : starEach (e :: es) X.env = (false, eval e X.env) :: starEach es X.env := by rfl) :
    PA X (e :: es) (aM X.K Γ Γ2 (t :: ts) (none :: gb) (xmCons f r)) := (pa_cons ha hr hs).imp fun σ H Q ⟨δ, Z, F, ds, δ', ok, e, k⟩ => by
  obtain ⟨⟨d, δ1⟩, e1, e2⟩ := Option.bind_eq_some_iff.mp e
  obtain ⟨⟨ds', δ2⟩, e3, e4⟩ := Option.bind_eq_some_iff.mp e2
  cases e4
  refine ⟨δ, Z, F, d, δ1, ok, e1, fun v H1 Z1 F1 g1 s1 ok1 r1 nd1 dz1 => ⟨δ1, Z1, F1, ds', δ2, ok1, e3, fun vs H2 Z2 F2 g2 s2 ok2 r2 nd2 dz2 gv => ?_⟩⟩
  obtain ⟨a, b, c, d⟩ := aM_step s1 ok1 r1 nd1 dz1 s2 ok2 r2 nd2 dz2
  exact k (v :: vs) H2 Z2 F2 _ a ok2 b c d gv
/-- an argument that is a slot's own list: it comes back -/
theorem aMIo (i : Nat) {x : Str} {pos : Pos} {t : T} {ts : List T} {gb : List (Option Nat)} {r : LM} {es : List Expr} (ht : Γ[i]? = some t) (hn : t ≠ .no) (h : PE X (.Name x pos) (tVar i)) (hr : PA X es (aM X.K (Γ.set i .no) Γ2 ts gb r))
    (hs : starEach (.Name x pos :: es) X.env = (false, eval (.Name x pos) X.env) :: starEach es X.env := by rfl) :
    PA X (.Name x pos :: es) (aM X.K Γ Γ2 (t :: ts) (some i :: gb) (xmCons (xMov i) r)) := (pa_cons h hr hs).imp fun σ H Q ⟨δ, Z, F, ds, δ', ok, e, k⟩ => by
  obtain ⟨⟨d, δ1⟩, e1, e2⟩ := Option.bind_eq_some_iff.mp e
  obtain ⟨⟨ds', δ2⟩, e3, e4⟩ := Option.bind_eq_some_iff.mp e2
  cases e4
  unfold xMov at e1
  cases q : δ[i]? with
  | none => rw [q] at e1; cases e1
  | some d' =>
    rw [q] at e1; cases e1
    obtain ⟨v, F1, g1, h1, h2, h3, h4, h5⟩ := ok.take ht hn q
    refine ⟨v, h1, δ, Z, F1, ds', δ2, h3, e3, fun vs H2 Z2 F2 g2 s2 ok2 r2 nd2 dz2 gv => ?_⟩
    obtain ⟨a, b, c, d⟩ := aM_step (Stp.refl.sub h5) h3 h2 h4 (fun a ha => ok.dz a (h5 a (List.mem_append_right _ ha))) s2 ok2 r2 nd2 dz2
    exact k (v :: vs) H2 Z2 F2 _ a ok2 b c d ⟨h1, gv⟩

theorem set_self {α : Type} {l : List α} {i : Nat} {a : α} (h : l[i]? = some a) : l.set i a = l := by
  refine List.ext_getElem? fun j => ?_
  by_cases hj : i = j
  · subst hj
    rw [List.getElem?_set_self (List.getElem?_eq_some_iff.mp h).1, h]
  · rw [List.getElem?_set_ne hj]
theorem give : ∀ {gb : List (Option Nat)} {io : List T} {vs : List V} {ds : List D} {Γ : List T} {δ : List D} {F G : List Addr}, Ok K Γ σ δ H Z F → Env K H Z io (vs.map some) ds G → (F ++ G).Nodup → (∀ a ∈ G, ¬ Z a) → Gv gb vs σ →
    ∃ F', Ok K (giveT gb io Γ) σ (giveD gb ds δ) H Z F' ∧ ∀ a ∈ F', a ∈ F ++ G
  | [], io, vs, ds, Γ, δ, F, G, ok, _, _, _, _ => ⟨F, by simpa [giveT, giveD] using ok, fun a h => List.mem_append_left _ h⟩
  | some i :: gb, [], v :: vs, ds, Γ, δ, F, G, ok, r, _, _, _ => by cases r
  | none :: gb, [], v :: vs, ds, Γ, δ, F, G, ok, r, _, _, _ => by cases r
  | some i :: gb, t :: io, [], ds, Γ, δ, F, G, ok, r, _, _, gv => by cases gv
  | none :: gb, t :: io, [], ds, Γ, δ, F, G, ok, r, _, _, gv => by cases gv
  | some i :: gb, [], [], ds, Γ, δ, F, G, ok, r, _, _, gv => by cases gv
  | none :: gb, [], [], ds, Γ, δ, F, G, ok, r, _, _, gv => by cases gv
  | none :: gb, t :: io, v :: vs, d :: ds, Γ, δ, F, G, ok, r, nd, dz, gv => by
    have go : ∀ G', Env K H Z io (vs.map some) ds G' → (∀ a ∈ G', a ∈ G) → G'.Nodup → ∃ F', Ok K (giveT gb io Γ) σ (giveD gb ds δ) H Z F' ∧ ∀ a ∈ F', a ∈ F ++ G := fun G' r' sub nd' => by
      obtain ⟨F', o, s⟩ := give (gb := gb) ok r' (nd_of ok.nd nd' fun a h => nd_apart nd a (sub a h)) (fun a h => dz a (sub a h)) gv
      exact ⟨F', o, fun a h => (List.mem_append.mp (s a h)).elim (List.mem_append_left _) fun z => List.mem_append_right _ (sub a z)⟩
    have ndG := (List.nodup_append.mp nd).2.1
    cases r with
    | no r => exact go _ r (fun _ h => h) ndG
    | cons q r => exact go _ r (fun _ h => List.mem_append_right _ h) (List.nodup_append.mp ndG).2.1
  | some i :: gb, t :: io, v :: vs, d :: ds, Γ, δ, F, G, ok, r, nd, dz, gv => by
    obtain ⟨hv, gv⟩ := gv
    have ndG := (List.nodup_append.mp nd).2.1
    have hi : i < Γ.length := by
      have := (List.getElem?_eq_some_iff.mp hv).1
      rw [ok.env.len.1] at this
      exact this
    have go : ∀ g G', Rep K H Z t v d g → Env K H Z io (vs.map some) ds G' → g ++ G' = G → ∃ F', Ok K (giveT gb io (Γ.set i t)) σ (giveD gb ds (δ.set i d)) H Z F' ∧ ∀ a ∈ F', a ∈ F ++ G := fun g G' q r' eG => by
      subst eG
      have nd' : (F ++ g ++ G').Nodup := by rw [List.append_assoc]; exact nd
      obtain ⟨F1, o1, s1⟩ := ok.set hi q (List.nodup_append.mp nd').1 fun a h => dz a (List.mem_append_left _ h)
      rw [set_self hv] at o1
      obtain ⟨F', o, s⟩ := give (gb := gb) o1 r' (nd_of o1.nd (List.nodup_append.mp nd').2.1 fun a h z => nd_apart nd' a h (s1 a z)) (fun a h => dz a (List.mem_append_right _ h)) gv
      refine ⟨F', o, fun a h => ?_⟩
      rcases List.mem_append.mp (s a h) with z | z
      · have := s1 a z
        simp only [List.mem_append] at this ⊢
        rcases this with y | y <;> simp [y]
      · simp [z]
    cases r with
    | no r => exact go [] _ .no r rfl
    | cons q r => exact go _ _ q r rfl
  | some i :: gb, t :: io, v :: vs, [], Γ, δ, F, G, ok, r, nd, dz, gv => by cases r
  | none :: gb, t :: io, v :: vs, [], Γ, δ, F, G, ok, r, nd, dz, gv => by cases r
/-- f(e, ..), lists of slots handed over and back -/
theorem mCall {k : Nat} {f : Addr} {fd : FuncData} {ps : List Str} {S : FS} {x : Str} {p pos : Pos} {e : Expr} {es : List Expr} {gb : List (Option Nat)} {fa : LM} (Fn : FnOk X.prog X.w X.K X.mg X.base CX0 k f fd ps (spF X.K S)) (hr : Room k X.A) (hg : Gl X x) (hm : X.mg x = some (.ref f)) (hk : PySem.W.keepIn X.K (.ref f) = true)
    (hb : Binds X.K fd ps []) (ha : PA X (e :: es) (aM X.K Γ Γ' S.ps gb fa)) (hdb : (x == ("__debug__" : Str)) = false := by decide)
    (he : starEach (e :: es) X.env = (false, eval e X.env) :: starEach es X.env := by rfl) (hpl : (backTo pos (starEach es X.env)).any (·.1) = false := by rfl) :
    PE X (.Call (.Name x p) (e :: es) [] pos) (tM X.K Γ (giveT gb S.io Γ') S.t (xCallM gb S.f fa)) := (pe_call Fn hr hg hm hk hb .nil pass0 ha hdb he hpl).imp fun σ H Q ⟨δ, Z, F, d, δ', ok, e, k⟩ => by
  obtain ⟨⟨ds, δ1⟩, e1, e2⟩ := Option.bind_eq_some_iff.mp e
  obtain ⟨⟨d', ds'⟩, e3, e4⟩ := Option.map_eq_some_iff.mp e2
  cases e4
  refine ⟨δ, Z, F, ds, δ1, ok, e1, fun vs H1 Z1 F1 g s1 ok1 r1 nd1 dz1 gv => ?_⟩
  refine ⟨ds, Z1, g, d', ds', ⟨by rw [List.append_nil]; exact r1, (List.nodup_append.mp nd1).2.1, dz1, ok1.zs⟩, e3, fun v H' Z' F2 g2 s2 o2 r2 nd2 dz2 => ?_⟩
  rw [List.append_nil] at o2
  have ap1 : ∀ a ∈ F1, a ∉ g := fun a ha hb => nd_apart nd1 a hb ha
  have okF : Ok X.K Γ' σ δ1 H' Z' F1 := ⟨ok1.env.step s2 r1.mu dz1 ap1, ok1.nd, s2.dzs ok1.mu ok1.dz ap1, fun a h => o2.zs a h⟩
  have ap := s2.apart ok1.mu ap1
  obtain ⟨F3, o3, sb⟩ := give okF o2.env (nd_of ok1.nd o2.nd fun a h z => ap a z (List.mem_append_left _ h)) o2.dz gv
  refine k v H' Z' F3 g2 ?_ o3 r2 (nd_of o3.nd (List.nodup_append.mp nd2).2.1 fun a h z => ?_) dz2
  · have s3 : Stp H1 Z1 (F1 ++ g) H' Z' ((F2 ++ g2) ++ F1) := (s2.frame (g := F1)).wide fun a h => by simp only [List.mem_append] at h ⊢; exact h.symm
    refine s1.trans (s3.sub fun a h => ?_)
    rcases List.mem_append.mp h with h | h
    · have := sb a h
      simp only [List.mem_append] at this ⊢
      rcases this with y | y <;> simp [y]
    · simp [h]
  · rcases List.mem_append.mp (sb a z) with y | y
    · exact ap a y (List.mem_append_right _ h)
    · exact nd_apart nd2 a h y
end
end Pv

set_option Elab.async false
set_option linter.all false
set_option maxRecDepth 100000
/-! Pv6: lists changed in their slots: append, pop, insert, x[i] = v, x[i].append(v). -/
namespace Pv
open PySem PySem.Spec PyProof.Rows L2
section
variable {K : PySem.W.Frag} {X : Cx} {Γ Γ' Γ1 Γ2 : List T} {H H' H1 H2 : Hp} {Z Z' Z1 Z2 : FzT} {F F' F1 F2 : List Addr} {σ σ' σ1 : L2.St} {δ δ' : List D} {E : TyE} {en eb ec er : List T} {et : T} {W W' : Ends}
theorem RepA.app : ∀ {t : T} {xs ys : List V} {ds es : List D} {f g : List Addr}, RepA K H Z t xs ds f → RepA K H Z t ys es g → RepA K H Z t (xs ++ ys) (ds ++ es) (f ++ g)
  | _, _, _, _, _, _, _, .nil, r => r
  | _, _, _, _, _, _, _, .cons h r, r' => by
    have := RepA.cons h (RepA.app r r')
    simpa [List.append_assoc] using this
theorem RepA.split : ∀ {t : T} {xs : List V} {ds es : List D} {f : List Addr}, RepA K H Z t xs (ds ++ es) f → ∃ xs1 xs2 f1 f2, xs = xs1 ++ xs2 ∧ f = f1 ++ f2 ∧ RepA K H Z t xs1 ds f1 ∧ RepA K H Z t xs2 es f2
  | t, xs, [], es, f, r => ⟨[], xs, [], f, rfl, rfl, .nil, r⟩
  | t, _, d :: ds, es, _, .cons (v := v) (f := f) h r => by
    obtain ⟨xs1, xs2, f1, f2, rfl, rfl, r1, r2⟩ := RepA.split r
    exact ⟨v :: xs1, xs2, f ++ f1, f2, rfl, by simp [List.append_assoc], .cons h r1, r2⟩
theorem RepA.one {t : T} {v : V} {d : D} {g : List Addr} (h : Rep K H Z t v d g) : RepA K H Z t [v] [d] g := by simpa using RepA.cons h RepA.nil
theorem RepA.uncons {t : T} {xs : List V} {d : D} {ds : List D} {f : List Addr} (r : RepA K H Z t xs (d :: ds) f) : ∃ v vs g h, xs = v :: vs ∧ f = g ++ h ∧ Rep K H Z t v d g ∧ RepA K H Z t vs ds h := by
  cases r with
  | cons h r => exact ⟨_, _, _, _, rfl, rfl, h, r⟩
theorem RepA.unone {t : T} {xs : List V} {d : D} {f : List Addr} (r : RepA K H Z t xs [d] f) : ∃ v, xs = [v] ∧ Rep K H Z t v d f := by
  obtain ⟨v, vs, g, h, rfl, rfl, r1, r2⟩ := r.uncons
  cases r2
  exact ⟨v, rfl, by simpa using r1⟩
theorem Stp.upd {a : Addr} {o : HO} (h : a ∈ F) : Stp H Z F (L2.upd H a o) Z F :=
  ⟨fun x u q n => by rw [upd_ne (fun z => n (by rw [z]; exact h))]; exact q, fun _ q => q, fun _ q => .inl q, fun _ q => .inl q, fun _ q => upd_live q, fun _ q => .inl q⟩
/-- a slot's list opened -/
theorem Ok.opn {i : Nat} {t : T} {ds : List D} (o : Ok K Γ σ δ H Z F) (ht : Γ[i]? = some (.ol t)) (e : δ[i]? = some (.list ds)) :
    ∃ a xs f F1, σ[i]? = some (some (.ref a)) ∧ H a = some (.lst xs) ∧ RepA K H Z t xs ds f ∧ Ok K (Γ.set i .no) σ δ H Z F1 ∧ (F1 ++ (a :: f)).Nodup ∧ ∀ x ∈ F1 ++ (a :: f), x ∈ F := by
  obtain ⟨v, F1, g, h1, h2, h3, h4, h5⟩ := o.take ht (fun z => nomatch z) e
  cases h2 with
  | ol ha r => exact ⟨_, _, _, F1, h1, ha, r, h3, h4, h5⟩
/-- .. and closed, other items in it -/
theorem Ok.put {i : Nat} {t : T} {a : Addr} {xs xs' : List V} {ds' : List D} {f' : List Addr} (o1 : Ok K (Γ.set i .no) σ δ H Z F1) (hi : Γ[i]? = some (.ol t)) (hv : σ[i]? = some (some (.ref a))) (ha : H a = some (.lst xs))
    (nd : (F1 ++ (a :: f')).Nodup) (dz : ∀ x ∈ a :: f', ¬ Z x) (r : RepA K (upd H a (.lst xs')) Z t xs' ds' f') : ∃ F', Ok K Γ σ (δ.set i (.list ds')) (upd H a (.lst xs')) Z F' ∧ ∀ x ∈ F', x ∈ F1 ++ (a :: f') := by
  have s : Stp H Z [a] (upd H a (.lst xs')) Z [a] := Stp.upd (by simp)
  have m : Mu H [a] := Mu.one ha
  have dza : ∀ x ∈ [a], ¬ Z x := fun x hx => dz x (by simp only [List.mem_singleton] at hx; rw [hx]; exact List.mem_cons_self)
  have nf1 : ∀ x ∈ F1, x ∉ [a] := fun x hx hz => nd_apart nd x (by simp only [List.mem_singleton] at hz; rw [hz]; exact List.mem_cons_self) hx
  have o2 : Ok K (Γ.set i .no) σ δ (upd H a (.lst xs')) Z F1 := ⟨o1.env.step s m dza nf1, o1.nd, o1.dz, fun x hx => upd_live (o1.zs x hx)⟩
  have rr : Rep K (upd H a (.lst xs')) Z (.ol t) (.ref a) (.list ds') (a :: f') := .ol upd_same r
  have hl : i < (Γ.set i .no).length := by rw [List.length_set]; exact (List.getElem?_eq_some_iff.mp hi).1
  obtain ⟨F', o3, sb⟩ := o2.set hl rr nd dz
  rw [set_self hv, List.set_set, set_self hi] at o3
  exact ⟨F', o3, sb⟩
theorem ofList {v : V} {d : D} {t : T} {g : List Addr} (r : Rep K H Z (.ol t) v d g) : ∃ a xs ds f, v = .ref a ∧ d = .list ds ∧ g = a :: f ∧ H a = some (.lst xs) ∧ RepA K H Z t xs ds f := by
  cases r with
  | ol h r => exact ⟨_, _, _, _, rfl, rfl, rfl, h, r⟩
theorem recv {i : Nat} {t : T} (o : Ok K Γ σ δ H Z F) (ht : Γ[i]? = some (.ol t)) : ∃ a xs, σ[i]? = some (some (.ref a)) ∧ H a = some (.lst xs) := by
  have hi : i < Γ.length := (List.getElem?_eq_some_iff.mp ht).1
  obtain ⟨d, hd⟩ : ∃ d, δ[i]? = some d := ⟨δ[i]'(by rw [o.env.len.2]; exact hi), by simp [o.env.len.2, hi]⟩
  obtain ⟨v, g, h1, h2, _⟩ := o.env.get ht (fun z => nomatch z) hd
  obtain ⟨a, xs, ds, f, rfl, rfl, rfl, h, r⟩ := ofList h2
  exact ⟨a, xs, h1, h⟩
theorem nd_set {A B C : List Addr} (h : (A ++ C).Nodup) (h2 : B.Nodup) (s : ∀ x ∈ B, x ∈ A) : (B ++ C).Nodup := nd_of h2 (List.nodup_append.mp h).2.1 fun x hx hb => nd_apart h x hx (s x hb)

def getL (δ : List D) (i : Nat) : Option (List D) := match δ[i]? with | some (.list ds) => some ds | _ => none
theorem getL_eq {i : Nat} {ds : List D} (h : getL δ i = some ds) : δ[i]? = some (.list ds) := by
  unfold getL at h
  split at h
  · cases h; assumption
  · cases h
/-- x.append(e) -/
def xApp (i : Nat) (f : EM) : EM := fun δ => (f δ).bind fun p => (getL p.2 i).bind fun ds => if ds.length < sizeLine then some (.none, p.2.set i (.list (ds ++ [p.1]))) else none
theorem mApp (i : Nat) {t : T} {c : Expr} {f : EM} (h : PE X c (tBM X.K "list" rAppend (tVar i) (tCons (tM X.K Γ Γ' t f) tNil))) (ht : Γ[i]? = some (.ol t)) (ht' : Γ'[i]? = some (.ol t)) : PE X c (tM X.K Γ Γ' .sh (xApp i f)) :=
  h.imp fun σ H Q ⟨δ, Z, F, d, δ', ok, e, k⟩ => by
  obtain ⟨⟨y, δ1⟩, e1, e2⟩ := Option.bind_eq_some_iff.mp e
  obtain ⟨ds, e3, e4⟩ := Option.bind_eq_some_iff.mp e2
  split at e4
  · rename_i hlt
    cases e4
    obtain ⟨a0, xs0, hv, hH⟩ := recv ok ht
    refine ⟨.ref a0, hv, .inl ⟨rfl, xs0, SqL.of hH⟩, δ, Z, F, y, δ1, ok, e1, fun v H1 Z1 F1 g1 s1 ok1 r1 nd1 dz1 => ?_⟩
    obtain ⟨a, xs, fs, F2, hv', ha, ra, o2, nd2, sb2⟩ := ok1.opn ht' (getL_eq e3)
    rw [hv] at hv'
    have ea : a0 = a := by simpa using hv'
    subst ea
    have nd3 : (F2 ++ (a0 :: fs) ++ g1).Nodup := nd_set nd1 nd2 sb2
    have nd4 : (F2 ++ (a0 :: (fs ++ g1))).Nodup := by simpa [List.append_assoc] using nd3
    have dz4 : ∀ x ∈ a0 :: (fs ++ g1), ¬ Z1 x := fun x hx => by
      rcases List.mem_cons.mp hx with h | h
      · exact ok1.dz x (sb2 x (by simp [h]))
      · rcases List.mem_append.mp h with h | h
        · exact ok1.dz x (sb2 x (by simp [h]))
        · exact dz1 x h
    have su : Stp H1 Z1 [a0] (upd H1 a0 (.lst (xs ++ [v]))) Z1 [a0] := Stp.upd (by simp)
    have mu : Mu H1 [a0] := Mu.one ha
    have dza : ∀ x ∈ [a0], ¬ Z1 x := fun x hx => dz4 x (by simp only [List.mem_singleton] at hx; simp [hx])
    have nda : a0 ∉ fs ++ g1 := (List.nodup_cons.mp (List.nodup_append.mp nd4).2.1).1
    have rN : RepA X.K (upd H1 a0 (.lst (xs ++ [v]))) Z1 t (xs ++ [v]) (ds ++ [y]) (fs ++ g1) :=
      (ra.app (RepA.one r1)).step su mu dza fun x hx hz => nda (by simp only [List.mem_singleton] at hz; rw [hz] at hx; exact hx)
    obtain ⟨F3, o3, sb3⟩ := o2.put ht' hv ha nd4 dz4 rN
    have hlen : xs.length < sizeLine := by rw [Rep.len ra]; exact hlt
    refine ⟨a0, xs, v, rfl, rfl, ha, hlen, k .non _ Z1 F3 [] ?_ o3 (.sh .non) (by simpa using o3.nd) (fun _ q => nomatch q)⟩
    have h1 : a0 ∈ F1 ++ g1 := List.mem_append_left _ (sb2 a0 (by simp))
    refine (s1.trans (Stp.upd h1)).sub fun x hx => ?_
    have := sb3 x (by simpa using hx)
    rcases List.mem_append.mp this with h | h
    · exact List.mem_append_left _ (sb2 x (List.mem_append_left _ h))
    · rcases List.mem_cons.mp h with h | h
      · exact List.mem_append_left _ (sb2 x (by simp [h]))
      · rcases List.mem_append.mp h with h | h
        · exact List.mem_append_left _ (sb2 x (by simp [h]))
        · exact List.mem_append_right _ h
  · cases e4
theorem last_split {ds : List D} {d : D} (h : ds.getLast? = some d) : ds = ds.dropLast ++ [d] := by
  obtain ⟨l, e⟩ := List.getLast?_eq_some_iff.mp h
  rw [e, List.dropLast_concat]
/-- an item is taken out of a slot's list -/
theorem out_ok {i : Nat} {t : T} {a : Addr} {xs xs1 xs2 : List V} {v : V} {ds1 ds2 : List D} {d : D} {f1 g f2 : List Addr} (o2 : Ok K (Γ.set i .no) σ δ H Z F2) (hi : Γ[i]? = some (.ol t)) (hv : σ[i]? = some (some (.ref a))) (ha : H a = some (.lst xs))
    (nd : (F2 ++ (a :: (f1 ++ g ++ f2))).Nodup) (dz : ∀ x ∈ a :: (f1 ++ g ++ f2), ¬ Z x) (r1 : RepA K H Z t xs1 ds1 f1) (rv : Rep K H Z t v d g) (r2 : RepA K H Z t xs2 ds2 f2) :
    ∃ F', Ok K Γ σ (δ.set i (.list (ds1 ++ ds2))) (upd H a (.lst (xs1 ++ xs2))) Z F' ∧ (∀ x ∈ F', x ∈ F2 ++ (a :: (f1 ++ f2))) ∧ Rep K (upd H a (.lst (xs1 ++ xs2))) Z t v d g ∧ (F' ++ g).Nodup ∧ (∀ x ∈ g, ¬ Z x) := by
  have nd' : ((F2 ++ (a :: (f1 ++ f2))) ++ g).Nodup := by
    refine List.Perm.nodup ?_ nd
    simp only [List.append_assoc, List.cons_append]
    exact (List.Perm.cons a ((List.perm_append_comm).append_left f1)).append_left F2
  have su : Stp H Z [a] (upd H a (.lst (xs1 ++ xs2))) Z [a] := Stp.upd (by simp)
  have mu : Mu H [a] := Mu.one ha
  have dza : ∀ x ∈ [a], ¬ Z x := fun x hx => dz x (by simp only [List.mem_singleton] at hx; simp [hx])
  have nda : a ∉ f1 ++ g ++ f2 := (List.nodup_cons.mp (List.nodup_append.mp nd).2.1).1
  have rN : RepA K (upd H a (.lst (xs1 ++ xs2))) Z t (xs1 ++ xs2) (ds1 ++ ds2) (f1 ++ f2) :=
    (r1.app r2).step su mu dza fun x hx hz => nda (by simp only [List.mem_singleton] at hz; rw [hz] at hx; simp only [List.mem_append] at hx ⊢; rcases hx with h | h <;> simp [h])
  obtain ⟨F3, o3, sb3⟩ := o2.put hi hv ha (List.nodup_append.mp nd').1 (fun x hx => dz x (by simp only [List.mem_cons, List.mem_append] at hx ⊢; rcases hx with h | h | h <;> simp [h])) rN
  exact ⟨F3, o3, sb3, rv.step su mu dza fun x hx hz => nda (by simp only [List.mem_singleton] at hz; rw [hz] at hx; simp [hx]), nd_set nd' o3.nd sb3, fun x hx => dz x (by simp [hx])⟩
/-- x.pop() -/
def xPop (i : Nat) : EM := fun δ => (getL δ i).bind fun ds => ds.getLast?.map fun d => (d, δ.set i (.list ds.dropLast))
theorem mPop (i : Nat) {t : T} {c : Expr} (h : PE X c (tBM0 X.K "list" rPop (tVar i))) (ht : Γ[i]? = some (.ol t)) : PE X c (tM X.K Γ Γ t (xPop i)) :=
  h.imp fun σ H Q ⟨δ, Z, F, d, δ', ok, e, k⟩ => by
  obtain ⟨ds, e1, e2⟩ := Option.bind_eq_some_iff.mp e
  obtain ⟨d', e3, e4⟩ := Option.map_eq_some_iff.mp e2
  cases e4
  obtain ⟨a, xs, fs, F2, hv, ha, ra, o2, nd2, sb2⟩ := ok.opn ht (getL_eq e1)
  rw [last_split e3] at ra
  obtain ⟨xs1, xs2, f1, f2, rfl, rfl, r1, r2⟩ := ra.split
  obtain ⟨v, rfl, rv⟩ := r2.unone
  obtain ⟨F3, o3, sb3, rv', nd3, dz3⟩ := out_ok (xs2 := []) (ds2 := []) (f2 := []) o2 ht hv ha (by simpa using nd2) (fun x hx => ok.dz x (sb2 x (List.mem_append_right _ (by simpa using hx)))) r1 rv .nil
  simp only [List.append_nil] at o3 rv' sb3
  refine ⟨.ref a, hv, .inl ⟨rfl, _, SqL.of ha⟩, a, xs1 ++ [v], v, rfl, rfl, ha, by simp, ?_⟩
  rw [List.dropLast_concat]
  refine k v _ Z F3 f2 ?_ o3 rv' nd3 dz3
  refine (Stp.upd (sb2 a (by simp))).sub fun x hx => ?_
  rcases List.mem_append.mp hx with h | h
  · have := sb3 x h
    exact sb2 x (by simp only [List.mem_append, List.mem_cons] at this ⊢; rcases this with y | y | y <;> simp [y])
  · exact sb2 x (by simp [h])
theorem nth_split {α : Type} {l : List α} {n : Nat} {a : α} (h : l[n]? = some a) : l = l.take n ++ a :: l.drop (n + 1) := by
  obtain ⟨hn, e⟩ := List.getElem?_eq_some_iff.mp h
  rw [← e, List.getElem_cons_drop, List.take_append_drop]
theorem RepA.at {t : T} {xs : List V} {ds : List D} {f : List Addr} {n : Nat} {d : D} (r : RepA K H Z t xs ds f) (h : ds[n]? = some d) :
    ∃ v f1 g f2, xs[n]? = some v ∧ f = f1 ++ g ++ f2 ∧ RepA K H Z t (xs.take n) (ds.take n) f1 ∧ Rep K H Z t v d g ∧ RepA K H Z t (xs.drop (n + 1)) (ds.drop (n + 1)) f2 := by
  have hn : n < ds.length := (List.getElem?_eq_some_iff.mp h).1
  rw [nth_split h] at r
  obtain ⟨xs1, xs2, f1, f2, rfl, rfl, r1, r2⟩ := r.split
  obtain ⟨v, vs, g, h', rfl, rfl, rv, r3⟩ := r2.uncons
  have l1 : xs1.length = n := by rw [Rep.len r1, List.length_take]; omega
  refine ⟨v, f1, g, h', ?_, by simp [List.append_assoc], ?_, rv, ?_⟩
  · rw [List.getElem?_append_right (by omega), l1]; simp
  · rw [← l1, List.take_left]; rw [l1]; exact r1
  · rw [show (xs1 ++ v :: vs).drop (n + 1) = vs by rw [← l1]; simp]; exact r3
theorem Sh.intOf {v : V} {i : Int} (h : Sh K H Z v (.int i)) : v = .int i := by cases h; rfl
/-- x.pop(e) -/
def xPopAt (i : Nat) (f : EM) : EM := fun δ => (f δ).bind fun p => match p.1 with
  | .int j => (getL p.2 i).bind fun ds => if -(2 ^ 63) ≤ j ∧ j < 2 ^ 63 then (ixN ds.length j).bind fun n => (ds[n]?).map fun d => (d, p.2.set i (.list (ds.eraseIdx n))) else none
  | _ => none
theorem erase_eq {α : Type} (l : List α) (n : Nat) : l.eraseIdx n = l.take n ++ l.drop (n + 1) := by rw [List.eraseIdx_eq_take_drop_succ]
theorem mPopAt (i : Nat) {t : T} {c : Expr} {f : EM} (h : PE X c (tBM X.K "list" rPopAt (tVar i) (tCons (tM X.K Γ Γ' .sh f) tNil))) (ht : Γ[i]? = some (.ol t)) (ht' : Γ'[i]? = some (.ol t)) : PE X c (tM X.K Γ Γ' t (xPopAt i f)) :=
  h.imp fun σ H Q ⟨δ, Z, F, d, δ', ok, e, k⟩ => by
  obtain ⟨⟨y, δ1⟩, e1, e2⟩ := Option.bind_eq_some_iff.mp e
  cases y with
  | int j =>
    obtain ⟨ds, e3, e4⟩ := Option.bind_eq_some_iff.mp e2
    split at e4
    · rename_i hj
      obtain ⟨n, en, e5⟩ := Option.bind_eq_some_iff.mp e4
      obtain ⟨d', ed, e6⟩ := Option.map_eq_some_iff.mp e5
      cases e6
      obtain ⟨a0, xs0, hv, hH⟩ := recv ok ht
      refine ⟨.ref a0, hv, .inl ⟨rfl, xs0, SqL.of hH⟩, δ, Z, F, .int j, δ1, ok, e1, fun v H1 Z1 F1 g1 s1 ok1 r1 nd1 dz1 => ?_⟩
      obtain ⟨rs, rfl⟩ := r1.shOf
      have ev := rs.intOf
      subst ev
      obtain ⟨a, xs, fs, F2, hv', ha, ra, o2, nd2, sb2⟩ := ok1.opn ht' (getL_eq e3)
      rw [hv] at hv'
      have ea : a0 = a := by simpa using hv'
      subst ea
      have hl := Rep.len ra
      obtain ⟨w, f1, g, f2, hw, rfl, q1, qv, q2⟩ := ra.at ed
      obtain ⟨F3, o3, sb3, rv', nd3, dz3⟩ := out_ok o2 ht' hv ha nd2 (fun x hx => ok1.dz x (sb2 x (List.mem_append_right _ hx))) q1 qv q2
      rw [← erase_eq, ← erase_eq] at o3
      rw [← erase_eq] at rv'
      refine ⟨a0, xs, j, n, w, rfl, rfl, ha, hj.1, hj.2, by rw [hl]; exact (ixN_seq en).1, hw, k w _ Z1 F3 g ?_ o3 rv' nd3 dz3⟩
      have h1 : a0 ∈ F1 ++ [] := List.mem_append_left _ (sb2 a0 (by simp))
      refine (s1.trans (Stp.upd h1)).sub fun x hx => List.mem_append_left _ ?_
      rcases List.mem_append.mp hx with h | h
      · have := sb3 x h
        exact sb2 x (by simp only [List.mem_append, List.mem_cons] at this ⊢; rcases this with y | y | y | y <;> simp [y])
      · exact sb2 x (by simp [h])
    · cases e4
  | _ => cases e2
end
end Pv

set_option Elab.async false
set_option linter.all false
set_option maxRecDepth 100000
/-! Pv7: insert, x[j] = v, x[j].append(v); tuples and operators with parts that change something. -/
namespace Pv
open PySem PySem.Spec PyProof.Rows L2
section
variable {K : PySem.W.Frag} {X : Cx} {Γ Γ' Γ1 Γ2 : List T} {H H' H1 H2 : Hp} {Z Z' Z1 Z2 : FzT} {F F' F1 F2 : List Addr} {σ σ' σ1 : L2.St} {δ δ' : List D} {E : TyE} {en eb ec er : List T} {et : T} {W W' : Ends}
/-- the slot's list of shared items takes other shared items -/
theorem Ok.swap {i : Nat} {ds ds' : List D} {xs' : List V} {a : Addr} (ok : Ok K Γ σ δ H Z F) (ht : Γ[i]? = some (.ol .sh)) (e : δ[i]? = some (.list ds)) (hv : σ[i]? = some (some (.ref a))) (r : ShA K H Z xs' ds') :
    ∃ F', Ok K Γ σ (δ.set i (.list ds')) (upd H a (.lst xs')) Z F' ∧ a ∈ F ∧ ∀ x ∈ F', x ∈ F := by
  obtain ⟨a', xs, f, F1, hv', ha, ra, o2, nd2, sb2⟩ := ok.opn ht e
  rw [hv] at hv'
  have ea : a = a' := by simpa using hv'
  subst ea
  obtain ⟨_, rfl⟩ := ra.shA
  have mu : Mu H [a] := Mu.one ha
  have ma : a ∈ F := sb2 a (by simp)
  obtain ⟨F3, o3, sb3⟩ := o2.put ht hv ha nd2 (fun x hx => ok.dz x (sb2 x (List.mem_append_right _ hx))) ((r.step (Stp.upd (F := [a]) (by simp)) mu (fun x hx => by simp only [List.mem_singleton] at hx; rw [hx]; exact ok.dz a ma)).repA)
  exact ⟨F3, o3, ma, fun x hx => sb2 x (sb3 x hx)⟩
def rIns : V → List V → Hp → VK → Prop := fun x vs H Q => ∃ (l : Addr) (xs : List V) (i : Int) (y : V), x = .ref l ∧ vs = [.int i, y] ∧ H l = some (.lst xs) ∧ xs.length < sizeLine ∧ 0 ≤ i ∧ i < 2 ^ 63 ∧
    Q .non (upd H l (.lst (xs.take i.toNat ++ [y] ++ xs.drop i.toNat)))
theorem mt_ins : MtR X "list.insert" rIns := mt_insert
theorem ShA.take : ∀ {xs : List V} {ds : List D} (n : Nat), ShA K H Z xs ds → ShA K H Z (xs.take n) (ds.take n)
  | _, _, 0, _ => by simpa using ShA.nil
  | _, _, n + 1, .nil => .nil
  | _, _, n + 1, .cons h r => .cons h (ShA.take n r)
theorem ShA.drop : ∀ {xs : List V} {ds : List D} (n : Nat), ShA K H Z xs ds → ShA K H Z (xs.drop n) (ds.drop n)
  | _, _, 0, r => r
  | _, _, n + 1, .nil => .nil
  | _, _, n + 1, .cons h r => ShA.drop n r
theorem ShA.app : ∀ {xs ys : List V} {ds es : List D}, ShA K H Z xs ds → ShA K H Z ys es → ShA K H Z (xs ++ ys) (ds ++ es)
  | _, _, _, _, .nil, r => r
  | _, _, _, _, .cons h r, r' => .cons h (ShA.app r r')
theorem ShA.set : ∀ {xs : List V} {ds : List D} {v : V} {d : D} (n : Nat), ShA K H Z xs ds → Sh K H Z v d → ShA K H Z (xs.set n v) (ds.set n d)
  | _, _, _, _, _, .nil, _ => .nil
  | _, _, _, _, 0, .cons _ r, h => .cons h r
  | _, _, _, _, n + 1, .cons h' r, h => .cons h' (ShA.set n r h)
theorem ShA.get : ∀ {xs : List V} {ds : List D} {n : Nat} {d : D}, ShA K H Z xs ds → ds[n]? = some d → ∃ v, xs[n]? = some v ∧ Sh K H Z v d
  | _, _, _, _, .nil, h => by simp at h
  | _, _, 0, _, .cons h' r, h => by simp at h; subst h; exact ⟨_, rfl, h'⟩
  | _, _, n + 1, _, .cons h' r, h => by
    obtain ⟨v, h1, h2⟩ := ShA.get (n := n) r (by simpa using h)
    exact ⟨v, by simpa using h1, h2⟩
def xIns (i : Nat) (f : EM) (g : EF) : EM := fun δ => (f δ).bind fun p => (g p.2).bind fun y => match p.1 with
  | .int j => (getL p.2 i).bind fun ds => if ds.length < sizeLine ∧ 0 ≤ j ∧ j < 2 ^ 63 then some (.none, p.2.set i (.list (ds.take j.toNat ++ [y] ++ ds.drop j.toNat))) else none
  | _ => none
theorem slotL {i : Nat} {ds : List D} {t : T} (ok : Ok K Γ σ δ H Z F) (ht : Γ[i]? = some (.ol t)) (e : δ[i]? = some (.list ds)) : ∃ a xs f, σ[i]? = some (some (.ref a)) ∧ H a = some (.lst xs) ∧ RepA K H Z t xs ds f := by
  obtain ⟨a, xs, f, F1, hv', ha, ra, _⟩ := ok.opn ht e
  exact ⟨a, xs, f, hv', ha, ra⟩
theorem mIns (i : Nat) {c : Expr} {f : EM} {g : EF} (h : PE X c (tBM X.K "list" rIns (tVar i) (tCons (tM X.K Γ Γ' .sh f) (tCons (tP X.K Γ' .sh g) tNil)))) (ht : Γ[i]? = some (.ol .sh)) (ht' : Γ'[i]? = some (.ol .sh)) : PE X c (tM X.K Γ Γ' .sh (xIns i f g)) :=
  h.imp fun σ H Q ⟨δ, Z, F, d, δ', ok, e, k⟩ => by
  obtain ⟨⟨jd, δ1⟩, e1, e2⟩ := Option.bind_eq_some_iff.mp e
  obtain ⟨y, e3, e4⟩ := Option.bind_eq_some_iff.mp e2
  cases jd with
  | int j =>
    obtain ⟨ds, e5, e6⟩ := Option.bind_eq_some_iff.mp e4
    split at e6
    · rename_i hj
      cases e6
      obtain ⟨a0, xs0, hv, hH⟩ := recv ok ht
      refine ⟨.ref a0, hv, .inl ⟨rfl, xs0, SqL.of hH⟩, δ, Z, F, .int j, δ1, ok, e1, fun v H1 Z1 F1 g1 s1 ok1 r1 nd1 dz1 => ?_⟩
      obtain ⟨rs, rfl⟩ := r1.shOf
      have ev := rs.intOf
      subst ev
      refine ⟨δ1, Z1, F1, y, ok1, e3, fun w H2 Z2 g2 s2 r2 => ?_⟩
      have rw' := r2.shOf.1
      have ok2 := ok1.ext s2
      obtain ⟨a, xs, fs, hv', ha, ra⟩ := slotL ok2 ht' (getL_eq e5)
      rw [hv] at hv'
      have ea : a0 = a := by simpa using hv'
      subst ea
      obtain ⟨sa, _⟩ := ra.shA
      obtain ⟨F3, o3, ma, sb3⟩ := ok2.swap ht' (getL_eq e5) hv (((sa.take j.toNat).app (.cons rw' .nil)).app (sa.drop j.toNat))
      refine ⟨a0, xs, j, w, rfl, rfl, ha, by rw [sa.len]; exact hj.1, hj.2.1, hj.2.2, k .non _ Z2 F3 [] ?_ o3 (.sh .non) (by simpa using o3.nd) (fun _ q => nomatch q)⟩
      have s1' : Stp H Z F H1 Z1 F1 := by simpa using s1
      exact ((s1'.trans s2.stp).trans (Stp.upd ma)).sub fun x hx => sb3 x (by simpa using hx)
    · cases e6
  | _ => cases e4
/-- x[j] = v -/
def sSetIx (i : Nat) (f : EM) (g : EF) : SF := fun δ => (f δ).bind fun p => (g p.2).bind fun j => match j with
  | .int j => (getL p.2 i).bind fun ds => (ixN ds.length j).bind fun n => some (.nx (p.2.set i (.list (ds.set n p.1))))
  | _ => none
theorem zSetIx (i : Nat) {st : Stmt} {f : EM} {g : EF} (h : PS X st (tAsg (tM X.K Γ Γ' .sh f) (gSub (tVar i) (tP X.K Γ' .sh g) rSetL))) (ht' : Γ'[i]? = some (.ol .sh)) : PS X st (tS X.K Γ ⟨Γ', eb, ec, er, et⟩ (sSetIx i f g)) :=
  h.imp fun W σ H ⟨δ, Z, F, out, ok, e, p⟩ => by
  obtain ⟨⟨y, δ1⟩, e1, e2⟩ := Option.bind_eq_some_iff.mp e
  obtain ⟨jd, e3, e4⟩ := Option.bind_eq_some_iff.mp e2
  cases jd with
  | int j =>
    obtain ⟨ds, e5, e6⟩ := Option.bind_eq_some_iff.mp e4
    obtain ⟨n, e7, e8⟩ := Option.bind_eq_some_iff.mp e6
    cases e8
    refine ⟨δ, Z, F, y, δ1, ok, e1, fun v H1 Z1 F1 g1 s1 ok1 r1 nd1 dz1 => ?_⟩
    obtain ⟨rs, rfl⟩ := r1.shOf
    obtain ⟨a0, xs0, hv, hH⟩ := recv ok1 ht'
    refine ⟨.ref a0, hv, δ1, Z1, F1, .int j, ok1, e3, fun w H2 Z2 g2 s2 r2 => ?_⟩
    have ew := r2.shOf.1.intOf
    subst ew
    have ok2 := ok1.ext s2
    obtain ⟨a, xs, fs, hv', ha, ra⟩ := slotL ok2 ht' (getL_eq e5)
    rw [hv] at hv'
    have ea : a0 = a := by simpa using hv'
    subst ea
    obtain ⟨sa, _⟩ := ra.shA
    obtain ⟨F3, o3, ma, sb3⟩ := ok2.swap ht' (getL_eq e5) hv (sa.set n (rs.ext s2))
    refine ⟨a0, xs, j, n, rfl, rfl, ha, by rw [sa.len]; exact e7, p σ _ Z2 F3 ?_ o3 (.refl _ _)⟩
    have s1' : Stp H Z F H1 Z1 F1 := by simpa using s1
    exact ((s1'.trans s2.stp).trans (Stp.upd ma)).sub sb3
  | _ => cases e4
/-- x[j].append(e), all else at rest -/
def xNApp (i : Nat) (g f : EF) : EM := fun δ => (g δ).bind fun j => (f δ).bind fun y => match j with
  | .int j => (getL δ i).bind fun ds => (ixN ds.length j).bind fun n => match ds[n]? with
    | some (.list es) => if es.length < sizeLine then some (.none, δ.set i (.list (ds.set n (.list (es ++ [y]))))) else none
    | _ => none
  | _ => none
theorem set_split {α : Type} {l : List α} {n : Nat} {a : α} (h : n < l.length) : l.set n a = l.take n ++ a :: l.drop (n + 1) := by rw [List.set_eq_take_append_cons_drop, if_pos h]
theorem mNApp (i : Nat) {c : Expr} {f g : EF} (h : PE X c (tBM X.K "list" rAppend (tOp (rIxL X.K) (tVar i) (tP X.K Γ .sh g)) (tCons (tP X.K Γ .sh f) tNil))) (ht : Γ[i]? = some (.ol (.ol .sh))) : PE X c (tM X.K Γ Γ .sh (xNApp i g f)) :=
  h.imp fun σ H Q ⟨δ, Z, F, d, δ', ok, e, k⟩ => by
  obtain ⟨jd, e1, e2⟩ := Option.bind_eq_some_iff.mp e
  obtain ⟨y, e3, e4⟩ := Option.bind_eq_some_iff.mp e2
  cases jd with
  | int j =>
    obtain ⟨ds, e5, e6⟩ := Option.bind_eq_some_iff.mp e4
    obtain ⟨n, e7, e8⟩ := Option.bind_eq_some_iff.mp e6
    split at e8
    · rename_i es hes
      split at e8
      · rename_i hlt
        cases e8
        obtain ⟨a0, xs0, hv, hH⟩ := recv ok ht
        refine ⟨.ref a0, hv, δ, Z, F, .int j, ok, e1, fun w H1 Z1 g1 s1 r1 => ?_⟩
        have ew := r1.shOf.1.intOf
        subst ew
        have ok1 := ok.ext s1
        obtain ⟨a, xs, fs, F2, hv', ha, ra, o2, nd2, sb2⟩ := ok1.opn ht (getL_eq e5)
        rw [hv] at hv'
        have ea : a0 = a := by simpa using hv'
        subst ea
        obtain ⟨u, f1, gg, f2, hu, rfl, q1, qv, q2⟩ := ra.at hes
        have hnl : n < ds.length := (List.getElem?_eq_some_iff.mp hes).1
        obtain ⟨b, ys, es', fb, rfl, ee, rfl, hb, rb⟩ := ofList qv
        cases ee
        obtain ⟨sb', rfl⟩ := rb.shA
        have hat : atI xs j = some (.ref b) := by
          unfold atI
          rw [Rep.len ra, e7]
          exact hu
        refine ⟨a0, xs, j, .ref b, rfl, rfl, SqL.of ha, hat, .inl ⟨rfl, ys, SqL.of hb⟩, δ, Z1, F, y, ok1, e3, fun v H2 Z2 g2 s2 r2 => ?_⟩
        have rv := r2.shOf.1
        have hb2 : H2 b = some (.lst ys) := s2.keep b _ hb (by simp)
        have ha2 : H2 a0 = some (.lst xs) := s2.keep a0 _ ha (by simp)
        have sb2' := sb'.ext s2
        have bF : b ∈ F := sb2 b (by simp)
        have su : Stp H2 Z2 [b] (upd H2 b (.lst (ys ++ [v]))) Z2 [b] := Stp.upd (by simp)
        have mu : Mu H2 [b] := Mu.one hb2
        have ok2 := ok1.ext s2
        have dzb : ∀ x ∈ [b], ¬ Z2 x := fun x hx => by simp only [List.mem_singleton] at hx; rw [hx]; exact ok2.dz b bF
        have o2' := o2.ext s2
        have nd3 : (F2 ++ (a0 :: (f1 ++ [b] ++ f2))).Nodup := nd2
        have nb : ∀ x, x ∈ F2 ∨ x = a0 ∨ x ∈ f1 ∨ x ∈ f2 → x ∉ [b] := fun x hx hz => by
          simp only [List.mem_singleton] at hz
          subst hz
          simp only [List.nodup_append, List.nodup_cons, List.mem_append, List.mem_cons, List.mem_singleton, List.not_mem_nil, or_false] at nd3
          obtain ⟨_, ⟨n1, ⟨⟨_, _, n2⟩, _, n3⟩⟩, n4⟩ := nd3
          rcases hx with h | h | h | h
          · exact n4 x h x (.inr (.inl (.inr rfl))) rfl
          · exact n1 (.inl (.inr h.symm))
          · exact n2 x h x rfl rfl
          · exact n3 x (.inr rfl) x h rfl
        have o4 : Ok X.K (Γ.set i .no) σ δ (upd H2 b (.lst (ys ++ [v]))) Z2 F2 := ⟨o2'.env.step su mu dzb fun x hx => nb x (.inl hx), o2'.nd, o2'.dz, fun x hx => upd_live (o2'.zs x hx)⟩
        have ha3 : (upd H2 b (.lst (ys ++ [v]))) a0 = some (.lst xs) := by rw [upd_ne (fun z => nb a0 (.inr (.inl rfl)) (by simp [z]))]; exact ha2
        have rN : RepA X.K (upd H2 b (.lst (ys ++ [v]))) Z2 (.ol .sh) xs (ds.set n (.list (es ++ [y]))) (f1 ++ [b] ++ f2) := by
          have p1 := (q1.ext s2).step su mu dzb fun x hx => nb x (.inr (.inr (.inl hx)))
          have p2 := (q2.ext s2).step su mu dzb fun x hx => nb x (.inr (.inr (.inr hx)))
          have pm : Rep X.K (upd H2 b (.lst (ys ++ [v]))) Z2 (.ol .sh) (.ref b) (.list (es ++ [y])) [b] := .ol upd_same (((sb2'.app (.cons rv .nil)).step su mu dzb).repA)
          have := (p1.app (RepA.one pm)).app p2
          rw [set_split hnl]
          rw [nth_split hu]
          simpa [List.append_assoc] using this
        have rA : Rep X.K (upd H2 b (.lst (ys ++ [v]))) Z2 (.ol (.ol .sh)) (.ref a0) (.list (ds.set n (.list (es ++ [y])))) (a0 :: (f1 ++ [b] ++ f2)) := .ol ha3 rN
        have hl : i < (Γ.set i .no).length := by rw [List.length_set]; exact (List.getElem?_eq_some_iff.mp ht).1
        obtain ⟨F3, o5, sb5⟩ := o4.set hl rA nd3 fun x hx => ok2.dz x (sb2 x (List.mem_append_right _ hx))
        rw [set_self hv, List.set_set, set_self ht] at o5
        have hlen : ys.length < sizeLine := by rw [sb'.len]; exact hlt
        refine ⟨b, ys, v, rfl, rfl, hb2, hlen, k .non _ Z2 F3 [] ?_ o5 (.sh .non) (by simpa using o5.nd) (fun _ q => nomatch q)⟩
        exact (((s1.trans s2).stp).trans (Stp.upd bF)).sub fun x hx => sb2 x (sb5 x (by simpa using hx))
      · cases e8
    · cases e8
  | _ => cases e4
/-! ### displays and operators with parts that change something -/
def xLM (o : List D → Option D) (r : LM) : EM := fun δ => (r δ).bind fun p => (o p.1).map (·, p.2)
theorem mTup {x1} {es : List Expr} {pos : Pos} {ts : List T} {gb : List (Option Nat)} {f : LM} (h : PA X es (aM X.K Γ Γ' ts gb f)) (ht : ts.all (· == .sh) = true := by rfl) : PE X (.Tuple es x1 pos) (tM X.K Γ Γ' .sh (xLM mkTup f)) :=
  (pe_tup h).imp fun σ H Q ⟨δ, Z, F, d, δ', ok, e, k⟩ => by
    obtain ⟨⟨ds, δ1⟩, eds, e⟩ := Option.bind_eq_some_iff.mp e
    obtain ⟨d', e', e''⟩ := Option.map_eq_some_iff.mp e
    cases e''
    refine ⟨δ, Z, F, ds, δ1, ok, eds, fun vs H1 Z1 F1 g s1 ok1 r1 nd1 dz1 gv => ?_⟩
    have sa := Env.shA r1 ht
    have eg := r1.shs ht
    subst eg
    unfold mkTup at e'
    split at e'
    · rename_i hl
      cases e'
      refine ⟨by rw [sa.len]; exact hl, fun p hp => k _ _ Z1 F1 [] (s1.trans (Ext.stp (Ext.new hp))) (ok1.ext (Ext.new hp)) (.sh (.tup upd_same (sa.ext (Ext.new hp)))) nd1 (fun _ q => nomatch q)⟩
    · cases e'
/-- the left part may change something, or the right one: shared values -/
def x2M (o : D → D → Option D) (a b : EM) : EM := fun δ => (a δ).bind fun p => (b p.2).bind fun q => (o p.1 q.1).map (·, q.2)
theorem p2M {r : R2} {o : D → D → Option D} {fa fb : EM} (hs : OpS K r .sh .sh .sh o) {σ : L2.St} {Q : VK} (h : tM K Γ Γ2 .sh (x2M o fa fb) σ H Q) : tOp r (tM K Γ Γ1 .sh fa) (tM K Γ1 Γ2 .sh fb) σ H Q := by
  obtain ⟨δ, Z, F, d, δ', ok, e, k⟩ := h
  obtain ⟨⟨x, δ1⟩, ex, e⟩ := Option.bind_eq_some_iff.mp e
  obtain ⟨⟨y, δ2⟩, ey, e⟩ := Option.bind_eq_some_iff.mp e
  obtain ⟨d', e', e''⟩ := Option.map_eq_some_iff.mp e
  cases e''
  refine ⟨δ, Z, F, x, δ1, ok, ex, fun v H1 Z1 F1 g s1 ok1 r1 nd1 dz1 => ⟨δ1, Z1, F1, y, δ2, ok1, ey, fun w H2 Z2 F2 g2 s2 ok2 r2 nd2 dz2 => ?_⟩⟩
  obtain ⟨q1, rfl⟩ := r1.shOf
  obtain ⟨q2, rfl⟩ := r2.shOf
  refine hs H2 Z2 v w x y d [] [] Q (.sh (q1.step s2 ok1.mu ok1.dz)) (.sh q2) e' fun v' H' Z' h s3 r3 => ?_
  obtain ⟨q3, rfl⟩ := r3.shOf
  exact k v' H' Z' F2 [] (by simpa using ((by simpa using s1 : Stp H Z F H1 Z1 F1).trans (by simpa using s2 : Stp H1 Z1 F1 H2 Z2 F2)).trans s3.stp) (ok2.ext s3) (.sh q3) nd2 (fun _ q => nomatch q)
theorem m2 {op : Operator} {r : R2} {o : D → D → Option D} {fa fb : EM} {a b : Expr} {pos : Pos} (ho : OpR X (binaryOp op) r) (hs : OpS X.K r .sh .sh .sh o) (ha : PE X a (tM X.K Γ Γ1 .sh fa)) (hb : PE X b (tM X.K Γ1 Γ2 .sh fb)) :
    PE X (.BinOp a op b pos) (tM X.K Γ Γ2 .sh (x2M o fa fb)) := (pe_op ho ha hb).imp fun _ _ _ => p2M hs
def bME (f : EM) : BM := fun δ => (f δ).bind fun p => (toB p.1).map (·, p.2)
theorem tBM_of {te : TE} {f : EM} {σ : L2.St} {Q : Bool → Hp → Prop} (hq : ∀ Q, tM K Γ Γ' .sh f σ H Q → te σ H Q) (h : bM K Γ Γ' (bME f) σ H Q) : te σ H fun x H' => ∃ k, x = .bl k ∧ Q k H' := by
  obtain ⟨δ, Z, F, b, δ', ok, e, k⟩ := h
  obtain ⟨⟨d, δ1⟩, ed, e⟩ := Option.bind_eq_some_iff.mp e
  obtain ⟨b', eb, e''⟩ := Option.map_eq_some_iff.mp e
  cases e''
  refine hq _ ⟨δ, Z, F, d, δ1, ok, ed, fun v H' Z' F' g s ok' r nd dz => ?_⟩
  obtain ⟨rs, rfl⟩ := r.shOf
  obtain ⟨rfl, rfl⟩ := toB_sh rs eb
  exact ⟨_, rfl, k H' Z' F' (by simpa using s) ok'⟩
theorem qCmpM {op : CmpOp} {r : R2} {o : D → D → Option D} {fa fb : EM} {a b : Expr} {pos : Pos} (ho : OpR X (compareOp op) r) (hs : OpS X.K r .sh .sh .sh o) (ha : PE X a (tM X.K Γ Γ1 .sh fa)) (hb : PE X b (tM X.K Γ1 Γ2 .sh fb)) (hm : behindInMarks op b = false) :
    PT X (.Compare a [op] [b] pos) (bM X.K Γ Γ2 (bME (x2M o fa fb))) := (pt_cmpR ho ha hb hm).imp fun _ _ _ h => tBM_of (fun Q => p2M hs) h
theorem qValM {f : EM} {e : Expr} (h : PE X e (tM X.K Γ Γ' .sh f)) (he : ∀ whole, isTrue e X.env whole = (do let v ← whole; standAt e.pos; holding [v] (truthy v)) := by intro _; rfl) : PT X e (bM X.K Γ Γ' (bME f)) :=
  (pt_val h he).imp fun _ _ _ h => tBM_of (fun Q q => q) h
def bMOf (f : BF) : BM := fun δ => (f δ).map (·, δ)
theorem bMOfP {f : BF} {e : Expr} (h : PT X e (bP X.K Γ f)) : PT X e (bM X.K Γ Γ (bMOf f)) := h.imp fun σ H Q ⟨δ, Z, F, b, δ', ok, e, k⟩ => by
  obtain ⟨b', eb, e''⟩ := Option.map_eq_some_iff.mp e
  cases e''
  exact ⟨δ, Z, F, b, ok, eb, fun H' Z' s => k H' Z' F s.stp (ok.ext s)⟩
def bNotM (f : BM) : BM := fun δ => (f δ).map fun p => (!p.1, p.2)
theorem qNotM {f : BM} {e : Expr} {pos : Pos} (h : PT X e (bM X.K Γ Γ' f)) : PT X (.UnaryOp .Not e pos) (bM X.K Γ Γ' (bNotM f)) := (pt_not h).imp fun σ H Q ⟨δ, Z, F, b, δ', ok, e, k⟩ => by
  obtain ⟨⟨c, δ1⟩, ec, e⟩ := Option.map_eq_some_iff.mp e
  cases e
  exact ⟨δ, Z, F, c, δ1, ok, ec, k⟩
/-- a and b, b changing something: the slots behind it as without (types alike) -/
def bAndM (f g : BM) : BM := fun δ => (f δ).bind fun p => if p.1 then g p.2 else some (false, p.2)
def bOrM (f g : BM) : BM := fun δ => (f δ).bind fun p => if p.1 then some (true, p.2) else g p.2
theorem qAnd1M {f : BM} {a : Expr} {pos : Pos} (h : PT X a (bM X.K Γ Γ' f)) : PW X (.BoolOp .And [a] pos) (bM X.K Γ Γ' f) := pw_and1 h
theorem qOr1M {f : BM} {a : Expr} {pos : Pos} (h : PT X a (bM X.K Γ Γ' f)) : PW X (.BoolOp .Or [a] pos) (bM X.K Γ Γ' f) := pw_or1 h
theorem qAndM {f g : BM} {a b : Expr} {rest : List Expr} {pos : Pos} (h : PT X a (bM X.K Γ Γ f)) (h2 : PW X (.BoolOp .And (b :: rest) pos) (bM X.K Γ Γ g)) : PW X (.BoolOp .And (a :: b :: rest) pos) (bM X.K Γ Γ (bAndM f g)) :=
  (pw_and h h2).imp fun σ H Q ⟨δ, Z, F, b, δ', ok, e, k⟩ => by
    obtain ⟨⟨c, δ1⟩, ec, e⟩ := Option.bind_eq_some_iff.mp e
    refine ⟨δ, Z, F, c, δ1, ok, ec, fun H1 Z1 F1 s1 ok1 => ?_⟩
    cases c with
    | true => exact ⟨δ1, Z1, F1, b, δ', ok1, e, fun H' Z' F' s o => k H' Z' F' (s1.trans s) o⟩
    | false => cases e; exact k H1 Z1 F1 s1 ok1
theorem qOrM {f g : BM} {a b : Expr} {rest : List Expr} {pos : Pos} (h : PT X a (bM X.K Γ Γ f)) (h2 : PW X (.BoolOp .Or (b :: rest) pos) (bM X.K Γ Γ g)) : PW X (.BoolOp .Or (a :: b :: rest) pos) (bM X.K Γ Γ (bOrM f g)) :=
  (pw_or h h2).imp fun σ H Q ⟨δ, Z, F, b, δ', ok, e, k⟩ => by
    obtain ⟨⟨c, δ1⟩, ec, e⟩ := Option.bind_eq_some_iff.mp e
    refine ⟨δ, Z, F, c, δ1, ok, ec, fun H1 Z1 F1 s1 ok1 => ?_⟩
    cases c with
    | true => cases e; exact k H1 Z1 F1 s1 ok1
    | false => exact ⟨δ1, Z1, F1, b, δ', ok1, e, fun H' Z' F' s o => k H' Z' F' (s1.trans s) o⟩
/-- a built-in's call with arguments that change something: shared values -/
theorem pLM {r : List V → Hp → VK → Prop} {ts : List T} {gb : List (Option Nat)} {o : List D → Option D} {f : LM} {σ : L2.St} {Q : VK} (hs : CalS K r ts .sh o) (ht : ts.all (· == .sh) = true) (h : tM K Γ Γ' .sh (xLM o f) σ H Q) : tCB r (aM K Γ Γ' ts gb f) σ H Q := by
  obtain ⟨δ, Z, F, d, δ', ok, e, k⟩ := h
  obtain ⟨⟨ds, δ1⟩, eds, e⟩ := Option.bind_eq_some_iff.mp e
  obtain ⟨d', e', e''⟩ := Option.map_eq_some_iff.mp e
  cases e''
  refine ⟨δ, Z, F, ds, δ1, ok, eds, fun vs H1 Z1 F1 g s1 ok1 r1 nd1 dz1 gv => ?_⟩
  have eg := r1.shs ht
  subst eg
  refine hs H1 Z1 vs ds d [] Q r1 e' fun v H' Z' h s2 r2 => ?_
  obtain ⟨q3, rfl⟩ := r2.shOf
  exact k v H' Z' F1 [] (s1.trans (by simpa using s2.stp)) (ok1.ext s2) (.sh q3) nd1 (fun _ q => nomatch q)
theorem mCallT {x : Str} {p pos : Pos} {e : Expr} {es : List Expr} {ty : String} {r : List V → Hp → VK → Prop} {ts : List T} {gb : List (Option Nat)} {o : List D → Option D} {f : LM} (hc : CallR X (.type ty) r) (hs : CalS X.K r ts .sh o) (ht : ts.all (· == .sh) = true) (hg : Gl X x) (hm : X.mg x = none) (hv : bootBuiltins x = some (.type ty))
    (ha : PA X (e :: es) (aM X.K Γ Γ' ts gb f)) (hn : x ≠ "__name__" := by decide) (hdb : (x == ("__debug__" : Str)) = false := by decide)
    (he : starEach (e :: es) X.env = (false, eval e X.env) :: starEach es X.env := by rfl) (hpl : (backTo pos (starEach es X.env)).any (·.1) = false := by rfl) : PE X (.Call (.Name x p) (e :: es) [] pos) (tM X.K Γ Γ' .sh (xLM o f)) :=
  (pe_callTy hc hg hm hv ha hn hdb he hpl).imp fun _ _ _ => pLM hs ht
end
end Pv

set_option Elab.async false
set_option linter.all false
set_option maxRecDepth 100000
/-! Pe: enumerate of a tuple. -/
namespace PySem
open Sem (wp)
open AutoSeq1 (wpAny_loadPart')
theorem pv_meets_enum_tuple (l : Addr) (items : Array Value) (n : Nat) (dct : Option Addr) (sl : Array (Option Value)) :
    Meets (Builtin.«enumerate.__new__» ⟨[.type "enumerate", .ref l], []⟩) (fun _ R s => s.heap.get? l = some { cls := .type "tuple", dict := dct, data := .seq items n, slots := sl } ∧
      R (.ok (.ret (.ref (s.heap.push { cls := .type "tuple_iterator", data := .fields #[.ref l, .int 0 0] }).objs.size)))
        { s with heap := (s.heap.push { cls := .type "tuple_iterator", data := .fields #[.ref l, .int 0 0] }).push { cls := .type "enumerate", data := .fields #[.none, .bool false, .ref s.heap.objs.size, rawInt 0, .none, .none] } }) :=
  .of_wp fun prog w A R s h => by
    obtain ⟨hp, g, d, tk, os⟩ := s; obtain ⟨hl, h⟩ := h
    have hsub := sub_enumerate
    have hL : Heap.IsTuple (Shared.heap ⟨hp, g, d, tk, os⟩) l items := ⟨_, hl, rfl, n, rfl⟩
    wp_walk using wpAny_loadPart' hl
    refine wpAny_stack_any fun st => wpAny_pure ?_
    split
    · rename_i c _ _ _ _ _
      cases (c == Value.type "enumerate")
      · wp_walk using wpAny_loadPart' hl, wpAny_pyIter_tuple hL
        exact ⟨_, rfl, h⟩
      · wp_walk using wpAny_loadPart' hl, wpAny_pyIter_tuple hL
        exact ⟨_, rfl, h⟩
    · wp_walk using wpAny_loadPart' hl, wpAny_pyIter_tuple hL
      exact ⟨_, rfl, h⟩
section
variable {prog : Program} {w : World} {A : Around} {E : Value → Shared → Prop} {s : Shared}
theorem pv_call_enum_tuple {l : Addr} {items : Array Value} {Q : Value → Shared → Prop} (hL : s.heap.IsTuple l items)
    (h : ∀ h', IsEnum h' (s.heap.objs.size + 1) s.heap.objs.size 0 .none → h'.IsTupleIter s.heap.objs.size l 0 → h'.objs.size = s.heap.objs.size + 2 →
      (∀ b o, s.heap.get? b = some o → h'.get? b = some o) → Q (.ref (s.heap.objs.size + 1)) { s with heap := h' }) :
    wpAny (model prog w) A (call (.type "enumerate") [.ref l]) Q E s := by
  obtain ⟨⟨c, dct, dt, sl⟩, hl, hc, n, hd⟩ := hL
  replace hc : c = .type "tuple" := hc
  replace hd : dt = .seq items n := hd
  subst hc hd
  refine callType_new F.called_enumerate (by decide) (F.typeCall_enumerate_1 _) (F.newCall_enumerate_1 _) (fun obj => F.args_object_init_2 obj _) F.entry_enumerate_new
    (pv_meets_enum_tuple l items n dct sl) ⟨hl, ?_⟩
  have hz : (s.heap.push { cls := .type "tuple_iterator", data := .fields #[.ref l, .int 0 0] }).objs.size = s.heap.objs.size + 1 := Heap.size_push ..
  show _ ∧ _
  rw [hz]
  have he : IsEnum ((s.heap.push { cls := .type "tuple_iterator", data := .fields #[.ref l, .int 0 0] }).push
      { cls := .type "enumerate", data := .fields #[.none, .bool false, .ref s.heap.objs.size, rawInt 0, .none, .none] }) (s.heap.objs.size + 1) s.heap.objs.size 0 .none := by
    have := Heap.get?_push_size (s.heap.push { cls := .type "tuple_iterator", data := .fields #[.ref l, .int 0 0] })
      (o := { cls := .type "enumerate", data := .fields #[.none, .bool false, .ref s.heap.objs.size, rawInt 0, .none, .none] }) rfl
    rw [hz] at this; exact this
  refine ⟨⟨_, he, rfl⟩, h _ he ⟨_, Heap.get?_push_of_some _ (Heap.get?_push_size _ rfl), rfl, rfl⟩ (by rw [Heap.size_push, hz]) fun b o x => Heap.get?_push_of_some _ (Heap.get?_push_of_some _ x)⟩
end
end PySem
namespace Pv
open PySem PySem.Spec PyProof.Rows L2
/-- the tuple at a, each item in a new pair -/
def IteT (K : PySem.W.Frag) (a : Addr) : It :=
  ⟨fun i H => ∃ (xs : List V) (x : V), SqT K H a xs ∧ xs[i]? = some x, fun i H v H' => ∃ T x, v = .ref T ∧ H T = none ∧ H' = upd H T (.tup [.int (i : Nat), x]) ∧ ∀ xs, SqT K H a xs → xs[i]? = some x, fun i H => ∃ xs : List V, SqT K H a xs ∧ xs.length ≤ i⟩
theorem turn_enumT {P : Program} {w : World} {K : PySem.W.Frag} {elts : List Expr} {kk : Nat} {tpos : Pos} (a e it : Addr) (items : Array Value) (hae : a ≠ it) :
    Turn P w K (.Tuple elts kk tpos) (IteT K a) [e, it] e (fun i h => (∃ old, IsEnum h e it ((i : Nat) : Int) old) ∧ h.IsTupleIter it a i ∧ e ≠ it) where
  mem := by simp
  obj := fun i h st b hb => by
    obtain ⟨⟨old, he⟩, ⟨o, ho, hc, hd⟩, _⟩ := st
    have e' : b = e ∨ b = it := by simpa using hb
    rcases e' with z | z
    · rw [z]; exact ⟨_, he, fun v q => nomatch q⟩
    · rw [z]; exact ⟨o, ho, fun v q => by rw [hd] at q; cases q⟩
  keep := fun i h h' st k => let ⟨⟨old, he⟩, hi, hne⟩ := st; ⟨⟨old, k e (by simp) _ he⟩, hi.at fun o q => k it (by simp) o q, hne⟩
  item := by
    intro X hP hw hK hc i pins s σ H E I hf st hg
    subst hP hw hK
    obtain ⟨⟨old, he⟩, hit, hne⟩ := st
    obtain ⟨xs, x, hq, hx⟩ := hg
    obtain ⟨its, rv, p, hz⟩ := I.tuple hq
    obtain ⟨u, hu, ru⟩ := rv.get hx
    have hel : e < s.heap.objs.size := Heap.lt_size he
    have hil : it < s.heap.objs.size := by obtain ⟨_, q, _⟩ := hit; exact Heap.lt_size q
    have nae : a ≠ e := fun z => by
      obtain ⟨o1, q1, q2, _⟩ := p
      rw [z, he] at q1
      cases q1
      exact absurd (Value.type.inj q2) (by decide)
    have DT := Draws.tuple (prog := X.prog) (w := X.w) (A := X.A.in1) (by exact I.ok.hd hc) it a hae its.toArray
    have hlt : i < its.toArray.size := by
      have := (List.getElem?_eq_some_iff.mp hx).1
      rw [List.size_toArray, ← rv.length]
      exact this
    refine wpAny_pyNext_enum_itemD DT he ⟨hit, show s.heap.IsTuple a its.toArray from p⟩ hlt hne (by simp only [List.mem_cons, List.not_mem_nil, or_false, not_or]; exact ⟨hne, fun z => nae z.symm⟩) fun y h' tk hy ho hst hT hsz hk => ?_
    have ey : y = u := by
      have : its.toArray[i]? = some y := hy
      rw [show its.toArray[i]? = its[i]? by simp] at this
      rw [hu] at this
      exact (Option.some.inj this).symm
    subst ey
    have hit' := hst.1
    refine ⟨_, rfl, wpAny_letOwnedTupleGo_enum (s := { s with heap := h', toks := tk + 1 }) ho fun h'' he' sb => ?_⟩
    have hT2 : h''.get? s.heap.objs.size = some { cls := .type "tuple", data := .seq #[.int i tk, y] } := (sb.2 _ (Nat.ne_of_gt hel)).trans hT
    have new : ObjOk X.prog X.w (upd H s.heap.objs.size (.tup [.int (i : Nat), x])) h'' s.heap.objs.size (.tup [.int (i : Nat), x]) :=
      ⟨by show 2 ≤ sizeLine; decide, [.int i tk, y], .cons ⟨_, rfl⟩ (.cons ru .nil), ⟨_, hT2, rfl, _, rfl⟩⟩
    have I1 : Inv X pins σ (upd H s.heap.objs.size (.tup [.int (i : Nat), x])) { s with heap := h'', toks := tk + 1 } :=
      I.turnedNew (ch := [e, it]) (fun b ob hb q => (sb.2 b (fun z => hb (by simp [z]))).trans (hk b ob (fun z => hb (by simp [z])) (fun z => hb (by simp [z])) q)) hf (Nat.le_refl _) new
    refine ⟨.ref s.heap.objs.size, _, I1, rfl, ⟨_, x, rfl, I.hok.fresh (Nat.le_refl _), rfl, fun ys hy => by rw [I.tuple_inj hy hq]; exact hx⟩, ⟨⟨y, ?_⟩, hit'.at fun o q => (sb.2 it (Ne.symm hne)).trans q, hne⟩, fun b hb => ?_⟩
    · have e1 : ((i + 1 : Nat) : Int) = (i : Int) + 1 := by omega
      rw [e1]; exact he'
    · have hb' : b < s.heap.objs.size := by
        have e' : b = e ∨ b = it := by simpa using hb
        rcases e' with z | z
        · rw [z]; exact hel
        · rw [z]; exact hil
      rw [upd_ne (Nat.ne_of_lt hb')]
      exact (hf b hb).1
  done := by
    intro X hP hw hK hc i pins s σ H E I hf st hg
    subst hP hw hK
    obtain ⟨⟨old, he⟩, hit, hne⟩ := st
    obtain ⟨xs, hq, hx⟩ := hg
    obtain ⟨its, rv, p, hz⟩ := I.tuple hq
    obtain ⟨f0, f1, f2, f3, f4, f5⟩ := hf it (by simp)
    have hl := rv.length
    have hT : s.TypeIs (.ref e) "enumerate" := ⟨_, he, rfl⟩
    unfold pyNext
    refine wpAny_bind (wpAny_attempt (wpAny_callSpecial?_slot (name := Str.ofString "__next__") hT F.slot_enumerate_next
      (wpAny_call_entry F.slot_enumerate_next hT F.entry_enumerate_next ?_ (F.args_enumerate_next_1 _))))
    show wpAny _ _ (field (.ref e) 2 >>= _) _ _ _
    refine wpAny_bind (wpAny_field he rfl (x := .ref it) rfl ?_)
    refine wpAny_bind (wpAny_nextOf_tuple_end (I.ok.hd hc) hit (show s.heap.IsTuple a its.toArray from p) (by simp; omega) fun h' x he' hx' => ?_)
    obtain ⟨o, ho, hc'⟩ := hx'
    refine wpAny_bind (wpAny_isInstance (T := "StopIteration") (b := true) ⟨o, ho, hc'⟩ isSubtype_stop ?_)
    exact wpAny_pure ⟨rfl, I.turned (t' := s.toks) (fun b o hb q => he' b o hb q) f0 f1 f3 f4 f5⟩
  self := fun A i s Q E st h => let ⟨⟨_, he⟩, _⟩ := st; wpAny_pyIter_enum he h
def iEnumT (K : PySem.W.Frag) (ta : TA) : TI := fun σ H R => ta σ H fun vs H1 => ∃ a xs, vs = [.ref a] ∧ SqT K H1 a xs ∧ R (IteT K a) H1
theorem pi_enumT {X : Cx} {e : Expr} {ta : TA} {p pos tpos : Pos} {elts : List Expr} {kk : Nat} (hg : Gl X "enumerate") (hm : X.mg "enumerate" = none) (ha : PA X [e] ta) (hs : starEach [e] X.env = [(false, eval e X.env)] := by rfl) :
    PI X (.Tuple elts kk tpos) (.Call (.Name "enumerate" p) [e] [] pos) (iEnumT X.K ta) := by
  refine ⟨fun pins s σ H R I h => ?_⟩
  refine Call_ (ld_blt I hg hm boot_enumerate (PyProof.Rows.callWith_type1 (thn (ha.run pos pins s σ H _ I h) fun us s1 ⟨vs, H1, I1, r1, q1⟩ => ?_) hs rfl))
  obtain ⟨a, xs, ex, hq, q⟩ := q1
  subst ex
  cases r1 with
  | cons r rr =>
    cases rr
    cases r
    obtain ⟨its, rv, p', hz⟩ := I1.tuple hq
    have hal : a < s1.heap.objs.size := by obtain ⟨o1, q1, _⟩ := p'; exact Heap.lt_size q1
    refine pv_call_enum_tuple (show s1.heap.IsTuple a its.toArray from p') fun h' he hit hsz hk => wpAny_pyIter_enum he ?_
    have I2 : Inv X pins σ H1 { s1 with heap := h' } := I1.kept (t' := s1.toks) hk
    refine ⟨s1.heap.objs.size + 1, [s1.heap.objs.size + 1, s1.heap.objs.size], _, _, H1, rfl, I2, turn_enumT a (s1.heap.objs.size + 1) s1.heap.objs.size its.toArray (Nat.ne_of_lt hal), ⟨⟨.none, he⟩, hit, Nat.succ_ne_self _⟩, fun b hb => ?_, q⟩
    have e' : b = s1.heap.objs.size + 1 ∨ b = s1.heap.objs.size := by simpa using hb
    have hle : s1.heap.objs.size ≤ b := by
      rcases e' with z | z
      · rw [z]; exact Nat.le_add_right _ _
      · rw [z]; exact Nat.le_refl _
    exact I1.fpOk hle (I1.hok.fresh hle)
theorem walk_enumT {K : PySem.W.Frag} {a : Addr} {xs : List V} : Walk (IteT K a) xs.length (fun H => SqT K H a xs) (YPair (fun i => some (.int (i : Nat))) (fun i => xs[i]?)) := by
  refine ⟨fun i _ hi q => ⟨xs, xs[i], q, by simp [hi]⟩, fun _ q => ⟨xs, q, Nat.le_refl _⟩, fun i H v H' _ q y => ?_⟩
  obtain ⟨T, x, h1, h2, h3, h4⟩ := y
  exact ⟨T, .int (i : Nat), x, h1, h2, h3, rfl, h4 xs q⟩
end Pv

set_option Elab.async false
set_option linter.all false
set_option maxRecDepth 100000
/-! Pv8: what is walked; for, while, list comprehensions. -/
namespace Pv
open PySem PySem.Spec PyProof.Rows L2
/-- a later heap: what is frozen is as it was -/
def Lat (H : Hp) (Z : FzT) (H2 : Hp) (Z2 : FzT) : Prop := ∃ F F2, Stp H Z F H2 Z2 F2 ∧ Mu H F ∧ ∀ a ∈ F, ¬ Z a
def Wks (K : PySem.W.Frag) (J : It) (ds : List D) (H : Hp) (Z : FzT) : Prop := ∃ (G : Hp → Prop) (Y : Nat → Hp → V → Hp → Prop), Walk J ds.length G Y ∧ (∀ H2 Z2, Lat H Z H2 Z2 → G H2) ∧
  ∀ i H2 Z2 x H3 d, Lat H Z H2 Z2 → Y i H2 x H3 → ds[i]? = some d → ∃ Z3, Ext H2 Z2 H3 Z3 ∧ Sh K H3 Z3 x d
def tI (K : PySem.W.Frag) (Γ Γ' : List T) (f : LM) : TI := fun σ H R => ∃ δ Z F ds δ', Ok K Γ σ δ H Z F ∧ f δ = some (ds, δ') ∧ ∀ J H' Z' F', Stp H Z F H' Z' F' → Ok K Γ' σ δ' H' Z' F' → Wks K J ds H' Z' → R J H'
def tIP (K : PySem.W.Frag) (Γ : List T) (f : LF) : TI := fun σ H R => ∃ δ Z F ds, Ok K Γ σ δ H Z F ∧ f δ = some ds ∧ ∀ J H' Z', Ext H Z H' Z' → Wks K J ds H' Z' → R J H'
def lmOf (f : LF) : LM := fun δ => (f δ).map (·, δ)
/-- the target of a for: d goes into the slots ix -/
def tG (K : PySem.W.Frag) (Γ Γ1 : List T) (ix : List Nat) (tg : D → List D → Option (List D)) : TG := fun v σ H Q => ∃ δ Z F d δ1, Ok K Γ σ δ H Z F ∧ Sh K H Z v d ∧ tg d δ = some δ1 ∧
  ∀ σ1 F1, Ok K Γ1 σ1 δ1 H Z F1 → (∀ a ∈ F1, a ∈ F) → σ1.length = σ.length → (∀ j, j ∉ ix → σ1[j]? = σ[j]?) → Q σ1 H
section
variable {K : PySem.W.Frag} {X : Cx} {Γ Γ' Γ1 Γ2 : List T} {H H' H1 H2 H3 : Hp} {Z Z' Z1 Z2 Z3 : FzT} {F F' F1 F2 : List Addr} {σ σ' σ1 : L2.St} {δ δ' : List D} {E : TyE} {en eb ec er : List T} {et : T} {W W' : Ends}
theorem _root_.L2.PI.imp {tg iter : Expr} {w w' : TI} (h : PI X tg iter w) (i : ∀ σ H R, w' σ H R → w σ H R) : PI X tg iter w' := ⟨fun pins s σ H R I q => h.run pins s σ H R I (i _ _ _ q)⟩
theorem _root_.L2.PI.or {tg iter : Expr} {w w' : TI} (h : PI X tg iter w) (h' : PI X tg iter w') : PI X tg iter (fun σ H R => w σ H R ∨ w' σ H R) := ⟨fun pins s σ H R I q => q.elim (fun q => h.run pins s σ H R I q) fun q => h'.run pins s σ H R I q⟩
theorem _root_.L2.PG.imp {tg : Expr} {t t' : TG} (h : PG X tg t) (i : ∀ v σ H Q, t' v σ H Q → t v σ H Q) : PG X tg t' := ⟨fun pins s σ H v u Q I r q => h.run pins s σ H v u Q I r (i _ _ _ _ q)⟩
theorem iM {tg iter : Expr} {f : LF} (h : PI X tg iter (tIP X.K Γ f)) : PI X tg iter (tI X.K Γ Γ (lmOf f)) := h.imp fun σ H R ⟨δ, Z, F, ds, δ', ok, e, k⟩ => by
  obtain ⟨ds', e1, e2⟩ := Option.map_eq_some_iff.mp e
  cases e2
  exact ⟨δ, Z, F, _, ok, e1, fun J H' Z' s w => k J H' Z' F s.stp (ok.ext s) w⟩
theorem Lat.refl : Lat H Z H Z := ⟨[], [], Ext.refl, Mu.nil, (fun _ q => nomatch q)⟩
theorem Lat.sh {v : V} {d : D} (l : Lat H Z H2 Z2) (h : Sh K H Z v d) : Sh K H2 Z2 v d := let ⟨_, _, s, m, z⟩ := l; h.step s m z
theorem Lat.shA {v : List V} {d : List D} (l : Lat H Z H2 Z2) (h : ShA K H Z v d) : ShA K H2 Z2 v d := let ⟨_, _, s, m, z⟩ := l; h.step s m z
theorem Lat.fzl {a : Addr} {xs : List V} (l : Lat H Z H2 Z2) (z : FzL K H Z a xs) : SqL K H2 a xs := let ⟨_, _, s, m, dz⟩ := l; (z.step s dz).sql
theorem Lat.sqT {a : Addr} {xs : List V} (l : Lat H Z H2 Z2) (h : SqT K H a xs) : SqT K H2 a xs := let ⟨_, _, s, m, dz⟩ := l; SqT.keep (fun o q n => s.keep _ o q (Mu.not m q n)) h
theorem Ok.lat (o : Ok K Γ σ δ H Z F) (s : Stp H Z F H2 Z2 F2) : Lat H Z H2 Z2 := ⟨F, F2, s, o.mu, o.dz⟩

/-! ### what is walked -/
def asSeq : D → Option (List D)
  | .tuple ds => some ds
  | .list ds => some ds
  | _ => none
def lSeq (f : EF) : LF := fun δ => (f δ).bind asSeq
def lSeqM (f : EM) : LM := fun δ => (f δ).bind fun p => (asSeq p.1).map (·, p.2)
theorem wks_list {a : Addr} {xs : List V} {ds : List D} (z : FzL K H Z a xs) (r : ShA K H Z xs ds) : Wks K (Itl K a) ds H Z := by
  refine ⟨fun H => SqL K H a xs, YAt xs, by rw [← r.len]; exact walk_list, fun H2 Z2 l => l.fzl z, fun i H2 Z2 x H3 d l y e => ?_⟩
  obtain ⟨rfl, hx⟩ := y
  obtain ⟨v, hv, hs⟩ := (l.shA r).get e
  rw [hx] at hv
  cases hv
  exact ⟨Z2, .refl, hs⟩
theorem wks_tup {a : Addr} {xs : List V} {ds : List D} (h : SqT K H a xs) (r : ShA K H Z xs ds) : Wks K (Itt K a) ds H Z := by
  refine ⟨fun H => SqT K H a xs, YAt xs, by rw [← r.len]; exact walk_tup, fun H2 Z2 l => l.sqT h, fun i H2 Z2 x H3 d l y e => ?_⟩
  obtain ⟨rfl, hx⟩ := y
  obtain ⟨v, hv, hs⟩ := (l.shA r).get e
  rw [hx] at hv
  cases hv
  exact ⟨Z2, .refl, hs⟩
theorem iSeqM {tg e : Expr} {f : EM} (h : PE X e (tM X.K Γ Γ' .sh f)) : PI X tg e (tI X.K Γ Γ' (lSeqM f)) := ((pi_list h).or (pi_tup h)).imp fun σ H R ⟨δ, Z, F, ds, δ', ok, e, k⟩ => by
  obtain ⟨⟨d, δ1⟩, e1, e2⟩ := Option.bind_eq_some_iff.mp e
  obtain ⟨ds', e3, e4⟩ := Option.map_eq_some_iff.mp e2
  cases e4
  cases d with
  | list es =>
    cases e3
    refine .inl ⟨δ, Z, F, .list _, δ1, ok, e1, fun v H1 Z1 F1 g s1 ok1 r1 nd1 dz1 => ?_⟩
    obtain ⟨r, rfl⟩ := r1.shOf
    cases r with
    | lst z r => exact ⟨_, rfl, ⟨_, z.sql⟩, k _ H1 Z1 F1 (by simpa using s1) ok1 (wks_list z r)⟩
  | tuple es =>
    cases e3
    refine .inr ⟨δ, Z, F, .tuple _, δ1, ok, e1, fun v H1 Z1 F1 g s1 ok1 r1 nd1 dz1 => ?_⟩
    obtain ⟨r, rfl⟩ := r1.shOf
    cases r with
    | tup h r => exact ⟨_, rfl, ⟨_, SqT.of h⟩, k _ H1 Z1 F1 (by simpa using s1) ok1 (wks_tup (SqT.of h) r)⟩
  | _ => cases e3
theorem iSeq {tg e : Expr} {f : EF} (h : PE X e (tP X.K Γ .sh f)) : PI X tg e (tIP X.K Γ (lSeq f)) := ((pi_list h).or (pi_tup h)).imp fun σ H R ⟨δ, Z, F, ds, ok, e, k⟩ => by
  obtain ⟨d, e1, e3⟩ := Option.bind_eq_some_iff.mp e
  cases d with
  | list es =>
    cases e3
    refine .inl ⟨δ, Z, F, .list _, ok, e1, fun v H1 Z1 g s1 r1 => ?_⟩
    obtain ⟨r, rfl⟩ := r1.shOf
    cases r with
    | lst z r => exact ⟨_, rfl, ⟨_, z.sql⟩, k _ H1 Z1 s1 (wks_list z r)⟩
  | tuple es =>
    cases e3
    refine .inr ⟨δ, Z, F, .tuple _, ok, e1, fun v H1 Z1 g s1 r1 => ?_⟩
    obtain ⟨r, rfl⟩ := r1.shOf
    cases r with
    | tup h r => exact ⟨_, rfl, ⟨_, SqT.of h⟩, k _ H1 Z1 s1 (wks_tup (SqT.of h) r)⟩
  | _ => cases e3
def rngD (lo : Int) (n : Nat) : List D := (List.range n).map fun (k : Nat) => .int (lo + (k : Int))
theorem wks_rng {lo : Int} {n : Nat} : Wks K (Itr lo n) (rngD lo n) H Z := by
  refine ⟨fun _ => True, YFn fun i => .int (lo + i), by rw [show (rngD lo n).length = n by simp [rngD]]; exact walk_range, fun _ _ _ => trivial, fun i H2 Z2 x H3 d l y e => ?_⟩
  obtain ⟨rfl, rfl⟩ := y
  unfold rngD at e
  rw [List.getElem?_map, Option.map_eq_some_iff] at e
  obtain ⟨k, ek, rfl⟩ := e
  obtain ⟨_, ek⟩ := List.getElem?_eq_some_iff.mp ek
  have : i = k := by simpa using ek
  subst this
  exact ⟨Z2, .refl, .int _⟩
def rng1 : List D → Option (List D)
  | [.int j] => if -(2 ^ 62) ≤ j ∧ j < 2 ^ 62 then some (rngD 0 j.toNat) else none
  | _ => none
def rng2 : List D → Option (List D)
  | [.int i, .int j] => if (-(2 ^ 62) ≤ i ∧ i < 2 ^ 62) ∧ (-(2 ^ 62) ≤ j ∧ j < 2 ^ 62) then some (rngD i (j - i).toNat) else none
  | _ => none
def lOf (o : List D → Option (List D)) (f : LF) : LF := fun δ => (f δ).bind o
def lOfM (o : List D → Option (List D)) (f : LM) : LM := fun δ => (f δ).bind fun p => (o p.1).map (·, p.2)
theorem Env.one {v : V} {d : D} {g : List Addr} (h : Env K H Z [.sh] [some v] [d] g) : Sh K H Z v d := by
  cases h with
  | cons r _ => exact r.shOf.1
theorem Env.two {v w : V} {d e : D} {g : List Addr} (h : Env K H Z [.sh, .sh] [some v, some w] [d, e] g) : Sh K H Z v d ∧ Sh K H Z w e := by
  cases h with
  | cons r h => exact ⟨r.shOf.1, h.one⟩
theorem vs1 {vs : List V} {d : D} {g : List Addr} (h : Env K H Z [.sh] (vs.map some) [d] g) : ∃ v, vs = [v] ∧ Sh K H Z v d := by
  have l := h.len.1
  match vs, l, h with
  | [v], _, h => exact ⟨v, rfl, h.one⟩
theorem vs2 {vs : List V} {d e : D} {g : List Addr} (h : Env K H Z [.sh, .sh] (vs.map some) [d, e] g) : ∃ v w, vs = [v, w] ∧ Sh K H Z v d ∧ Sh K H Z w e := by
  have l := h.len.1
  match vs, l, h with
  | [v, w], _, h => exact ⟨v, w, rfl, h.two⟩
theorem iRng1 {tg : Expr} {a : Expr} {f : LF} {p pos : Pos} (hg : Gl X "range") (hm : X.mg "range" = none) (ha : PA X [a] (aP X.K Γ [.sh] f)) (hs : starEach [a] X.env = [(false, eval a X.env)] := by rfl) :
    PI X tg (.Call (.Name "range" p) [a] [] pos) (tIP X.K Γ (lOf rng1 f)) := (pi_range1 hg hm ha hs).imp fun σ H R ⟨δ, Z, F, ds, ok, e, k⟩ => by
  obtain ⟨as, e3, e4⟩ := Option.bind_eq_some_iff.mp e
  unfold rng1 at e4
  split at e4
  · split at e4
    · rename_i j hj
      cases e4
      refine ⟨δ, Z, F, _, ok, e3, fun vs H1 Z1 g s1 r1 => ?_⟩
      obtain ⟨v, rfl, sv⟩ := vs1 r1
      have := sv.intOf
      subst this
      exact ⟨j, rfl, hj.1, hj.2, k _ H1 Z1 s1 wks_rng⟩
    · cases e4
  · cases e4
theorem iRng2 {tg : Expr} {a b : Expr} {f : LF} {p pos : Pos} (hg : Gl X "range") (hm : X.mg "range" = none) (ha : PA X [a, b] (aP X.K Γ [.sh, .sh] f)) (hs : starEach [a, b] X.env = [(false, eval a X.env), (false, eval b X.env)] := by rfl) (hs2 : starEach [b] X.env = [(false, eval b X.env)] := by rfl) :
    PI X tg (.Call (.Name "range" p) [a, b] [] pos) (tIP X.K Γ (lOf rng2 f)) := (pi_range2 hg hm ha hs hs2).imp fun σ H R ⟨δ, Z, F, ds, ok, e, k⟩ => by
  obtain ⟨as, e3, e4⟩ := Option.bind_eq_some_iff.mp e
  unfold rng2 at e4
  split at e4
  · split at e4
    · rename_i i j hj
      cases e4
      refine ⟨δ, Z, F, _, ok, e3, fun vs H1 Z1 g s1 r1 => ?_⟩
      obtain ⟨v, w, rfl, sv, sw⟩ := vs2 r1
      have := sv.intOf
      subst this
      have := sw.intOf
      subst this
      exact ⟨i, j, rfl, ⟨hj.1.1, hj.1.2, hj.2.1, hj.2.2⟩, k _ H1 Z1 s1 wks_rng⟩
    · cases e4
  · cases e4
/-- range(n), n changing something -/
theorem iRng1M {tg : Expr} {a : Expr} {f : LM} {gb : List (Option Nat)} {p pos : Pos} (hg : Gl X "range") (hm : X.mg "range" = none) (ha : PA X [a] (aM X.K Γ Γ' [.sh] gb f)) (hs : starEach [a] X.env = [(false, eval a X.env)] := by rfl) :
    PI X tg (.Call (.Name "range" p) [a] [] pos) (tI X.K Γ Γ' (lOfM rng1 f)) := (pi_range1 hg hm ha hs).imp fun σ H R ⟨δ, Z, F, ds, δ', ok, e, k⟩ => by
  obtain ⟨⟨as, δ1⟩, e3, e1⟩ := Option.bind_eq_some_iff.mp e
  obtain ⟨ds', e4, e2⟩ := Option.map_eq_some_iff.mp e1
  cases e2
  replace e4 : rng1 as = some ds := e4
  unfold rng1 at e4
  split at e4
  · split at e4
    · rename_i j hj
      cases e4
      refine ⟨δ, Z, F, _, _, ok, e3, fun vs H1 Z1 F1 g s1 ok1 r1 nd1 dz1 gv => ?_⟩
      obtain ⟨v, rfl, sv⟩ := vs1 r1
      have := sv.intOf
      subst this
      exact ⟨j, rfl, hj.1, hj.2, k _ H1 Z1 F1 (s1.sub fun a h => List.mem_append_left _ h) ok1 wks_rng⟩
    · cases e4
  · cases e4
def enumD (k : Nat) : List D → List D
  | [] => []
  | d :: ds => .tuple [.int k, d] :: enumD (k + 1) ds
theorem enumD_len : ∀ (k : Nat) (ds : List D), (enumD k ds).length = ds.length
  | _, [] => rfl
  | k, _ :: ds => by simp [enumD, enumD_len (k + 1) ds]
theorem enumD_get : ∀ (ds : List D) (k i : Nat) (e : D), (enumD k ds)[i]? = some e → ∃ d, ds[i]? = some d ∧ e = .tuple [.int ((k + i : Nat) : Int), d]
  | [], _, _, _, h => by simp [enumD] at h
  | d :: ds, k, 0, e, h => by simp [enumD] at h; exact ⟨d, rfl, by rw [← h]; simp⟩
  | d :: ds, k, i + 1, e, h => by
    obtain ⟨d', h1, h2⟩ := enumD_get ds (k + 1) i e (by simpa [enumD] using h)
    exact ⟨d', by simpa using h1, by rw [h2, show k + 1 + i = k + (i + 1) by omega]⟩
theorem wks_pair {J : It} {xs : List V} {ds : List D} {G : Hp → Prop} (w : Walk J ds.length G (YPair (fun i => some (.int (i : Nat))) (fun i => xs[i]?))) (hG : ∀ H2 Z2, Lat H Z H2 Z2 → G H2) (r : ShA K H Z xs ds) : Wks K J (enumD 0 ds) H Z := by
  refine ⟨G, _, by rw [enumD_len]; exact w, hG, fun i H2 Z2 x H3 e l y he => ?_⟩
  obtain ⟨d, hd, rfl⟩ := enumD_get _ _ _ _ he
  obtain ⟨T, x1, x2, rfl, nT, rfl, e1, e2⟩ := y
  obtain ⟨v, hv, hs⟩ := (l.shA r).get hd
  have e2' : xs[i]? = some x2 := e2
  rw [hv] at e2'
  cases e2'
  cases e1
  refine ⟨Z2, Ext.new nT, .tup upd_same (.cons ?_ (.cons (hs.ext (Ext.new nT)) .nil))⟩
  rw [Nat.zero_add]
  exact .int _
def lEnum (f : LF) : LF := fun δ => (f δ).bind fun ds => match ds with | [d] => (asSeq d).map (enumD 0) | _ => none
theorem iEnum {a : Expr} {f : LF} {p pos tpos : Pos} {elts : List Expr} {kk : Nat} (hg : Gl X "enumerate") (hm : X.mg "enumerate" = none) (ha : PA X [a] (aP X.K Γ [.sh] f)) (hs : starEach [a] X.env = [(false, eval a X.env)] := by rfl) :
    PI X (.Tuple elts kk tpos) (.Call (.Name "enumerate" p) [a] [] pos) (tIP X.K Γ (lEnum f)) := ((pi_enum hg hm ha hs).or (pi_enumT hg hm ha hs)).imp fun σ H R ⟨δ, Z, F, ds, ok, e, k⟩ => by
  obtain ⟨as, e3, e4⟩ := Option.bind_eq_some_iff.mp e
  split at e4
  · rename_i d
    obtain ⟨es, e5, e6⟩ := Option.map_eq_some_iff.mp e4
    cases e6
    cases d with
    | list es' =>
      cases e5
      refine .inl ⟨δ, Z, F, _, ok, e3, fun vs H1 Z1 g s1 r1 => ?_⟩
      obtain ⟨v, rfl, sv⟩ := vs1 r1
      cases sv with
      | lst z r => exact ⟨_, _, rfl, z.sql, k _ H1 Z1 s1 (wks_pair (by rw [← r.len]; exact walk_enum) (fun H2 Z2 l => l.fzl z) r)⟩
    | tuple es' =>
      cases e5
      refine .inr ⟨δ, Z, F, _, ok, e3, fun vs H1 Z1 g s1 r1 => ?_⟩
      obtain ⟨v, rfl, sv⟩ := vs1 r1
      cases sv with
      | tup h r => exact ⟨_, _, rfl, SqT.of h, k _ H1 Z1 s1 (wks_pair (by rw [← r.len]; exact walk_enumT) (fun H2 Z2 l => l.sqT (SqT.of h)) r)⟩
    | _ => cases e5
  · cases e4

/-! ### targets -/
def gSet (i : Nat) : D → List D → Option (List D) := fun d δ => some (δ.set i d)
def gSets : List Nat → List D → List D → Option (List D)
  | [], [], δ => some δ
  | i :: is, d :: ds, δ => gSets is ds (δ.set i d)
  | _, _, _ => none
def gTupD (is : List Nat) : D → List D → Option (List D) := fun d δ => match d with | .tuple ds => gSets is ds δ | _ => none
def setsT : List Nat → List T → List T
  | [], Γ => Γ
  | i :: is, Γ => setsT is (Γ.set i .sh)
theorem hName {i : Nat} {x : Str} {pos : Pos} (hN : X.N.Nodup) (hi : X.N[i]? = some x) (hx : Loc X.env.scope x) (hl : i < Γ.length) (hf : X.fn x = true ∨ X.env.scope.names.lookup x = some .local := by first | exact .inl rfl | exact .inr rfl | assumption) :
    PG X (.Name x pos) (tG X.K Γ (Γ.set i .sh) [i] (gSet i)) := (pg_name hN hi hx hf).imp fun v σ H Q ⟨δ, Z, F, d, δ1, ok, sv, e, k⟩ => by
  cases e
  obtain ⟨F', o, sb⟩ := ok.set hl (.sh sv) (by simpa using ok.nd) (fun _ q => nomatch q)
  exact k _ F' o (fun a h => by simpa using sb a h) (by simp) fun j hj => by rw [List.getElem?_set_ne (fun z => hj (by simp [z]))]
def tGs (K : PySem.W.Frag) (Γ Γ1 : List T) (is : List Nat) : TGs := fun vs σ H Q => ∃ δ Z F ds δ1, Ok K Γ σ δ H Z F ∧ ShA K H Z vs ds ∧ gSets is ds δ = some δ1 ∧
  ∀ σ1 F1, Ok K Γ1 σ1 δ1 H Z F1 → (∀ a ∈ F1, a ∈ F) → σ1.length = σ.length → (∀ j, j ∉ is → σ1[j]? = σ[j]?) → Q σ1 H
theorem _root_.L2.PGs.imp {ts : List Expr} {t t' : TGs} (h : PGs X ts t) (i : ∀ v σ H Q, t' v σ H Q → t v σ H Q) : PGs X ts t' := ⟨fun pins s σ H v u Q I r q => h.run pins s σ H v u Q I r (i _ _ _ _ q)⟩
theorem hNil : PGs X [] (tGs X.K Γ Γ []) := pgs_nil.imp fun vs σ H Q ⟨δ, Z, F, ds, δ1, ok, sv, e, k⟩ => by
  cases ds with
  | nil => cases sv; cases e; exact ⟨rfl, k σ F ok (fun _ h => h) rfl fun _ _ => rfl⟩
  | cons d ds => cases e
theorem hCons {i : Nat} {is : List Nat} {t : Expr} {ts : List Expr} (h1 : PG X t (tG X.K Γ (Γ.set i .sh) [i] (gSet i))) (h2 : PGs X ts (tGs X.K (Γ.set i .sh) Γ2 is))
    (hs : (assignEach (t :: ts) X.env).map (·.2) = assign t X.env :: (assignEach ts X.env).map (·.2) := by rfl) : PGs X (t :: ts) (tGs X.K Γ Γ2 (i :: is)) := (pgs_cons h1 h2 hs).imp fun vs σ H Q ⟨δ, Z, F, ds, δ1, ok, sv, e, k⟩ => by
  cases ds with
  | nil => cases e
  | cons d ds =>
    cases sv with
    | cons h r => exact ⟨_, _, rfl, δ, Z, F, d, _, ok, h, rfl, fun σ1 F1 ok1 sb1 l1 j1 => ⟨_, Z, F1, ds, δ1, ok1, r, e, fun σ2 F2 ok2 sb2 l2 j2 =>
        k σ2 F2 ok2 (fun a h => sb1 a (sb2 a h)) (l2.trans l1) fun j hj => (j2 j fun z => hj (List.mem_cons_of_mem _ z)).trans (j1 j fun z => hj (by simp only [List.mem_singleton] at z; simp [z]))⟩⟩
theorem hTup {es : List Expr} {k : Nat} {is : List Nat} {pos : Pos} (hc : X.calm = true) (h : PGs X es (tGs X.K Γ Γ2 is)) (hn : (assignEach es X.env).length = is.length := by rfl) (hst : (assignEach es X.env).findIdx? (·.1) = none := by rfl) :
    PG X (.Tuple es k pos) (tG X.K Γ Γ2 is (gTupD is)) := (pg_tup hc h hn hst).imp fun v σ H Q ⟨δ, Z, F, d, δ1, ok, sv, e, k⟩ => by
  unfold gTupD at e
  split at e
  · cases sv with
    | tup hs r =>
      refine ⟨_, _, rfl, SqT.of hs, ?_, δ, Z, F, _, δ1, ok, r, e, k⟩
      have : ∀ (is : List Nat) (ds : List D) (δ δ1 : List D), gSets is ds δ = some δ1 → ds.length = is.length := by
        intro is
        induction is with
        | nil => intro ds δ δ1 h; cases ds with | nil => rfl | cons => cases h
        | cons i is ih => intro ds δ δ1 h; cases ds with | nil => cases h | cons d ds => simp [ih _ _ _ h]
      rw [r.len]
      exact this _ _ _ _ e
  · cases e

/-! ### for -/
def forL (tg : D → List D → Option (List D)) (b : SF) : List D → List D → Option Out
  | [], δ => some (.nx δ)
  | x :: xs, δ => (tg x δ).bind fun δ1 => (b δ1).bind fun o => match o with
    | .nx δ' => forL tg b xs δ'
    | .ct δ' => forL tg b xs δ'
    | .bk δ' => some (.nx δ')
    | .rt d δ' => some (.rt d δ')
def sFor (src : LF) (tg : D → List D → Option (List D)) (b : SF) : SF := fun δ => (src δ).bind fun ds => forL tg b ds δ
def sForM (src : LM) (tg : D → List D → Option (List D)) (b : SF) : SF := fun δ => (src δ).bind fun p => forL tg b p.1 p.2
def noIx (r : List T) (ix : List Nat) : Bool := ix.all fun i => isNo r i
theorem fix_ix {r : List T} {ix : List Nat} (h : noIx r ix = true) (hj : ∀ j, j ∉ ix → σ1[j]? = σ[j]?) : Fix r σ σ1 := fun i t hi n => hj i fun z => by
  have := List.all_eq_true.mp h i z
  unfold isNo at this
  rw [hi] at this
  exact n (by simpa using this)
theorem sForM_of {iter tg : Expr} {body : List Stmt} {pos : Pos} {ix : List Nat} {src : LM} {tgf : D → List D → Option (List D)} {b : SF} (hp : PassesOwn (model X.prog X.w) X.A X.env X.xe) (hc : X.calm = true) (hi : PI X tg iter (tI X.K Γ Γ' src)) (hg : PG X tg (tG X.K Γ' Γ1 ix tgf))
    (hb : PSs X body (tS X.K Γ1 ⟨Γ', Γ', Γ', er, et⟩ b)) (hr : noIx er ix = true) (hs : ∀ x, foldedSetIterable iter X.env x = pure x := by intro _; rfl) : PS X (.For tg iter body [] pos) (tS X.K Γ ⟨Γ', eb, ec, er, et⟩ (sForM src tgf b)) :=
  (ps_for hp hc hi hg hb hs).imp fun W σ H ⟨δ, Z, F, out, ok, e, p⟩ => by
  obtain ⟨⟨ds, δ0⟩, e1, e2⟩ := Option.bind_eq_some_iff.mp e
  refine ⟨δ, Z, F, ds, δ0, ok, e1, fun J H0 Z0 F0 s0 ok0 wk => ?_⟩
  obtain ⟨G, Y, walk, hG, hY⟩ := wk
  refine for_it walk (fun i σi Hi => ∃ δi Zi Fi, Ok X.K Γ' σi δi Hi Zi Fi ∧ forL tgf b (ds.drop i) δi = some out ∧ Stp H0 Z0 F0 Hi Zi Fi ∧ Fix er σ σi) ⟨δ0, Z0, F0, ok0, e2, .refl, .refl _ _⟩ ?_ ?_ ?_
  · rintro i σi Hi hi ⟨δi, Zi, Fi, oki, ei, si, fi⟩
    exact hG Hi Zi (ok0.lat si)
  · rintro i x σi Hi H3 hi ⟨δi, Zi, Fi, oki, ei, si, fi⟩ y
    obtain ⟨d, hd⟩ : ∃ d, ds[i]? = some d := ⟨ds[i], by simp [hi]⟩
    obtain ⟨Z3, s3, sx⟩ := hY i Hi Zi x H3 d (ok0.lat si) y hd
    have hdr : ds.drop i = d :: ds.drop (i + 1) := by
      rw [List.drop_eq_getElem_cons hi]
      have : ds[i] = d := by simpa [hi] using hd
      rw [this]
    rw [hdr] at ei
    obtain ⟨δ1, e3, e4⟩ := Option.bind_eq_some_iff.mp ei
    obtain ⟨o, e5, e6⟩ := Option.bind_eq_some_iff.mp e4
    refine ⟨δi, Z3, Fi, d, δ1, oki.ext s3, sx, e3, fun σ1 F1 ok1 sb1 l1 j1 => ⟨δ1, Z3, F1, o, ok1, e5, ?_⟩⟩
    have s4 : Stp H0 Z0 F0 H3 Z3 F1 := (si.trans s3.stp).sub sb1
    have f1 : Fix er σ σ1 := fi.trans (fix_ix hr j1)
    cases o with
    | nx δ' => exact fun σ' H' Z' F' s' o' fx => ⟨δ', Z', F', o', e6, s4.trans s', f1.trans fx⟩
    | ct δ' => exact fun σ' H' Z' F' s' o' fx => ⟨δ', Z', F', o', e6, s4.trans s', f1.trans fx⟩
    | bk δ' => cases e6; exact fun σ' H' Z' F' s' o' fx => p σ' H' Z' F' (s0.trans (s4.trans s')) o' (f1.trans fx)
    | rt d δ' => cases e6; exact fun v σ' H' Z' F' g s' o' fx r nd dz => p v σ' H' Z' F' g (s0.trans (s4.trans s')) o' (f1.trans fx) r nd dz
  · rintro σi Hi ⟨δi, Zi, Fi, oki, ei, si, fi⟩
    rw [List.drop_length] at ei
    cases ei
    exact p σi Hi Zi Fi (s0.trans si) oki fi
theorem sFor_eq (src : LF) (tg : D → List D → Option (List D)) (b : SF) : sFor src tg b = sForM (lmOf src) tg b := by
  funext δ
  unfold sFor sForM lmOf
  cases src δ <;> rfl
theorem zForM {iter tg : Expr} {body : List Stmt} {pos : Pos} {ix : List Nat} {src : LM} {tgf : D → List D → Option (List D)} {b : SF} (hp : PassesOwn (model X.prog X.w) X.A X.env X.xe) (hc : X.calm = true) (hi : PI X tg iter (tI X.K Γ Γ' src)) (hg : PG X tg (tG X.K Γ' Γ1 ix tgf))
    (hb : PSs X body (tS X.K Γ1 ⟨Γ', Γ', Γ', er, et⟩ b)) (hr : noIx er ix = true) (hs : ∀ x, foldedSetIterable iter X.env x = pure x := by intro _; rfl) : PS X (.For tg iter body [] pos) (tS X.K Γ ⟨Γ', eb, ec, er, et⟩ (sForM src tgf b)) := sForM_of hp hc hi hg hb hr hs
theorem zFor {iter tg : Expr} {body : List Stmt} {pos : Pos} {ix : List Nat} {src : LF} {tgf : D → List D → Option (List D)} {b : SF} (hp : PassesOwn (model X.prog X.w) X.A X.env X.xe) (hc : X.calm = true) (hi : PI X tg iter (tIP X.K Γ src)) (hg : PG X tg (tG X.K Γ Γ1 ix tgf))
    (hb : PSs X body (tS X.K Γ1 ⟨Γ, Γ, Γ, er, et⟩ b)) (hr : noIx er ix = true) (hs : ∀ x, foldedSetIterable iter X.env x = pure x := by intro _; rfl) : PS X (.For tg iter body [] pos) (tS X.K Γ ⟨Γ, eb, ec, er, et⟩ (sFor src tgf b)) := by
  rw [sFor_eq]; exact sForM_of hp hc (iM hi) hg hb hr hs
end
end Pv

set_option Elab.async false
set_option linter.all false
set_option maxRecDepth 100000
/-! Pv9: list comprehensions. -/
namespace Pv
open PySem PySem.Spec PyProof.Rows L2
def cmpM (tg : D → List D → Option (List D)) (c : BM) (e : EM) : List D → List D → Option (List D × List D)
  | [], δ => some ([], δ)
  | x :: xs, δ => (tg x δ).bind fun δ1 => (c δ1).bind fun p => if p.1 then (e p.2).bind fun q => (cmpM tg c e xs q.2).bind fun r => some (q.1 :: r.1, r.2) else cmpM tg c e xs p.2
def xCmpM (src : LM) (tg : D → List D → Option (List D)) (c : BM) (e : EM) : EM := fun δ => (src δ).bind fun p => if p.1.length ≤ sizeLine then (cmpM tg c e p.1 p.2).map fun r => (.list r.1, r.2) else none
def cmpP (tg : D → List D → Option (List D)) (c : BF) (e : EF) (δ : List D) : List D → Option (List D)
  | [] => some []
  | x :: xs => (tg x δ).bind fun δ1 => (c δ1).bind fun b => if b then (e δ1).bind fun y => (cmpP tg c e δ xs).bind fun r => some (y :: r) else cmpP tg c e δ xs
def xCmp (src : LF) (tg : D → List D → Option (List D)) (c : BF) (e : EF) : EF := fun δ => (src δ).bind fun ds => if ds.length ≤ sizeLine then (cmpP tg c e δ ds).map .list else none
def bYes : BF := fun _ => some true
section
variable {K : PySem.W.Frag} {X : Cx} {Γ Γ' Γ1 Γ2 Γ3 : List T} {H H' H1 H2 H3 : Hp} {Z Z' Z1 Z2 Z3 : FzT} {F F' F1 F2 : List Addr} {σ σ' σ1 : L2.St} {δ δ' : List D} {E : TyE} {en eb ec er : List T} {et : T} {W W' : Ends}
theorem _root_.L2.PTs.imp {ifs : List Expr} {t t' : TT} (h : PTs X ifs t) (i : ∀ σ H Q, t' σ H Q → t σ H Q) : PTs X ifs t' := ⟨fun pins s σ H Q I q => h.run pins s σ H Q I (i _ _ _ q)⟩
theorem kNil : PTs X [] (bP X.K Γ bYes) := pts_nil.imp fun σ H Q ⟨δ, Z, F, b, ok, e, k⟩ => by cases e; exact k H Z .refl
theorem kOne {c : Expr} {f : BF} (h : PT X c (bP X.K Γ f)) : PTs X [c] (bP X.K Γ f) := pts_one h
theorem kNilM : PTs X [] (bM X.K Γ Γ (bMOf bYes)) := pts_nil.imp fun σ H Q ⟨δ, Z, F, b, δ', ok, e, k⟩ => by cases e; exact k H Z F .refl ok
theorem kOneM {c : Expr} {f : BM} (h : PT X c (bM X.K Γ Γ' f)) : PTs X [c] (bM X.K Γ Γ' f) := pts_one h
theorem Env.agree : ∀ {Γ : List T} {σ σ' : L2.St} {δ : List D} {F : List Addr}, Env K H Z Γ σ δ F → σ'.length = σ.length → (∀ (i : Nat) (t : T), Γ[i]? = some t → t ≠ .no → σ'[i]? = σ[i]?) → Env K H Z Γ σ' δ F
  | _, _, [], _, _, .nil, _, _ => .nil
  | _, _, _ :: _, _, _, .nil, l, _ => by simp at l
  | _, _, [], _, _, .no _, l, _ => by simp at l
  | _, _, [], _, _, .cons _ _, l, _ => by simp at l
  | _, _, v :: σ', _, _, .no r, l, h => .no (Env.agree r (by simpa using l) fun i t hi n => by simpa using h (i + 1) t (by simpa using hi) n)
  | t :: _, _, v :: σ', _, _, .cons q r, l, h => by
    have ih := Env.agree r (σ' := σ') (by simpa using l) fun i t hi n => by simpa using h (i + 1) t (by simpa using hi) n
    by_cases hn : t = .no
    · subst hn
      cases q
      exact .no ih
    · have e := h 0 t rfl hn
      rw [List.getElem?_cons_zero, List.getElem?_cons_zero] at e
      cases e
      exact .cons q ih
theorem Ok.agree (o : Ok K Γ σ δ H Z F) (hl : σ'.length = σ.length) (h : ∀ (i : Nat) (t : T), Γ[i]? = some t → t ≠ .no → σ'[i]? = σ[i]?) : Ok K Γ σ' δ H Z F := ⟨o.env.agree hl h, o.nd, o.dz, o.zs⟩
theorem wipe_in : ∀ {vs : List Nat} {σ : L2.St} {j : Nat}, j ∈ vs → j < σ.length → (wipe σ vs)[j]? = some none
  | [], _, _, h, _ => nomatch h
  | v :: vs, σ, j, h, l => by
    unfold wipe
    by_cases e : v = j
    · subst e
      rw [List.getElem?_set_self (by rw [wipe_length]; exact l)]
    · rw [List.getElem?_set_ne e]
      exact wipe_in ((List.mem_cons.mp h).resolve_left (Ne.symm e)) l
theorem wipe_eq {vs : List Nat} (hl : σ1.length = σ.length) (h : ∀ j, j ∉ vs → σ1[j]? = (wipe σ vs)[j]?) : wipe σ1 vs = wipe σ vs := by
  refine List.ext_getElem? fun j => ?_
  by_cases hj : j ∈ vs
  · by_cases l : j < σ.length
    · rw [wipe_in hj l, wipe_in hj (by omega)]
    · rw [List.getElem?_eq_none (by rw [wipe_length]; omega), List.getElem?_eq_none (by rw [wipe_length]; omega)]
  · rw [wipe_out hj, h j hj]
theorem no_at {r : List T} {ix : List Nat} (h : noIx r ix = true) {i : Nat} {t : T} (hi : r[i]? = some t) (n : t ≠ .no) : i ∉ ix := fun z => by
  have := List.all_eq_true.mp h i z
  unfold isNo at this
  rw [hi] at this
  exact n (by simpa using this)
theorem Ext.updNew {a : Addr} {o : HO} (s : Ext H Z H' Z') (h : H a = none) : Ext H Z (upd H' a o) Z' :=
  ⟨fun x u q n => by rw [upd_ne (ne_of_none q h)]; exact s.keep x u q n, s.mono, fun _ q => (nomatch q), s.frz, fun x q => upd_live (s.live x q), fun x q => (s.zs x q).imp id fun z => upd_live z⟩
theorem lcC {t : T} {vs : List Nat} {src : LF} {tgf : D → List D → Option (List D)} {c : BF} {f : EF} (hno : noIx Γ vs = true) : ∀ (σ : L2.St) (H : Hp) (Q : VK), tC K Γ (.ol t) (xCmp src tgf c f) σ H Q → tLc (tIP K Γ src) (tG K Γ Γ1 vs tgf) (bP K Γ1 c) (tC K Γ1 t f) vs σ H Q := fun σ H Q ⟨δ, Z, F, d, ok, e, k⟩ => by
  obtain ⟨ds, e1, e2⟩ := Option.bind_eq_some_iff.mp e
  split at e2
  · rename_i hsz
    obtain ⟨fin, e3, e4⟩ := Option.map_eq_some_iff.mp e2
    cases e4
    refine ⟨δ, Z, F, ds, ok, e1, fun J H0 Z0 s0 wk D hD => ?_⟩
    obtain ⟨G, Y, walk, hG, hY⟩ := wk
    have ok0 := ok.ext s0
    have hDn : D ∉ F := fun z => ok0.live z hD
    refine lc_it walk (fun i Hi => ∃ Zi acc accD g rest, Ext H0 Z0 Hi Zi ∧ Hi D = some (.lst acc) ∧ RepA K Hi Zi t acc accD g ∧ (D :: g).Nodup ∧ (∀ a ∈ D :: g, H0 a = none ∧ ¬ Zi a) ∧ acc.length ≤ i ∧ cmpP tgf c f δ (ds.drop i) = some rest ∧ accD ++ rest = fin)
      ⟨Z0, [], [], [], fin, Ext.new hD, upd_same, .nil, by simp, fun a ha => ?_, Nat.le_refl _, e3, rfl⟩ ?_ ?_ ?_
    · have ea : a = D := by simpa using ha
      subst ea
      exact ⟨hD, fun hz => ok0.zs a hz hD⟩
    · rintro i Hi hi ⟨Zi, acc, accD, g, rest, si, _⟩
      exact hG Hi Zi ⟨[], [], si, Mu.nil, (fun _ q => nomatch q)⟩
    · rintro i x Hi H3 hi ⟨Zi, acc, accD, g, rest, si, hDi, ra, nd, dz, hl, er, ea⟩ y
      obtain ⟨d, hd⟩ : ∃ d, ds[i]? = some d := ⟨ds[i], by simp [hi]⟩
      obtain ⟨Z3, s3, sx⟩ := hY i Hi Zi x H3 d ⟨[], [], si, Mu.nil, (fun _ q => nomatch q)⟩ y hd
      have hdr : ds.drop i = d :: ds.drop (i + 1) := by
        rw [List.drop_eq_getElem_cons hi]
        have : ds[i] = d := by simpa [hi] using hd
        rw [this]
      rw [hdr] at er
      obtain ⟨δ1, e5, e6⟩ := Option.bind_eq_some_iff.mp er
      obtain ⟨b, e7, e8⟩ := Option.bind_eq_some_iff.mp e6
      have okw : Ok K Γ (wipe σ vs) δ H3 Z3 F := (ok0.ext (si.trans s3)).agree (wipe_length _ _) fun i t hi n => wipe_out (no_at hno hi n)
      refine ⟨δ, Z3, F, d, δ1, okw, sx, e5, fun σ1 F1 ok1 sb1 l1 j1 => ⟨wipe_eq (l1.trans (wipe_length _ _)) j1, δ1, Z3, F1, b, ok1, e7, fun H4 Z4 s4 => ?_⟩⟩
      cases b with
      | true =>
        rw [if_pos rfl] at e8
        refine iteT ?_
        obtain ⟨yd, e9, e10⟩ := Option.bind_eq_some_iff.mp e8
        obtain ⟨r, e11, e12⟩ := Option.bind_eq_some_iff.mp e10
        cases e12
        refine ⟨δ1, Z4, F1, yd, ok1.ext s4, e9, fun v H5 Z5 g5 s5 r5 nd5 dz5 => ?_⟩
        have s35 : Ext Hi Zi H5 Z5 := s3.trans (s4.trans s5)
        have hD5 : H5 D = some (.lst acc) := s35.keep D _ hDi (by simp)
        have ra5 := ra.ext s35
        have su : Stp H5 Z5 [D] (upd H5 D (.lst (acc ++ [v]))) Z5 [D] := Stp.upd (by simp)
        have mu : Mu H5 [D] := Mu.one hD5
        have h4D : H4 D = some (.lst acc) := (s3.trans s4).keep D _ hDi (by simp)
        have nDz : ¬ Z5 D := fun hz => by
          rcases s35.frz D hz with q | q | q
          · exact (dz D List.mem_cons_self).2 q
          · cases q
          · rw [hDi] at q; cases q
        have nDg5 : D ∉ g5 := fun z => by rw [(dz5 D z).1] at h4D; cases h4D
        have nDg : D ∉ g := (List.nodup_cons.mp nd).1
        have nS : ∀ x, x ∈ g ∨ x ∈ g5 → x ∉ [D] := fun x hx hz => by
          simp only [List.mem_singleton] at hz
          subst hz
          exact hx.elim nDg nDg5
        refine ⟨acc, hD5, by omega, Z5, acc ++ [v], accD ++ [yd], g ++ g5, r, (si.trans s35).updNew hD, upd_same,
          (ra5.app (RepA.one r5)).step su mu (fun x hx => by simp only [List.mem_singleton] at hx; rw [hx]; exact nDz) (fun x hx => nS x (List.mem_append.mp hx)), ?_, fun a ha => ?_, by simp; omega, e11, by simp [List.append_assoc, ← ea]⟩
        · refine List.nodup_cons.mpr ⟨fun z => (List.mem_append.mp z).elim nDg nDg5, nd_of (List.nodup_cons.mp nd).2 nd5 fun a ha hb => ?_⟩
          exact (ra.ext (s3.trans s4)).mu.some hb (dz5 a ha).1
        · have old : ∀ a, a ∈ D :: g → H0 a = none ∧ ¬ Z5 a := fun a h => ⟨(dz a h).1, fun hz => by
            have hn : Hi a ≠ none := by
              rcases List.mem_cons.mp h with h | h
              · rw [h, hDi]; intro z; cases z
              · exact ra.mu.some h
            rcases s35.frz a hz with q | q | q
            · exact (dz a h).2 q
            · cases q
            · exact hn q⟩
          rcases List.mem_cons.mp ha with h | h
          · exact old a (by simp [h])
          · rcases List.mem_append.mp h with h | h
            · exact old a (by simp [h])
            · exact ⟨Same.free (si.trans (s3.trans s4)).same (dz5 a h).1, (dz5 a h).2⟩
      | false =>
        rw [if_neg Bool.false_ne_true] at e8
        refine iteF ?_
        have s34 : Ext Hi Zi H4 Z4 := s3.trans s4
        refine ⟨Z4, acc, accD, g, rest, si.trans s34, s34.keep D _ hDi (by simp), ra.ext s34, nd, fun a h => ⟨(dz a h).1, fun hz => ?_⟩, by omega, e8, ea⟩
        have hn : Hi a ≠ none := by
          rcases List.mem_cons.mp h with h | h
          · rw [h, hDi]; intro z; cases z
          · exact ra.mu.some h
        rcases s34.frz a hz with q | q | q
        · exact (dz a h).2 q
        · cases q
        · exact hn q
    · rintro Hi ⟨Zi, acc, accD, g, rest, si, hDi, ra, nd, dz, hl, er, ea⟩
      rw [List.drop_length] at er
      cases er
      rw [List.append_nil] at ea
      subst ea
      exact k (.ref D) Hi Zi (D :: g) (s0.trans si) (.ol hDi ra) nd fun a ha => ⟨Same.free s0.same (dz a ha).1, (dz a ha).2⟩
  · cases e2
theorem cCmp0 {t : T} {elt tg iter : Expr} {ifs : List Expr} {scope : Scope} {own : List (Str × Nat)} {pos : Pos} {src : LF} {tgf : D → List D → Option (List D)} {c : BF} {f : EF} (hc : X.calm = true) (hN : X.N.Nodup) (hi : PI X tg iter (tIP X.K Γ src)) (ok : BlkOk X.N X.env.scope scope own)
    (hg : ∀ (s : Shared) (H : Hp) (C : Addr) (cl : List (Str × Addr)) (fp : List Addr), PG (X.blk s H scope (compEnvC scope cl C X.env) fp) tg (tG X.K Γ Γ1 (own.map (·.2)) tgf)) (ht : ∀ (s : Shared) (H : Hp) (C : Addr) (cl : List (Str × Addr)) (fp : List Addr), PTs (X.blk s H scope (compEnvC scope cl C X.env) fp) ifs (bP X.K Γ1 c))
    (he : ∀ (s : Shared) (H : Hp) (C : Addr) (cl : List (Str × Addr)) (fp : List Addr), PE (X.blk s H scope (compEnvC scope cl C X.env) fp) elt (tC X.K Γ1 t f)) (hno : noIx Γ (own.map (·.2)) = true) (hs : ∀ x, foldedSetIterable iter X.env x = pure x := by intro _; rfl) :
    PE X (.ListComp elt [⟨tg, iter, ifs, 0⟩] scope pos) (tC X.K Γ (.ol t) (xCmp src tgf c f)) := (pe_lc hc hN hi ok hg ht he hs).imp (lcC hno)
theorem lcM {t : T} {vs : List Nat} {src : LM} {tgf : D → List D → Option (List D)} {c : BM} {f : EM} (hno : noIx Γ' vs = true) (hw2 : wk Γ2 Γ' = true) (hw3 : wk Γ3 Γ' = true) : ∀ (σ : L2.St) (H : Hp) (Q : VK), tM K Γ Γ' (.ol t) (xCmpM src tgf c f) σ H Q → tLc (tI K Γ Γ' src) (tG K Γ' Γ1 vs tgf) (bM K Γ1 Γ2 c) (tM K Γ2 Γ3 t f) vs σ H Q := fun σ H Q ⟨δ, Z, F, d, δ', ok, e, k⟩ => by
  obtain ⟨⟨ds, δ0⟩, e1, e2⟩ := Option.bind_eq_some_iff.mp e
  split at e2
  · rename_i hsz
    replace hsz : ds.length ≤ sizeLine := hsz
    obtain ⟨⟨fin, δf⟩, e3, e4⟩ := Option.map_eq_some_iff.mp e2
    cases e4
    refine ⟨δ, Z, F, ds, δ0, ok, e1, fun J H0 Z0 F0 s0 ok0 wk D hD => ?_⟩
    obtain ⟨G, Y, walk, hG, hY⟩ := wk
    have hDF : D ∉ F0 := fun z => ok0.live z hD
    refine lc_it walk (fun i Hi => ∃ δi Zi Fi acc accD g rest, Ok K Γ' σ δi Hi Zi Fi ∧ Hi D = some (.lst acc) ∧ RepA K Hi Zi t acc accD g ∧ (Fi ++ (D :: g)).Nodup ∧ (∀ a ∈ D :: g, ¬ Zi a) ∧ Stp H0 Z0 F0 Hi Zi (Fi ++ (D :: g)) ∧ acc.length ≤ i ∧
        cmpM tgf c f (ds.drop i) δi = some (rest, δf) ∧ accD ++ rest = fin)
      ⟨δ0, Z0, F0, [], [], [], fin, ok0.ext (Ext.new hD), upd_same, .nil, ?_, fun a ha => ?_, ?_, Nat.le_refl _, e3, rfl⟩ ?_ ?_ ?_
    · exact nd_of ok0.nd (by simp) fun a ha => by
        have ea : a = D := by simpa using ha
        rw [ea]; exact hDF
    · have ea : a = D := by simpa using ha
      subst ea
      exact fun hz => ok0.zs a hz hD
    · have s := Ext.new (Z := Z0) (o := HO.lst []) hD
      exact ⟨fun x o q n => s.keep x o q (by simp), s.mono, fun a ha => by
        rcases List.mem_append.mp ha with h | h
        · exact .inl h
        · have ea : a = D := by simpa using h
          rw [ea]; exact .inr hD, (s.stp (F := F0)).frz, s.live, s.zs⟩
    · rintro i Hi hi ⟨δi, Zi, Fi, acc, accD, g, rest, oki, _, _, _, _, si, _⟩
      exact hG Hi Zi (ok0.lat si)
    · rintro i x Hi H3 hi ⟨δi, Zi, Fi, acc, accD, g, rest, oki, hDi, ra, nd, dz, si, hl, er, ea⟩ y
      obtain ⟨d, hd⟩ : ∃ d, ds[i]? = some d := ⟨ds[i], by simp [hi]⟩
      obtain ⟨Z3, s3, sx⟩ := hY i Hi Zi x H3 d (ok0.lat si) y hd
      have hdr : ds.drop i = d :: ds.drop (i + 1) := by
        rw [List.drop_eq_getElem_cons hi]
        have : ds[i] = d := by simpa [hi] using hd
        rw [this]
      rw [hdr] at er
      obtain ⟨δ1, e5, e6⟩ := Option.bind_eq_some_iff.mp er
      obtain ⟨⟨b, δ2⟩, e7, e8⟩ := Option.bind_eq_some_iff.mp e6
      have okw : Ok K Γ' (wipe σ vs) δi H3 Z3 Fi := (oki.ext s3).agree (wipe_length _ _) fun i t hi n => wipe_out (no_at hno hi n)
      have muB : Mu Hi (D :: g) := fun a ha => by
        rcases List.mem_cons.mp ha with h | h
        · rw [h]; exact ⟨_, hDi, rfl⟩
        · exact ra.mu a h
      have apB : ∀ a ∈ D :: g, a ∉ Fi := nd_apart nd
      refine ⟨δi, Z3, Fi, d, δ1, okw, sx, e5, fun σ1 F1 ok1 sb1 l1 j1 => ⟨wipe_eq (l1.trans (wipe_length _ _)) j1, δ1, Z3, F1, b, δ2, ok1, e7, fun H4 Z4 F4 s4 ok4 => ?_⟩⟩
      have s13 : Stp Hi Zi Fi H3 Z3 F1 := s3.stp.sub sb1
      have agr : ∀ (i : Nat) (t : T), Γ'[i]? = some t → t ≠ .no → σ[i]? = σ1[i]? := fun i t hi n => by rw [j1 i (no_at hno hi n), wipe_out (no_at hno hi n)]
      have lagr : σ.length = σ1.length := by rw [l1, wipe_length]
      cases b with
      | true =>
        rw [if_pos (show (true, δ2).1 = true from rfl)] at e8
        refine iteT ?_
        obtain ⟨⟨yd, δ3⟩, e9, e10⟩ := Option.bind_eq_some_iff.mp e8
        obtain ⟨⟨r, δr⟩, e11, e12⟩ := Option.bind_eq_some_iff.mp e10
        cases e12
        refine ⟨δ2, Z4, F4, yd, δ3, ok4, e9, fun v H5 Z5 F5 g5 s5 ok5 r5 nd5 dz5 => ?_⟩
        have S : Stp Hi Zi Fi H5 Z5 (F5 ++ g5) := s13.trans (s4.trans s5)
        have hD5 : H5 D = some (.lst acc) := S.keep D _ hDi (apB D List.mem_cons_self)
        have ra5 := ra.step S oki.mu oki.dz fun a h => apB a (List.mem_cons_of_mem _ h)
        have apB5 := S.apart muB apB
        have dzB5 := S.dzs muB dz apB
        have su : Stp H5 Z5 [D] (upd H5 D (.lst (acc ++ [v]))) Z5 [D] := Stp.upd (by simp)
        have mu : Mu H5 [D] := Mu.one hD5
        have dzD : ∀ x ∈ [D], ¬ Z5 x := fun x hx => by simp only [List.mem_singleton] at hx; rw [hx]; exact dzB5 D List.mem_cons_self
        have nDg : D ∉ g := (List.nodup_cons.mp (List.nodup_append.mp nd).2.1).1
        have nD5 : D ∉ F5 ++ g5 := apB5 D List.mem_cons_self
        have nS : ∀ x, x ∈ g ∨ x ∈ F5 ++ g5 → x ∉ [D] := fun x hx hz => by
          simp only [List.mem_singleton] at hz
          subst hz
          exact hx.elim nDg nD5
        obtain ⟨F6, ok6, sb6⟩ := Ok.weak hw3 ok5
        have ok7 : Ok K Γ' σ δ3 (upd H5 D (.lst (acc ++ [v]))) Z5 F6 := by
          have o1 : Ok K Γ' σ1 δ3 (upd H5 D (.lst (acc ++ [v]))) Z5 F6 := ⟨ok6.env.step su mu dzD fun x hx => nS x (.inr (List.mem_append_left _ (sb6.subset hx))), ok6.nd, ok6.dz, fun x hx => upd_live (ok6.zs x hx)⟩
          exact o1.agree lagr agr
        have ndg5 : (F6 ++ (D :: (g ++ g5))).Nodup := by
          have n1 : ((F5 ++ g5) ++ (D :: g)).Nodup := nd_of nd5 (List.nodup_append.mp nd).2.1 apB5
          have n2 : ((F6 ++ g5) ++ (D :: g)).Nodup := n1.sublist ((sb6.append (.refl _)).append (.refl _))
          refine List.Perm.nodup ?_ n2
          rw [List.append_assoc]
          refine List.Perm.append_left F6 ?_
          have := (List.perm_append_comm (l₁ := g5) (l₂ := D :: g))
          simpa using this
        refine ⟨acc, hD5, by omega, δ3, Z5, F6, acc ++ [v], accD ++ [yd], g ++ g5, r, ok7, upd_same,
          (ra5.app (RepA.one r5)).step su mu dzD (fun x hx => nS x ((List.mem_append.mp hx).imp id (List.mem_append_right _))), ndg5, fun a ha => ?_, ?_, by simp; omega, e11, by simp [List.append_assoc, ← ea]⟩
        · rcases List.mem_cons.mp ha with h | h
          · exact dzB5 a (by simp [h])
          · rcases List.mem_append.mp h with h | h
            · exact dzB5 a (by simp [h])
            · exact dz5 a h
        · refine (si.trans ((S.frame (g := D :: g)).trans (Stp.upd (a := D) (by simp)))).sub fun a ha => ?_
          simp only [List.mem_append, List.mem_cons] at ha ⊢
          rcases ha with h | h | h | h
          · exact .inl (.inl (sb6.subset h))
          · exact .inr (.inl h)
          · exact .inr (.inr h)
          · exact .inl (.inr h)
      | false =>
        rw [if_neg (show ¬ (false, δ2).1 = true from Bool.false_ne_true)] at e8
        refine iteF ?_
        have S : Stp Hi Zi Fi H4 Z4 F4 := s13.trans s4
        obtain ⟨F6, ok6, sb6⟩ := Ok.weak hw2 ok4
        refine ⟨δ2, Z4, F6, acc, accD, g, rest, ok6.agree lagr agr, S.keep D _ hDi (apB D List.mem_cons_self), ra.step S oki.mu oki.dz (fun a h => apB a (List.mem_cons_of_mem _ h)), ?_, S.dzs muB dz apB, ?_, by omega, e8, ea⟩
        · exact nd_of ok6.nd (List.nodup_append.mp nd).2.1 fun a ha hb => S.apart muB apB a ha (sb6.subset hb)
        · refine (si.trans (S.frame (g := D :: g))).sub fun a ha => ?_
          rcases List.mem_append.mp ha with h | h
          · exact List.mem_append_left _ (sb6.subset h)
          · exact List.mem_append_right _ h
    · rintro Hi ⟨δi, Zi, Fi, acc, accD, g, rest, oki, hDi, ra, nd, dz, si, hl, er, ea⟩
      rw [List.drop_length] at er
      cases er
      rw [List.append_nil] at ea
      subst ea
      exact k (.ref D) Hi Zi Fi (D :: g) (s0.trans si) oki (.ol hDi ra) nd dz
  · cases e2
theorem mCmp0 {t : T} {elt tg iter : Expr} {ifs : List Expr} {scope : Scope} {own : List (Str × Nat)} {pos : Pos} {src : LM} {tgf : D → List D → Option (List D)} {c : BM} {f : EM} (hc : X.calm = true) (hN : X.N.Nodup) (hi : PI X tg iter (tI X.K Γ Γ' src)) (ok : BlkOk X.N X.env.scope scope own)
    (hg : ∀ (s : Shared) (H : Hp) (C : Addr) (cl : List (Str × Addr)) (fp : List Addr), PG (X.blk s H scope (compEnvC scope cl C X.env) fp) tg (tG X.K Γ' Γ1 (own.map (·.2)) tgf)) (ht : ∀ (s : Shared) (H : Hp) (C : Addr) (cl : List (Str × Addr)) (fp : List Addr), PTs (X.blk s H scope (compEnvC scope cl C X.env) fp) ifs (bM X.K Γ1 Γ2 c))
    (he : ∀ (s : Shared) (H : Hp) (C : Addr) (cl : List (Str × Addr)) (fp : List Addr), PE (X.blk s H scope (compEnvC scope cl C X.env) fp) elt (tM X.K Γ2 Γ3 t f)) (hno : noIx Γ' (own.map (·.2)) = true) (hw2 : wk Γ2 Γ' = true) (hw3 : wk Γ3 Γ' = true) (hs : ∀ x, foldedSetIterable iter X.env x = pure x := by intro _; rfl) :
    PE X (.ListComp elt [⟨tg, iter, ifs, 0⟩] scope pos) (tM X.K Γ Γ' (.ol t) (xCmpM src tgf c f)) := (pe_lc hc hN hi ok hg ht he hs).imp (lcM hno hw2 hw3)
theorem zSetCmp {i : Nat} {y : Str} {py : Pos} {t : T} {elt tg iter : Expr} {ifs : List Expr} {scope : Scope} {own : List (Str × Nat)} {pos spos : Pos} {src : LF} {tgf : D → List D → Option (List D)} {c : BF} {f : EF} (hc : X.calm = true) (hN : X.N.Nodup) (hy : X.N[i]? = some y) (hyl : X.env.scope.names.lookup y = some .local)
    (hsw : swapsWith (.ListComp elt [⟨tg, iter, ifs, 0⟩] scope pos) (some (.Name y py)) spos.line X.env = pure true) (hi : PI X tg iter (tIP X.K Γ src)) (ok : BlkOk X.N X.env.scope scope own)
    (hg : ∀ (s : Shared) (H : Hp) (C : Addr) (cl : List (Str × Addr)) (fp : List Addr), PG (X.blk s H scope (compEnvC scope cl C X.env) fp) tg (tG X.K Γ Γ1 (own.map (·.2)) tgf)) (ht : ∀ (s : Shared) (H : Hp) (C : Addr) (cl : List (Str × Addr)) (fp : List Addr), PTs (X.blk s H scope (compEnvC scope cl C X.env) fp) ifs (bP X.K Γ1 c))
    (he : ∀ (s : Shared) (H : Hp) (C : Addr) (cl : List (Str × Addr)) (fp : List Addr), PE (X.blk s H scope (compEnvC scope cl C X.env) fp) elt (tC X.K Γ1 t f)) (hno : noIx Γ (own.map (·.2)) = true) (hl : i < Γ.length) (hr : isNo er i = true) (hs : ∀ x, foldedSetIterable iter X.env x = pure x := by intro _; rfl) :
    PS X (.Assign [.Name y py] (.ListComp elt [⟨tg, iter, ifs, 0⟩] scope pos) spos) (tS X.K Γ ⟨Γ.set i (.ol t), eb, ec, er, et⟩ (sSet i (xCmp src tgf c f))) := by
  rw [sSet_eq]
  refine (ps_setLc hc hN hy hyl hsw hi ok hg ht he hs).imp fun W σ H h => post_set (Γ' := Γ) (eb := eb) (ec := ec) (et := et) hl hr (fun Q q => lcC hno σ H Q ?_) h
  obtain ⟨δ, Z, F, d, δ', o, e, k⟩ := q
  unfold mOf at e
  cases q' : xCmp src tgf c f δ with
  | none => rw [q'] at e; cases e
  | some d' =>
    rw [q'] at e; cases e
    refine ⟨δ, Z, F, d, o, q', fun v H' Z' g s r nd hz => k v H' Z' F g ?_ (o.ext s) r (nodup_app o.nd nd fun a ha hf => o.live hf (hz a ha).1) fun a ha => (hz a ha).2⟩
    exact ⟨s.stp.keep, s.mono, fun a ha => (List.mem_append.mp ha).imp id fun z => (hz a z).1, s.stp.frz, s.live, s.zs⟩
theorem zSetCmpM {i : Nat} {y : Str} {py : Pos} {t : T} {elt tg iter : Expr} {ifs : List Expr} {scope : Scope} {own : List (Str × Nat)} {pos spos : Pos} {src : LM} {tgf : D → List D → Option (List D)} {c : BM} {f : EM} (hc : X.calm = true) (hN : X.N.Nodup) (hy : X.N[i]? = some y) (hyl : X.env.scope.names.lookup y = some .local)
    (hsw : swapsWith (.ListComp elt [⟨tg, iter, ifs, 0⟩] scope pos) (some (.Name y py)) spos.line X.env = pure true) (hi : PI X tg iter (tI X.K Γ Γ' src)) (ok : BlkOk X.N X.env.scope scope own)
    (hg : ∀ (s : Shared) (H : Hp) (C : Addr) (cl : List (Str × Addr)) (fp : List Addr), PG (X.blk s H scope (compEnvC scope cl C X.env) fp) tg (tG X.K Γ' Γ1 (own.map (·.2)) tgf)) (ht : ∀ (s : Shared) (H : Hp) (C : Addr) (cl : List (Str × Addr)) (fp : List Addr), PTs (X.blk s H scope (compEnvC scope cl C X.env) fp) ifs (bM X.K Γ1 Γ2 c))
    (he : ∀ (s : Shared) (H : Hp) (C : Addr) (cl : List (Str × Addr)) (fp : List Addr), PE (X.blk s H scope (compEnvC scope cl C X.env) fp) elt (tM X.K Γ2 Γ3 t f)) (hno : noIx Γ' (own.map (·.2)) = true) (hw2 : wk Γ2 Γ' = true) (hw3 : wk Γ3 Γ' = true) (hl : i < Γ'.length) (hr : isNo er i = true) (hs : ∀ x, foldedSetIterable iter X.env x = pure x := by intro _; rfl) :
    PS X (.Assign [.Name y py] (.ListComp elt [⟨tg, iter, ifs, 0⟩] scope pos) spos) (tS X.K Γ ⟨Γ'.set i (.ol t), eb, ec, er, et⟩ (sSetM i (xCmpM src tgf c f))) :=
  (ps_setLc hc hN hy hyl hsw hi ok hg ht he hs).imp fun W σ H h => post_set (Γ' := Γ') (eb := eb) (ec := ec) (et := et) hl hr (fun Q q => lcM hno hw2 hw3 σ H Q q) h
end
end Pv

set_option Elab.async false
set_option linter.all false
set_option maxRecDepth 100000
/-! Pr: list(reversed(a list)). -/
namespace RT
open PySem PySem.Spec PyProof.Rows L2
section
variable {prog : Program} {w : World} {A : Around} {E : Value → Shared → Prop} {s : Shared}
theorem pv_list_init_rev {R : Result → Shared → Prop} {it l S : Addr} {items : Array Value} (hh : A.handled = none) (hit : s.heap.IsRevIter it l ((items.size : Int) - 1)) (hl : s.heap.IsList l items) (hne : l ≠ it) (hSit : S ≠ it) (hSl : S ≠ l) (hn : items.size ≤ sizeLine)
    (hS : s.heap.get? S = some { cls := .type "list", data := .seq #[] })
    (hR : ∀ h' tk acc' c', (∀ b o, b ≠ S → b ≠ it → s.heap.get? b = some o → h'.get? b = some o) → h'.get? S = some { cls := .type "list", dict := none, data := .seq acc' c', slots := #[] } →
      ItemsOf (fun i v => items[items.size - 1 - i]? = some v) acc' items.size → R (.ok (.ret .none)) { s with heap := h', toks := tk }) :
    wpAny (model prog w) A.in1 (Builtin.«list.__init__» ⟨[.ref S, .ref it], []⟩)
      (fun fin s' => match fin with | .done f => R (.ok f) s' | .again c' => c'.quiet = true ∧ codeAny (model prog w) A c' R s') (fun e s' => R (.error e) s') s := by
  show wpAny _ _ (do let old ← Builtin.List.listItems (.ref S); Builtin.List.listUpdate (.ref S) (fun _ => #[]); letGo old.toList.reverse; Builtin.List.listExtendWith (.ref S) (.ref it) .none) _ _ s
  refine wpAny_bind ?_
  unfold Builtin.List.listItems
  refine wpAny_bind (wpAny_seqItems hS rfl (wpAny_pure ?_))
  show wpAny _ _ (updateSeq S (fun _ => #[]) >>= fun _ => letGo (#[] : Array Value).toList.reverse >>= fun _ => Builtin.List.listExtendWith (.ref S) (.ref it) .none) _ _ s
  refine wpAny_bind (wpAny_updateSeq hS rfl ?_)
  have hS₂ := Heap.get?_update_self (Obj.mapSeq (fun _ => (#[] : Array Value))) hS rfl
  have oth : ∀ b o, b ≠ S → s.heap.get? b = some o → (s.heap.update S (Obj.mapSeq (fun _ => (#[] : Array Value)))).get? b = some o :=
    fun b o hb e => (Heap.get?_update_other _ _ (Ne.symm hb)).trans e
  refine wpAny_bind (wpAny_letGo ?_)
  have W := (Walks.listRev (prog := prog) (w := w) (A := A.in1) hh it l hne items).toS
  have hSf : S ∉ [it, l] := by simp only [List.mem_cons, List.not_mem_nil, or_false, not_or]; exact ⟨hSit, hSl⟩
  have hit1 : (s.heap.update S (Obj.mapSeq (fun _ => (#[] : Array Value)))).IsRevIter it l ((items.size : Int) - 1) := hit.at fun o e => oth it o (Ne.symm hSit) e
  have hl1 : (s.heap.update S (Obj.mapSeq (fun _ => (#[] : Array Value)))).IsList l items := by
    obtain ⟨o, e, r⟩ := hl
    exact ⟨o, oth l o (Ne.symm hSl) e, r⟩
  have hT : ({ s with heap := s.heap.update S (Obj.mapSeq (fun _ => (#[] : Array Value))) } : Shared).TypeIs (.ref it) "list_reverseiterator" := Heap.IsRevIter.typeIs (s := { s with heap := s.heap.update S (Obj.mapSeq (fun _ => (#[] : Array Value))) }) hit1
  have h1 : Builtin.List.listSameRef (.ref S) (.ref it) = false := by simp [Builtin.List.listSameRef, hSit]
  unfold Builtin.List.listExtendWith
  refine wpAny_bind (wpAny_typeOf hT ?_)
  rw [if_neg (by rw [h1]; decide)]
  refine wpAny_bind (wpAny_pyIter_revIter (s := { s with heap := s.heap.update S (Obj.mapSeq (fun _ => (#[] : Array Value))) }) hit1 ?_)
  refine wpAny_bind (wpAny_holding ?_)
  unfold Builtin.List.listLengthHint
  refine wpAny_bind (wpAny_specialOf hT nolen_lri ?_)
  show wpAny _ A.in1 (specialOf (Value.ref it) (Str.ofString "__length_hint__") >>= _) _ _ _
  refine wpAny_bind (wpAny_specialOf hT hint_lri ?_)
  generalize hid : ("list_reverseiterator.__length_hint__" : String) = id0
  wp_delta
  rw [show splitId id0 = some ("list_reverseiterator", "__length_hint__") from by subst hid; decide +kernel]
  subst hid
  refine wpAny_bind (wpAny_isInstance (b := true) hT (by rw [isSubtype_type]; kernel_rfl) ?_)
  refine wpAny_pure ?_
  rw [if_neg (by decide)]
  have e0 : ((items.size : Nat) : Int) - 1 - ((0 : Nat) : Int) = (items.size : Int) - 1 := by omega
  refine wpAny_pure ⟨plainId_quiet F.plain_extend_loop _, codeAny_extend_loopS W hn _ hSf _ items.size 0 _ _ _ rfl (Nat.zero_le _) ⟨Nat.zero_le _, by rw [e0]; exact hit1, hl1⟩ hS₂ (ItemsOf.nil _) fun s' acc' c' hm hS' hacc => ?_⟩
  rw [Moved.eq_with hm]
  refine hR s'.heap s'.toks acc' c' (fun b o hb hbi e => hm.heap b o (fun hmem => ?_) (oth b o hb e)) hS' hacc
  rcases List.mem_cons.mp hmem with e' | hmem
  · exact hb e'
  · exact hbi (List.mem_singleton.mp hmem)
theorem pv_call_list_rev {it l : Addr} {items : Array Value} {Q : Value → Shared → Prop} (hh : A.handled = none) (hit : s.heap.IsRevIter it l ((items.size : Int) - 1)) (hl : s.heap.IsList l items) (hne : l ≠ it) (hn : items.size ≤ sizeLine)
    (hQ : ∀ (h' : Heap) (tk : Nat) (acc : Array Value) (c' : Nat), (∀ b o, b ≠ it → s.heap.get? b = some o → h'.get? b = some o) → h'.get? s.heap.objs.size = some { cls := .type "list", dict := none, data := .seq acc c', slots := #[] } →
      ItemsOf (fun i v => items[items.size - 1 - i]? = some v) acc items.size → Q (.ref s.heap.objs.size) { s with heap := h', toks := tk }) :
    wpAny (model prog w) A (call (.type "list") [.ref it]) Q E s := by
  obtain ⟨oi, hoi, _⟩ := id hit
  obtain ⟨ol, hol, _⟩ := id hl
  have hSi : s.heap.objs.size ≠ it := Nat.ne_of_gt (Heap.lt_size hoi)
  have hSl : s.heap.objs.size ≠ l := Nat.ne_of_gt (Heap.lt_size hol)
  refine callType_codes (Q₁ := fun obj s₁ => obj = .ref s.heap.objs.size ∧ s₁ = { s with heap := s.heap.push { cls := .type "list", data := .seq #[] } }) F.called_list (F.typeCall_list_1 _) F.entry_list_init
    (code_list_new _ ⟨rfl, rfl⟩) fun obj s₁ h₁ => ?_
  obtain ⟨rfl, rfl⟩ := h₁
  have hS : (s.heap.push { cls := .type "list", data := .seq #[] }).get? s.heap.objs.size = some { cls := .type "list", data := .seq #[] } := Heap.get?_push_size _ rfl
  refine ⟨⟨_, hS, rfl⟩, F.args_list_init_2 _ _, pv_list_init_rev (A := A.in1) hh (hit.at fun o e => Heap.get?_push_of_some _ e) (hl.push _) hne hSi hSl hn hS fun h' tk acc' c' hk hS' hacc => ?_⟩
  exact ⟨rfl, hQ h' tk acc' c' (fun b o hb e => hk b o (Nat.ne_of_lt (Heap.lt_size e)) hb (Heap.get?_push_of_some _ e)) hS' hacc⟩
end
def tLstRev (K : PySem.W.Frag) (te : TE) : TE := fun σ H Q => te σ H fun v H1 => ∃ (a : Addr) (xs : List V), v = .ref a ∧ SqL K H1 a xs ∧ ∀ q, H1 q = none → Q (.ref q) (upd H1 q (.lst xs.reverse))
theorem pe_lstRev {X : Cx} {e : Expr} {te : TE} {p p2 pos pos2 : Pos} (hc : X.calm = true) (hg : Gl X "list") (hm : X.mg "list" = none) (hg2 : Gl X "reversed") (hm2 : X.mg "reversed" = none) (he : PE X e te)
    (hs : starEach [e] X.env = (false, eval e X.env) :: starEach [] X.env := by rfl)
    (hs2 : starEach [.Call (.Name "reversed" p2) [e] [] pos2] X.env = (false, eval (.Call (.Name "reversed" p2) [e] [] pos2) X.env) :: starEach [] X.env := by rfl) :
    PE X (.Call (.Name "list" p) [.Call (.Name "reversed" p2) [e] [] pos2] [] pos) (tLstRev X.K te) := by
  refine ⟨fun pins s σ H Q I h => ?_⟩
  refine Call_ (ld_blt I hg hm boot_list (PyProof.Rows.callWith_type1 (args_cons (Call_ (ld_blt I hg2 hm2 PyProof.Rows.boot_reversed (PyProof.Rows.callWith_type1 (args_cons (thn (he.run pins s σ H _ I h) fun u s1 ⟨v, H1, I1, r1, q1⟩ => args_nil ?_) hs) hs rfl))) hs2) hs2 rfl))
  obtain ⟨a, xs, ev, hq, q⟩ := q1
  subst ev
  obtain rfl : u = Value.ref a := r1
  obtain ⟨its, rv, p', hz⟩ := I1.list hq
  refine call_reversed_list p'.isList (args_nil ?_)
  have k0 : ∀ b o, s1.heap.get? b = some o → (s1.heap.push (revObj a ((its.toArray.size : Int) - 1))).get? b = some o := fun b o e => Heap.get?_push_of_some _ e
  have I2 : Inv X pins σ H1 { s1 with heap := s1.heap.push (revObj a ((its.toArray.size : Int) - 1)) } := I1.kept (t' := s1.toks) k0
  obtain ⟨f0, f1, f2, f3, f4, f5⟩ := I1.fpOk (H' := H1) (b := s1.heap.objs.size) (Nat.le_refl _) (I1.hok.fresh (Nat.le_refl _))
  have hl := p'.isList
  obtain ⟨ol, hol, _⟩ := id hl
  have hne : a ≠ s1.heap.objs.size := Nat.ne_of_lt (Heap.lt_size hol)
  have hn : its.toArray.size ≤ sizeLine := by rw [List.size_toArray, ← rv.length]; exact hz
  refine pv_call_list_rev (s := { s1 with heap := s1.heap.push (revObj a ((its.toArray.size : Int) - 1)) }) (I1.ok.hd hc) ⟨_, Heap.get?_push_size _ rfl, rfl, rfl⟩ (hl.push _) hne hn fun h' tk acc c' hk hS' hi => ?_
  have I3 : Inv X pins σ (upd H1 (s1.heap.push (revObj a ((its.toArray.size : Int) - 1))).objs.size (.lst xs.reverse)) { s1 with heap := h', toks := tk } := by
    refine I2.turnedNew (t' := tk) (ch := [s1.heap.objs.size]) (fun b o hb e => hk b o (fun z => hb (by simp [z])) e) (fun b hb => ?_) (Nat.le_refl _) ⟨by rw [List.length_reverse]; exact hz, acc.toList, c', vals_rev rv hi, by rw [Array.toArray_toList]; exact hS'⟩
    have eb : b = s1.heap.objs.size := by simpa using hb
    subst eb
    exact ⟨f0, f1, f2, f3, f4, f5⟩
  exact ⟨.ref _, _, I3, rfl, q _ (I2.hok.fresh (Nat.le_refl _))⟩
end RT

set_option Elab.async false
set_option linter.all false
set_option maxRecDepth 100000
/-! Pv10: the operators and built-ins by their data. -/
namespace Pv
open PySem PySem.Spec PyProof.Rows L2
def dI2 (g : Int → Int → Option D) : D → D → Option D
  | .int i, .int j => g i j
  | _, _ => none
def dAdd : D → D → Option D
  | .int i, .int j => some (.int (i + j))
  | .str a, .str b => if a.length + b.length ≤ sizeLine then some (.str (a ++ b)) else none
  | _, _ => none
def dSub : D → D → Option D := dI2 fun i j => some (.int (i - j))
def mulOk (i j : Int) : Bool := (decide (-(2 ^ 64) < i) && decide (i < 2 ^ 64)) || (decide (-(2 ^ 64) < j) && decide (j < 2 ^ 64)) || decide (i.natAbs.log2 + j.natAbs.log2 < 1000000)
def dMul : D → D → Option D := dI2 fun i j => if mulOk i j then some (.int (i * j)) else none
def dFd : D → D → Option D := dI2 fun i j => if 0 < j ∧ j.natAbs.log2 < 9000 then some (.int (i / j)) else none
def dMd : D → D → Option D := dI2 fun i j => if 0 < j then some (.int (i % j)) else none
def dPow : D → D → Option D := dI2 fun i j => if 0 ≤ j ∧ j ≤ 1000000 ∧ i.natAbs < 2 ^ 64 then some (.int (i ^ j.toNat)) else none
def dLt : D → D → Option D := dI2 fun i j => some (.bool (decide (i < j)))
def dLe : D → D → Option D := dI2 fun i j => some (.bool (decide (i ≤ j)))
def dGt : D → D → Option D := dI2 fun i j => some (.bool (decide (j < i)))
def dGe : D → D → Option D := dI2 fun i j => some (.bool (decide (j ≤ i)))
def dEq (x y : D) : Option D := if SeqAt.shaped x && SeqAt.shaped y then some (.bool (PyData.eqv x y)) else none
def dNe (x y : D) : Option D := if SeqAt.shaped x && SeqAt.shaped y then some (.bool (!PyData.eqv x y)) else none
def flatD : D → Bool
  | .none => true
  | .bool _ => true
  | .int _ => true
  | .str _ => true
  | _ => false
def dIn (x y : D) : Option D := match asSeq y with
  | some ds => if flatD x && ds.all flatD then some (.bool (ds.any fun z => PyData.eqv z x)) else none
  | none => none
def dNotIn (x y : D) : Option D := match asSeq y with
  | some ds => if flatD x && ds.all flatD then some (.bool (!ds.any fun z => PyData.eqv z x)) else none
  | none => none
def dIx (x y : D) : Option D := match x, y with
  | .list ds, .int j => atI ds j
  | .tuple ds, .int j => atI ds j
  | _, _ => none
section
variable {K : PySem.W.Frag} {X : Cx} {Γ Γ' Γ1 Γ2 Γ3 : List T} {H H' H1 H2 H3 : Hp} {Z Z' Z1 Z2 Z3 : FzT} {F F' F1 F2 : List Addr} {σ σ' σ1 : L2.St} {δ δ' : List D} {E : TyE} {W W' : Ends}
theorem Sh.strOf {v : V} {x : Str} (h : Sh K H Z v (.str x)) : v = .str x := by cases h; rfl
theorem Sh.blOf {v : V} {b : Bool} (h : Sh K H Z v (.bool b)) : v = .bl b := by cases h; rfl
theorem Sh.nonOf {v : V} (h : Sh K H Z v .none) : v = .non := by cases h; rfl
/-- int operators -/
theorem opsI {C : Int → Int → Prop} {g : Int → Int → V} {o : Int → Int → Option D} (h : ∀ i j d, o i j = some d → C i j ∧ ∀ K H Z, Sh K H Z (g i j) d) : OpS K (rI C g) .sh .sh .sh (dI2 o) := by
  intro H Z x y dx dy d f g' Q rx ry e k
  obtain ⟨sx, _⟩ := rx.shOf
  obtain ⟨sy, _⟩ := ry.shOf
  unfold dI2 at e
  split at e
  · obtain ⟨c, s⟩ := h _ _ _ e
    exact ⟨_, _, sx.intOf, sy.intOf, c, k _ H Z [] .refl (.sh (s K H Z))⟩
  · cases e
theorem opsI0 {g : Int → Int → V} {o : Int → Int → Option D} (h : ∀ i j d, o i j = some d → ∀ K H Z, Sh K H Z (g i j) d) : OpS K (rI0 g) .sh .sh .sh (dI2 o) := by
  intro H Z x y dx dy d f g' Q rx ry e k
  obtain ⟨sx, _⟩ := rx.shOf
  obtain ⟨sy, _⟩ := ry.shOf
  unfold dI2 at e
  split at e
  · exact ⟨_, _, sx.intOf, sy.intOf, k _ H Z [] .refl (.sh (h _ _ _ e K H Z))⟩
  · cases e
theorem sub_s : OpS K (rI0 fun i j => V.int (i - j)) .sh .sh .sh dSub := opsI0 fun i j d e K H Z => by cases e; exact .int _
theorem lt_s : OpS K (rI0 fun i j => V.bl (decide (i < j))) .sh .sh .sh dLt := opsI0 fun i j d e K H Z => by cases e; exact .bl _
theorem le_s : OpS K (rI0 fun i j => V.bl (decide (i ≤ j))) .sh .sh .sh dLe := opsI0 fun i j d e K H Z => by cases e; exact .bl _
theorem gt_s : OpS K (rI0 fun i j => V.bl (decide (j < i))) .sh .sh .sh dGt := opsI0 fun i j d e K H Z => by cases e; exact .bl _
theorem ge_s : OpS K (rI0 fun i j => V.bl (decide (j ≤ i))) .sh .sh .sh dGe := opsI0 fun i j d e K H Z => by cases e; exact .bl _
def CMul' (i j : Int) : Prop := CMul i j ∨ CMulW i j
theorem op_mul' : OpR X (binaryOp .Mult) (rI CMul' fun i j => V.int (i * j)) := opI fun _ _ _ _ _ _ _ hc q => mul_int q (hc.elim CMul.ok CMulW.ok)
theorem mul_s : OpS K (rI CMul' fun i j => V.int (i * j)) .sh .sh .sh dMul := opsI fun i j d e => by
  split at e
  · rename_i h
    cases e
    refine ⟨?_, fun K H Z => .int _⟩
    unfold mulOk at h
    simp only [Bool.or_eq_true, Bool.and_eq_true, decide_eq_true_eq] at h
    rcases h with (h | h) | h
    · exact .inl (.inl h)
    · exact .inl (.inr h)
    · exact .inr h
  · cases e
theorem fd_s : OpS K (rI CDivW fun i j => V.int (i / j)) .sh .sh .sh dFd := opsI fun i j d e => by
  split at e
  · rename_i h
    cases e
    exact ⟨h, fun K H Z => .int _⟩
  · cases e
theorem md_s : OpS K (rI (fun _ j => 0 < j) fun i j => V.int (i % j)) .sh .sh .sh dMd := opsI fun i j d e => by
  split at e
  · rename_i h
    cases e
    exact ⟨h, fun K H Z => .int _⟩
  · cases e
theorem pow_s : OpS K (rI CPow fun i j => V.int (i ^ j.toNat)) .sh .sh .sh dPow := opsI fun i j d e => by
  split at e
  · rename_i h
    cases e
    exact ⟨h, fun K H Z => .int _⟩
  · cases e
def rAdd' : R2 := fun x y H Q => (rI0 fun i j => V.int (i + j)) x y H Q ∨ ∃ i j, x = .str i ∧ y = .str j ∧ i.length + j.length ≤ sizeLine ∧ Q (.str (i ++ j)) H
theorem op_add' : OpR X (binaryOp .Add) rAdd' := op_add.or op_add_str
theorem iop_add' : OpR X (inplaceOp .Add) rAdd' := iop_add.or iop_add_str
theorem add_s : OpS K rAdd' .sh .sh .sh dAdd := by
  intro H Z x y dx dy d f g' Q rx ry e k
  obtain ⟨sx, _⟩ := rx.shOf
  obtain ⟨sy, _⟩ := ry.shOf
  unfold dAdd at e
  split at e
  · cases e
    exact .inl ⟨_, _, sx.intOf, sy.intOf, k _ H Z [] .refl (.sh (.int _))⟩
  · split at e
    · rename_i h
      cases e
      exact .inr ⟨_, _, sx.strOf, sy.strOf, h, k _ H Z [] .refl (.sh (.str _))⟩
    · cases e
  · cases e
mutual
theorem Sh.dp : ∀ {v : V} {d : D}, Sh K H Z v d → d.canLay0 = true → Dp K H v d
  | _, _, .non, _ => .non
  | _, _, .bl b, _ => .bl b
  | _, _, .int i, _ => .int i
  | _, _, .str x, _ => .str x
  | _, _, .lst z r, c => .lst z.sql (ShA.dp r (by simpa [PyData.canLay0] using c))
  | _, _, .tup h r, c => .tup (SqT.of h) (ShA.dp r (by simpa [PyData.canLay0] using c))
  | _, _, .dk _ _ _ _, c => by simp [PyData.canLay0] at c
  | _, _, .dt _ _ _ _, c => by simp [PyData.canLay0] at c
theorem ShA.dp : ∀ {v : List V} {d : List D}, ShA K H Z v d → PyData.canLayAll0 d = true → DpAll K H v d
  | _, _, .nil, _ => .nil
  | _, _, .cons h r, c => by
    simp only [PyData.canLayAll0, Bool.and_eq_true] at c
    exact .cons (Sh.dp h c.1) (ShA.dp r c.2)
end
mutual
theorem Rep.dp : ∀ {t : T} {v : V} {d : D} {f : List Addr}, Rep K H Z t v d f → t.full = true → d.canLay0 = true → Dp K H v d
  | _, _, _, _, .no, h, _ => by cases h
  | _, _, _, _, .sh h, _, c => h.dp c
  | _, _, _, _, .ol h r, hf, c => .lst (SqL.of h) (RepA.dp r hf (by simpa [PyData.canLay0] using c))
  | _, _, _, _, .dk _ _ _, _, c => by simp [PyData.canLay0] at c
  | _, _, _, _, .dt _ _ _, _, c => by simp [PyData.canLay0] at c
  | _, _, _, _, .ex _ _ _, hf, _ => by cases hf
  | _, _, _, _, .pr h r1 r2, hf, c => by
    have hf' := (Bool.and_eq_true _ _).mp hf
    simp only [PyData.canLay0, PyData.canLayAll0, Bool.and_eq_true, and_true] at c
    exact .tup (SqT.of h) (.cons (Rep.dp r1 hf'.1 c.1) (.cons (Rep.dp r2 hf'.2 c.2) .nil))
theorem RepA.dp : ∀ {t : T} {v : List V} {d : List D} {f : List Addr}, RepA K H Z t v d f → t.full = true → PyData.canLayAll0 d = true → DpAll K H v d
  | _, _, _, _, .nil, _, _ => .nil
  | _, _, _, _, .cons h r, hf, c => by
    simp only [PyData.canLayAll0, Bool.and_eq_true] at c
    exact .cons (Rep.dp h hf c.1) (RepA.dp r hf c.2)
end
theorem eq_s {s t : T} (hs : s.full = true) (ht : t.full = true) : OpS K (rEqD K) s t .sh dEq := by
  intro H Z x y dx dy d f g' Q rx ry e k
  unfold dEq at e
  split at e
  · rename_i h
    cases e
    rw [Bool.and_eq_true] at h
    exact ⟨dx, dy, rx.dp hs (SeqAt.canLay_of_shaped h.1), ry.dp ht (SeqAt.canLay_of_shaped h.2), h.1, h.2, k _ H Z [] .refl (.sh (.bl _))⟩
  · cases e
theorem ne_s {s t : T} (hs : s.full = true) (ht : t.full = true) : OpS K (rNeD K) s t .sh dNe := by
  intro H Z x y dx dy d f g' Q rx ry e k
  unfold dNe at e
  split at e
  · rename_i h
    cases e
    rw [Bool.and_eq_true] at h
    exact ⟨dx, dy, rx.dp hs (SeqAt.canLay_of_shaped h.1), ry.dp ht (SeqAt.canLay_of_shaped h.2), h.1, h.2, k _ H Z [] .refl (.sh (.bl _))⟩
  · cases e
theorem flat_V {v : V} {d : D} (h : Sh K H Z v d) (f : flatD d = true) : flatV v = true := by cases h <;> first | rfl | cases f
theorem eqv_flat {v w : V} {d e : D} (h : Sh K H Z v d) (h' : Sh K H Z w e) (f : flatD d = true) (f' : flatD e = true) : eqV v w = PyData.eqv d e := by
  cases h <;> cases h' <;> first | (cases f; done) | (cases f'; done) | (simp only [PyData.eqv]; rfl) | skip
theorem all_flatV : ∀ {xs : List V} {ds : List D}, ShA K H Z xs ds → ds.all flatD = true → xs.all flatV = true
  | _, _, .nil, _ => rfl
  | _, _, .cons h r, f => by
    rw [List.all_cons, Bool.and_eq_true] at f ⊢
    exact ⟨flat_V h f.1, all_flatV r f.2⟩
theorem inV_eq {x : V} {dx : D} (hx : Sh K H Z x dx) (fx : flatD dx = true) : ∀ {xs : List V} {ds : List D}, ShA K H Z xs ds → ds.all flatD = true → inV x xs = ds.any fun z => PyData.eqv z dx
  | _, _, .nil, _ => rfl
  | _, _, .cons h r, f => by
    rw [List.all_cons, Bool.and_eq_true] at f
    have ih := inV_eq hx fx r f.2
    unfold inV at ih ⊢
    rw [List.any_cons, List.any_cons, ih, eqv_flat h hx f.1 fx]
/-- a list or tuple of shared items -/
def seqT : T → Bool
  | .sh => true
  | .ol .sh => true
  | _ => false
theorem seq_of {t : T} {y : V} {d : D} {ds : List D} {g : List Addr} (ht : seqT t = true) (r : Rep K H Z t y d g) (e : asSeq d = some ds) : ∃ p xs, y = .ref p ∧ (SqL K H p xs ∨ H p = some (.tup xs)) ∧ ShA K H Z xs ds := by
  cases r with
  | no => cases ht
  | sh h =>
    cases h with
    | lst z r => cases e; exact ⟨_, _, rfl, .inl z.sql, r⟩
    | tup h r => cases e; exact ⟨_, _, rfl, .inr h, r⟩
    | _ => cases e
  | @ol u _ _ _ _ h r =>
    cases e
    cases u with
    | sh => exact ⟨_, _, rfl, .inl (SqL.of h), r.shA.1⟩
    | _ => cases ht
  | pr => cases ht
  | dk => cases ht
  | dt => cases ht
  | ex => cases ht
theorem in_s {t : T} (ht : seqT t = true) : OpS K (rIn K false) .sh t .sh dIn := by
  intro H Z x y dx dy d f g' Q rx ry e k
  unfold dIn at e
  split at e
  · rename_i ds hds
    split at e
    · rename_i hf
      cases e
      rw [Bool.and_eq_true] at hf
      obtain ⟨p, xs, rfl, hq, sa⟩ := seq_of ht ry hds
      obtain ⟨sx, _⟩ := rx.shOf
      refine ⟨p, xs, rfl, hq.imp id SqT.of, flat_V sx hf.1, all_flatV sa hf.2, ?_⟩
      rw [if_neg Bool.false_ne_true, inV_eq sx hf.1 sa hf.2]
      exact k _ H Z [] .refl (.sh (.bl _))
    · cases e
  · cases e
theorem notin_s {t : T} (ht : seqT t = true) : OpS K (rIn K true) .sh t .sh dNotIn := by
  intro H Z x y dx dy d f g' Q rx ry e k
  unfold dNotIn at e
  split at e
  · rename_i ds hds
    split at e
    · rename_i hf
      cases e
      rw [Bool.and_eq_true] at hf
      obtain ⟨p, xs, rfl, hq, sa⟩ := seq_of ht ry hds
      obtain ⟨sx, _⟩ := rx.shOf
      refine ⟨p, xs, rfl, hq.imp id SqT.of, flat_V sx hf.1, all_flatV sa hf.2, ?_⟩
      rw [if_pos rfl, inV_eq sx hf.1 sa hf.2]
      exact k _ H Z [] .refl (.sh (.bl _))
    · cases e
  · cases e
theorem atI_sh {xs : List V} {ds : List D} {j : Int} {d : D} (r : ShA K H Z xs ds) (e : atI ds j = some d) : ∃ v, atI xs j = some v ∧ Sh K H Z v d := by
  unfold atI at e ⊢
  rw [r.len]
  obtain ⟨n, e1, e2⟩ := Option.bind_eq_some_iff.mp e
  obtain ⟨v, h1, h2⟩ := r.get e2
  exact ⟨v, by rw [e1]; exact h1, h2⟩
theorem atI_rep {t : T} {xs : List V} {ds : List D} {f : List Addr} {j : Int} {d : D} (r : RepA K H Z t xs ds f) (e : atI ds j = some d) : ∃ v g, atI xs j = some v ∧ Rep K H Z t v d g := by
  unfold atI at e ⊢
  rw [Rep.len r]
  obtain ⟨n, e1, e2⟩ := Option.bind_eq_some_iff.mp e
  obtain ⟨v, f1, g, f2, h1, _, _, h2, _⟩ := r.at e2
  exact ⟨v, g, by rw [e1]; exact h1, h2⟩
theorem ix_sh : OpS K (rIx K) .sh .sh .sh dIx := by
  intro H Z x y dx dy d f g' Q rx ry e k
  obtain ⟨sx, _⟩ := rx.shOf
  obtain ⟨sy, _⟩ := ry.shOf
  unfold dIx at e
  split at e
  · cases sx with
    | lst z r =>
      obtain ⟨v, hv, hs⟩ := atI_sh r e
      exact .inl ⟨_, _, _, v, rfl, sy.intOf, z.sql, hv, k _ H Z [] .refl (.sh hs)⟩
  · cases sx with
    | tup h r =>
      obtain ⟨v, hv, hs⟩ := atI_sh r e
      exact .inr (.inl ⟨_, _, _, v, rfl, sy.intOf, SqT.of h, hv, k _ H Z [] .refl (.sh hs)⟩)
  · cases e
theorem ix_ol {t : T} : OpS K (rIx K) (.ol t) .sh t dIx := by
  intro H Z x y dx dy d f g' Q rx ry e k
  obtain ⟨sy, _⟩ := ry.shOf
  obtain ⟨a, xs, ds, f', rfl, rfl, rfl, h, r⟩ := ofList rx
  unfold dIx at e
  split at e
  · rename_i he
    cases he
    obtain ⟨v, g, hv, hs⟩ := atI_rep r e
    exact .inl ⟨_, _, _, v, rfl, sy.intOf, SqL.of h, hv, k _ H Z g .refl hs⟩
  · rename_i he
    cases he
  · cases e
theorem cIx {s t : T} {fa fb : EF} {a b : Expr} {pos : Pos} (h : OpS X.K (rIx X.K) s .sh t dIx) (ha : PE X a (tP X.K Γ s fa)) (hb : PE X b (tP X.K Γ .sh fb)) (hs : PlainIx b) : PE X (.Subscript a b pos) (tP X.K Γ t (x2 dIx fa fb)) :=
  (pe_ix ix_seq ha hb hs).imp fun _ _ _ => p2 h

/-! ### built-ins -/
def oLen : List D → Option D
  | [.list ds] => some (.int ds.length)
  | [.tuple ds] => some (.int ds.length)
  | [.str z] => if z.length ≤ sizeLine then some (.int z.length) else none
  | _ => none
def rLen (K : PySem.W.Frag) : List V → Hp → VK → Prop := fun xs H Q => (∃ p ys, xs = [.ref p] ∧ (SqL K H p ys ∨ SqT K H p ys) ∧ Q (.int ys.length) H) ∨ ∃ z, xs = [.str z] ∧ z.length ≤ sizeLine ∧ Q (.int z.length) H
theorem call_len' : CallR X (.builtin "len") (rLen X.K) := call_len_seq.or call_len_str
theorem len_s {t : T} (ht : t.full = true) : CalS K (rLen K) [t] .sh oLen := by
  intro H Z vs ds d g Q en e k
  have l := en.len
  unfold oLen at e
  split at e
  · cases e
    match vs, l, en with
    | [v], _, .cons r _ =>
      cases r with
      | no => cases ht
      | sh h => cases h with | lst z r => exact .inl ⟨_, _, rfl, .inl z.sql, by rw [r.len]; exact k _ H Z [] .refl (.sh (.int _))⟩
      | ol h r => exact .inl ⟨_, _, rfl, .inl (SqL.of h), by rw [Rep.len r]; exact k _ H Z [] .refl (.sh (.int _))⟩
    | [v], _, .no _ => cases ht
  · cases e
    match vs, l, en with
    | [v], _, .cons r _ =>
      cases r with
      | no => cases ht
      | sh h => cases h with | tup h r => exact .inl ⟨_, _, rfl, .inr (SqT.of h), by rw [r.len]; exact k _ H Z [] .refl (.sh (.int _))⟩
      | pr h r1 r2 => exact .inl ⟨_, _, rfl, .inr (SqT.of h), k _ H Z [] .refl (.sh (.int _))⟩
    | [v], _, .no _ => cases ht
  · split at e
    · rename_i hz
      cases e
      match vs, l, en with
      | [v], _, .cons r _ =>
        cases r with
        | no => cases ht
        | sh h => have := h.strOf; subst this; exact .inr ⟨_, rfl, hz, k _ H Z [] .refl (.sh (.int _))⟩
      | [v], _, .no _ => cases ht
    · cases e
  · cases e
def oInt : List D → Option D
  | [.int i] => some (.int i)
  | [.bool b] => some (.int (if b then 1 else 0))
  | _ => none
theorem int_s : CalS K (fun xs H Q => (∃ i, xs = [V.int i] ∧ Q (.int i) H) ∨ ∃ k, xs = [V.bl k] ∧ Q (.int (if k then 1 else 0)) H) [.sh] .sh oInt := by
  intro H Z vs ds d g Q en e k
  unfold oInt at e
  split at e
  · cases e
    obtain ⟨v, rfl, s⟩ := vs1 en
    have := s.intOf; subst this
    exact .inl ⟨_, rfl, k _ H Z [] .refl (.sh (.int _))⟩
  · cases e
    obtain ⟨v, rfl, s⟩ := vs1 en
    have := s.blOf; subst this
    exact .inr ⟨_, rfl, k _ H Z [] .refl (.sh (.int _))⟩
  · cases e
def oAbs : List D → Option D
  | [.int i] => some (.int (if i < 0 then -i else i))
  | _ => none
theorem abs_s : CalS K (fun xs H Q => ∃ i, xs = [V.int i] ∧ Q (.int (if i < 0 then -i else i)) H) [.sh] .sh oAbs := by
  intro H Z vs ds d g Q en e k
  unfold oAbs at e
  split at e
  · cases e
    obtain ⟨v, rfl, s⟩ := vs1 en
    have := s.intOf; subst this
    exact ⟨_, rfl, k _ H Z [] .refl (.sh (.int _))⟩
  · cases e
theorem vs1t {t : T} {vs : List V} {d : D} {g : List Addr} (hn : t ≠ .no) (h : Env K H Z [t] (vs.map some) [d] g) : ∃ v g', vs = [v] ∧ Rep K H Z t v d g' := by
  have l := h.len.1
  match vs, l, h with
  | [v], _, .cons r _ => exact ⟨v, _, rfl, r⟩
  | [v], _, .no _ => exact absurd rfl hn
def oTup : List D → Option D
  | [d] => (asSeq d).map .tuple
  | _ => none
theorem tup_s {t : T} (ht : seqT t = true) : CalS K (fun xs H Q => ∃ p ys, xs = [V.ref p] ∧ ((SqL K H p ys ∧ ∀ l, H l = none → Q (.ref l) (upd H l (.tup ys))) ∨ (SqT K H p ys ∧ Q (.ref p) H))) [t] .sh oTup := by
  intro H Z vs ds d g Q en e k
  unfold oTup at e
  split at e
  · obtain ⟨es, e1, e2⟩ := Option.map_eq_some_iff.mp e
    cases e2
    obtain ⟨v, g', rfl, r⟩ := vs1t (fun z => by rw [z] at ht; cases ht) en
    obtain ⟨p, xs, rfl, hq, sa⟩ := seq_of ht r e1
    rcases hq with hq | hq
    · exact ⟨p, xs, rfl, .inl ⟨hq, fun l hl => k _ _ Z [] (Ext.new hl) (.sh (.tup upd_same (sa.ext (Ext.new hl))))⟩⟩
    · exact ⟨p, xs, rfl, .inr ⟨SqT.of hq, k _ H Z [] .refl (.sh (.tup hq sa))⟩⟩
  · cases e
def oLst : List D → Option D
  | [d] => (asSeq d).map .list
  | _ => none
def rLst (K : PySem.W.Frag) : List V → Hp → VK → Prop := fun xs H Q => ∃ p ys, xs = [V.ref p] ∧ (SqL K H p ys ∨ SqT K H p ys) ∧ ∀ l, H l = none → Q (.ref l) (upd H l (.lst ys))
theorem call_list' : CallR X (.type "list") (rLst X.K) := call_list_of
/-- list(x), frozen at once; a fresh one by lst_c -/
theorem lst_s {t : T} (ht : seqT t = true) : CalS K (rLst K) [t] .sh oLst := by
  intro H Z vs ds d g Q en e k
  unfold oLst at e
  split at e
  · obtain ⟨es, e1, e2⟩ := Option.map_eq_some_iff.mp e
    cases e2
    obtain ⟨v, g', rfl, r⟩ := vs1t (fun z => by rw [z] at ht; cases ht) en
    obtain ⟨p, xs, rfl, hq, sa⟩ := seq_of ht r e1
    exact ⟨p, xs, rfl, hq.imp id SqT.of, fun l hl => k _ _ _ [] (Ext.newZ hl) (.sh (.lst (.inl ⟨.inr rfl, .inl upd_same⟩) (sa.ext (Ext.newZ hl))))⟩
  · cases e
/-- list(x): needs to know that what is new is not frozen -/
theorem cListC {e : Expr} {t : T} {f : LF} {p pos : Pos} (hg : Gl X "list") (hm : X.mg "list" = none) (ht : seqT t = true) (ha : PA X [e] (aP X.K Γ [t] f)) (he : starEach [e] X.env = (false, eval e X.env) :: starEach [] X.env := by rfl) :
    PE X (.Call (.Name "list" p) [e] [] pos) (tC X.K Γ (.ol .sh) (xL oLst f)) :=
  (pe_callTy call_list' hg hm boot_list ha (by decide) (by decide) he (by rfl)).imp fun σ H Q ⟨δ, Z, F, d, ok, e, k⟩ => by
  obtain ⟨ds, e1, e2⟩ := Option.bind_eq_some_iff.mp e
  refine ⟨δ, Z, F, ds, ok, e1, fun vs H1 Z1 g s1 en => ?_⟩
  unfold oLst at e2
  split at e2
  · obtain ⟨es, e3, e4⟩ := Option.map_eq_some_iff.mp e2
    cases e4
    obtain ⟨v, g', rfl, r⟩ := vs1t (fun z => by rw [z] at ht; cases ht) en
    obtain ⟨p, xs, rfl, hq, sa⟩ := seq_of ht r e3
    refine ⟨p, xs, rfl, hq.imp id SqT.of, fun l hl => k _ _ Z1 [l] (s1.trans (Ext.new hl)) (.ol upd_same (sa.ext (Ext.new hl)).repA) (by simp) fun a h => ?_⟩
    have ea : a = l := by simpa using h
    subst ea
    exact ⟨Same.free s1.same hl, fun hz => (ok.ext s1).zs a hz hl⟩
  · cases e2
def oRev : D → Option D
  | .list ds => some (.list ds.reverse)
  | _ => none
theorem ShA.rev : ∀ {xs : List V} {ds : List D}, ShA K H Z xs ds → ShA K H Z xs.reverse ds.reverse
  | _, _, .nil => .nil
  | _, _, .cons h r => by
    rw [List.reverse_cons, List.reverse_cons]
    exact (ShA.rev r).app (.cons h .nil)
theorem cLstRev {e : Expr} {t : T} {f : EF} {p p2 pos pos2 : Pos} (hc : X.calm = true) (hg : Gl X "list") (hm : X.mg "list" = none) (hg2 : Gl X "reversed") (hm2 : X.mg "reversed" = none) (ht : seqT t = true) (he : PE X e (tP X.K Γ t f))
    (hs : starEach [e] X.env = (false, eval e X.env) :: starEach [] X.env := by rfl)
    (hs2 : starEach [.Call (.Name "reversed" p2) [e] [] pos2] X.env = (false, eval (.Call (.Name "reversed" p2) [e] [] pos2) X.env) :: starEach [] X.env := by rfl) :
    PE X (.Call (.Name "list" p) [.Call (.Name "reversed" p2) [e] [] pos2] [] pos) (tC X.K Γ (.ol .sh) (x1 oRev f)) := (RT.pe_lstRev hc hg hm hg2 hm2 he hs hs2).imp fun σ H Q ⟨δ, Z, F, d, ok, e, k⟩ => by
  obtain ⟨dl, e1, e2⟩ := Option.bind_eq_some_iff.mp e
  refine ⟨δ, Z, F, dl, ok, e1, fun v H1 Z1 g s1 r => ?_⟩
  cases dl with
  | list ds =>
    cases e2
    obtain ⟨a, xs, rfl, hq, sa⟩ : ∃ a xs, v = .ref a ∧ SqL X.K H1 a xs ∧ ShA X.K H1 Z1 xs ds := by
      cases r with
      | no => cases ht
      | sh h => cases h with | lst z r => exact ⟨_, _, rfl, z.sql, r⟩
      | @ol u _ _ _ _ h r =>
        cases u with
        | sh => exact ⟨_, _, rfl, SqL.of h, r.shA.1⟩
        | _ => cases ht
    refine ⟨a, xs, rfl, hq, fun q hq' => k _ _ Z1 [q] (s1.trans (Ext.new hq')) (.ol upd_same (sa.rev.ext (Ext.new hq')).repA) (by simp) fun b h => ?_⟩
    have eb : b = q := by simpa using h
    subst eb
    exact ⟨Same.free s1.same hq', fun hz => (ok.ext s1).zs b hz hq'⟩
  | _ => cases e2
/-- list(range(n)) -/
def oLstRng : D → Option D
  | .int j => if -(2 ^ 62) ≤ j ∧ j ≤ 2 ^ 24 then some (.list (rngD 0 j.toNat)) else none
  | _ => none
theorem sha_rng (a b : Int) : ShA K H Z (rgV a b) (rngD a (b - a).toNat) := by
  have : ∀ (n : Nat), ShA K H Z ((List.range n).map fun i => V.int (a + (i : Nat))) ((List.range n).map fun (k : Nat) => PyData.int (a + (k : Int))) := by
    intro n
    induction n with
    | zero => exact .nil
    | succ n ih =>
      rw [List.range_succ, List.map_append, List.map_append]
      exact ih.app (.cons (.int _) .nil)
  exact this _
theorem cLstRng {a : Expr} {f : EF} {p p2 pos pos2 : Pos} (hc : X.calm = true) (hg : Gl X "list") (hm : X.mg "list" = none) (hg2 : Gl X "range") (hm2 : X.mg "range" = none) (ha : PE X a (tP X.K Γ .sh f)) (na : starEach [a] X.env = (false, eval a X.env) :: starEach [] X.env := by rfl)
    (na2 : starEach [.Call (.Name "range" p2) [a] [] pos2] X.env = (false, eval (.Call (.Name "range" p2) [a] [] pos2) X.env) :: starEach [] X.env := by rfl) :
    PE X (.Call (.Name "list" p) [.Call (.Name "range" p2) [a] [] pos2] [] pos) (tC X.K Γ (.ol .sh) (x1 oLstRng f)) := (pe_listRg hc hg hm (prg_1 hg2 hm2 ha na) na2).imp fun σ H Q ⟨δ, Z, F, d, ok, e, k⟩ => by
  obtain ⟨jd, e1, e2⟩ := Option.bind_eq_some_iff.mp e
  refine ⟨δ, Z, F, jd, ok, e1, fun v H1 Z1 g s1 r => ?_⟩
  unfold oLstRng at e2
  split at e2
  · rename_i j
    split at e2
    · rename_i hj
      cases e2
      have ev := r.shOf.1.intOf
      refine ⟨j, ev, ⟨by decide, by decide, hj.1, by omega, by omega⟩, fun q hq => k _ _ Z1 [q] (s1.trans (Ext.new hq)) (.ol upd_same ?_) (by simp) fun b h => ?_⟩
      · have := (sha_rng (K := X.K) (H := upd H1 q (.lst (rgV 0 j))) (Z := Z1) 0 j).repA
        rw [Int.sub_zero] at this
        exact this
      · have eb : b = q := by simpa using h
        subst eb
        exact ⟨Same.free s1.same hq, fun hz => (ok.ext s1).zs b hz hq⟩
    · cases e2
  · cases e2
/-- all of a list of bools -/
def bools : List D → Option (List Bool)
  | [] => some []
  | d :: ds => (toB d).bind fun b => (bools ds).bind fun bs => some (b :: bs)
def oAll : List D → Option D
  | [.list ds] => (bools ds).map fun bs => .bool (bs.all id)
  | _ => none
theorem bools_V : ∀ {xs : List V} {ds : List D} {bs : List Bool}, ShA K H Z xs ds → bools ds = some bs → xs = bs.map V.bl
  | _, _, _, .nil, e => by cases e; rfl
  | _, _, _, .cons h r, e => by
    obtain ⟨b, e1, e2⟩ := Option.bind_eq_some_iff.mp e
    obtain ⟨bs, e3, e4⟩ := Option.bind_eq_some_iff.mp e2
    cases e4
    obtain ⟨rfl, rfl⟩ := toB_sh h e1
    rw [List.map_cons, bools_V r e3]
theorem all_s {t : T} (ht : seqT t = true) : CalS K (rAll K) [t] .sh oAll := by
  intro H Z vs ds d g Q en e k
  unfold oAll at e
  split at e
  · obtain ⟨bs, e1, e2⟩ := Option.map_eq_some_iff.mp e
    cases e2
    obtain ⟨v, g', rfl, r⟩ := vs1t (fun z => by rw [z] at ht; cases ht) en
    cases r with
    | no => cases ht
    | sh h => cases h with | lst z r => exact ⟨_, bs, rfl, by rw [← bools_V r e1]; exact z.sql, k _ H Z [] .refl (.sh (.bl _))⟩
    | @ol u _ _ _ _ h r =>
      cases u with
      | sh => exact ⟨_, bs, rfl, by rw [← bools_V r.shA.1 e1]; exact SqL.of h, k _ H Z [] .refl (.sh (.bl _))⟩
      | _ => cases ht
  · cases e
/-! ### isinstance -/
def tyD : D → String
  | .none => "NoneType"
  | .bool _ => "bool"
  | .int _ => "int"
  | .str _ => "str"
  | .list _ => "list"
  | .tuple _ => "tuple"
  | .dict _ => "dict"
def isiT (a b : String) : Bool := a == b || (a == "bool" && b == "int")
def dIsi (T : String) (d : D) : Option D := match d with
  | .dict _ => none
  | d => some (.bool (isiT (tyD d) T))
theorem tyx {v : V} {d : D} (h : Sh K H Z v d) (hd : ∀ k, d ≠ .dict k) : TyX K H v (.type (tyD d)) := by
  cases h with
  | non => exact .base .non
  | bl b => exact .base (.bl b)
  | int i => exact .base (.int i)
  | str x => exact .base (.str x)
  | lst z r =>
    rcases z.sql with (h | ⟨o, h⟩) | ⟨o, its, n, h, c, _⟩
    · exact .base (.lst h)
    · exact .base (.frz h)
    · exact .kList h c
  | tup h r => exact .base (.tup h)
  | dk => exact absurd rfl (hd _)
  | dt => exact absurd rfl (hd _)
def isiOk (T : String) : Prop := ∀ a ∈ ["NoneType", "bool", "int", "str", "list", "tuple"], kitB a T = some (isiT a T)
instance (T : String) : Decidable (isiOk T) := by unfold isiOk; infer_instance
theorem isi_int : isiOk "int" := by decide +kernel
theorem isi_bool : isiOk "bool" := by decide +kernel
theorem isi_tuple : isiOk "tuple" := by decide +kernel
theorem isi_str : isiOk "str" := by decide +kernel
theorem isi_list : isiOk "list" := by decide +kernel
theorem tyD_in {d : D} (hd : ∀ k, d ≠ .dict k) : tyD d ∈ ["NoneType", "bool", "int", "str", "list", "tuple"] := by
  cases d <;> first | (exact absurd rfl (hd _)) | (simp [tyD])
theorem cIsi {T : String} {x : Str} {e : Expr} {f : EF} {p p2 pos : Pos} (hT : isiOk T) (hg : Gl X "isinstance") (hm : X.mg "isinstance" = none) (hb : PE X (.Name x p2) (L2.tC (V.ty T))) (he : PE X e (tP X.K Γ .sh f))
    (hs : starEach [e, .Name x p2] X.env = (false, eval e X.env) :: starEach [.Name x p2] X.env := by rfl) (hs2 : starEach [.Name x p2] X.env = (false, eval (.Name x p2) X.env) :: starEach [] X.env := by rfl) :
    PE X (.Call (.Name "isinstance" p) [e, .Name x p2] [] pos) (tP X.K Γ .sh (x1 (dIsi T) f)) := (pe_callB call_isi hg hm (by decide +kernel) (pa_cons he (pa_cons hb pa_nil hs2) hs) (by decide) (by decide) hs (by rfl)).imp fun σ H Q ⟨δ, Z, F, d, ok, e, k⟩ => by
  obtain ⟨dx, e1, e2⟩ := Option.bind_eq_some_iff.mp e
  refine ⟨δ, Z, F, dx, ok, e1, fun v H1 Z1 g s1 r => ?_⟩
  unfold dIsi at e2
  split at e2
  · cases e2
  · rename_i hd
    cases e2
    have hd' : ∀ k, dx ≠ .dict k := fun k z => hd k z
    exact ⟨v, .ty T, _, _, _, rfl, .ty T, tyx r.shOf.1 hd', kit_ty (hT _ (tyD_in hd')), k _ H1 Z1 [] s1 (.sh (.bl _))⟩
end
end Pv

set_option Elab.async false
set_option linter.all false
set_option maxRecDepth 100000
/-! Pv11: unpacking, a name that takes a comprehension, keywords, the ends. -/
namespace Pv
open PySem PySem.Spec PyProof.Rows L2
def sUnpM (f : EM) (tg : D → List D → Option (List D)) : SF := fun δ => (f δ).bind fun p => (tg p.1 p.2).bind fun δ1 => some (.nx δ1)
def sUnp (f : EF) (tg : D → List D → Option (List D)) : SF := fun δ => (f δ).bind fun d => (tg d δ).bind fun δ1 => some (.nx δ1)
section
variable {K : PySem.W.Frag} {X : Cx} {Γ Γ' Γ1 Γ2 Γ3 : List T} {H H' H1 H2 H3 : Hp} {Z Z' Z1 Z2 Z3 : FzT} {F F' F1 F2 : List Addr} {σ σ' σ1 : L2.St} {δ δ' : List D} {en eb ec er : List T} {et : T} {W W' : Ends}
theorem zUnpM {tg e : Expr} {f : EM} {ix : List Nat} {tgf : D → List D → Option (List D)} {pos : Pos} (he : PE X e (tM X.K Γ Γ' .sh f)) (hg : PG X tg (tG X.K Γ' Γ1 ix tgf)) (hr : noIx er ix = true)
    (hs : swapsWithSole [tg] e pos.line X.env = pure false := by rfl) (hw : swappedStores [tg] e X.env = pure none := by rfl) (h1 : (assignEach [tg] X.env).map (·.2) = [assign tg X.env] := by rfl) :
    PS X (.Assign [tg] e pos) (tS X.K Γ ⟨Γ1, eb, ec, er, et⟩ (sUnpM f tgf)) := (ps_asg he hg hs hw h1).imp fun W σ H ⟨δ, Z, F, out, ok, e, p⟩ => by
  obtain ⟨⟨d, δ'⟩, e1, e2⟩ := Option.bind_eq_some_iff.mp e
  obtain ⟨δ1, e3, e4⟩ := Option.bind_eq_some_iff.mp e2
  cases e4
  refine ⟨δ, Z, F, d, δ', ok, e1, fun v H' Z' F' g s o r nd dz => ?_⟩
  obtain ⟨rs, rfl⟩ := r.shOf
  refine ⟨δ', Z', F', d, δ1, o, rs, e3, fun σ1 F1 ok1 sb1 l1 j1 => p σ1 H' Z' F1 (s.sub fun a h => List.mem_append_left _ (sb1 a h)) ok1 (fix_ix hr j1)⟩
theorem sUnp_eq (f : EF) (tg : D → List D → Option (List D)) : sUnp f tg = sUnpM (mOf f) tg := by
  funext δ
  unfold sUnp sUnpM mOf
  cases f δ <;> rfl
theorem zUnp {tg e : Expr} {f : EF} {ix : List Nat} {tgf : D → List D → Option (List D)} {pos : Pos} (he : PE X e (tP X.K Γ .sh f)) (hg : PG X tg (tG X.K Γ Γ1 ix tgf)) (hr : noIx er ix = true)
    (hs : swapsWithSole [tg] e pos.line X.env = pure false := by rfl) (hw : swappedStores [tg] e X.env = pure none := by rfl) (h1 : (assignEach [tg] X.env).map (·.2) = [assign tg X.env] := by rfl) :
    PS X (.Assign [tg] e pos) (tS X.K Γ ⟨Γ1, eb, ec, er, et⟩ (sUnp f tgf)) := by rw [sUnp_eq]; exact zUnpM (mOfP he) hg hr hs hw h1
/-- x[j] = v -/
theorem zSetIx' (i : Nat) {o j e : Expr} {f : EM} {g : EF} {pos tpos : Pos} (ho : PE X o (tVar i)) (hj : PE X j (tP X.K Γ' .sh g)) (he : PE X e (tM X.K Γ Γ' .sh f)) (ht' : Γ'[i]? = some (.ol .sh))
    (ha : ∀ v, assign (.Subscript o j tpos) X.env v = (do
      let ov ← holding [v] (eval o X.env)
      let iv ← holding [v, ov] (eval j X.env)
      standAt tpos
      holding [v, ov, iv] (setItem ov iv v)
      release [v, ov, iv] []) := by intro _; rfl)
    (hs : swapsWithSole [.Subscript o j tpos] e pos.line X.env = pure false := by rfl) (hw : swappedStores [.Subscript o j tpos] e X.env = pure none := by rfl)
    (h1 : (assignEach [.Subscript o j tpos] X.env).map (·.2) = [assign (.Subscript o j tpos) X.env] := by rfl) :
    PS X (.Assign [.Subscript o j tpos] e pos) (tS X.K Γ ⟨Γ', eb, ec, er, et⟩ (sSetIx i f g)) := zSetIx i (ps_asg he (pg_sub ho hj set_list ha) hs hw h1) ht'
/-- weaker types -/
theorem cWk {e : Expr} {t : T} {f : EF} (h : PE X e (tC X.K Γ' t f)) (hw : wk Γ Γ' = true) : PE X e (tC X.K Γ t f) := h.imp fun σ H Q ⟨δ, Z, F, d, ok, e, k⟩ => by
  obtain ⟨F2, o2, sb⟩ := ok.weak hw
  exact ⟨δ, Z, F2, d, o2, e, k⟩
theorem pWk {e : Expr} {t : T} {f : EF} (h : PE X e (tP X.K Γ' t f)) (hw : wk Γ Γ' = true) : PE X e (tP X.K Γ t f) := h.imp fun σ H Q ⟨δ, Z, F, d, ok, e, k⟩ => by
  obtain ⟨F2, o2, sb⟩ := ok.weak hw
  exact ⟨δ, Z, F2, d, o2, e, k⟩
theorem mWk {e : Expr} {t : T} {f : EM} (h : PE X e (tM X.K Γ' Γ1 t f)) (hw : wk Γ Γ' = true) : PE X e (tM X.K Γ Γ1 t f) := h.imp fun σ H Q ⟨δ, Z, F, d, δ', ok, e, k⟩ => by
  obtain ⟨F2, o2, sb⟩ := ok.weak hw
  exact ⟨δ, Z, F2, d, δ', o2, e, fun v H' Z' F' g s o r nd dz => k v H' Z' F' g (s.wide fun a h => sb.subset h) o r nd dz⟩
/-- slots forgotten ahead of a block -/
theorem zDrp {sts : List Stmt} {f : SF} (h : PSs X sts (tS X.K Γ' ⟨en, eb, ec, er, et⟩ f)) (hw : wk Γ Γ' = true) : PSs X sts (tS X.K Γ ⟨en, eb, ec, er, et⟩ f) := h.imp fun W σ H ⟨δ, Z, F, out, ok, e, p⟩ => by
  obtain ⟨F2, o2, sb⟩ := ok.weak hw
  exact ⟨δ, Z, F2, out, o2, e, p.later (Stp.refl.sub fun a h => sb.subset h) (.refl _ _)⟩
theorem zDrp1 {st : Stmt} {f : SF} (h : PS X st (tS X.K Γ' ⟨en, eb, ec, er, et⟩ f)) (hw : wk Γ Γ' = true) : PS X st (tS X.K Γ ⟨en, eb, ec, er, et⟩ f) := h.imp fun W σ H ⟨δ, Z, F, out, ok, e, p⟩ => by
  obtain ⟨F2, o2, sb⟩ := ok.weak hw
  exact ⟨δ, Z, F2, out, o2, e, p.later (Stp.refl.sub fun a h => sb.subset h) (.refl _ _)⟩
end
end Pv

set_option Elab.async false
set_option linter.all false
set_option maxRecDepth 100000
/-! Pv12: calls by keywords alone; the bottom of all calls; the law's own end. -/
namespace Pv
open PySem PySem.Spec PyProof.Rows L2
/-- xs in another order -/
def ro {α : Type} (pm : List Nat) (xs : List α) : List α := pm.filterMap fun i => xs[i]?
def KwB (K : PySem.W.Frag) (fd : FuncData) (ps ks : List Str) (pm : List Nat) : Prop := ∀ (s : Shared) (ws : List Value), K.In s.heap → ws.length = ks.length → BindsTo s fd ⟨[], ks.zip ws⟩ (ps.zip (ro pm ws))
theorem KwB.of {K : PySem.W.Frag} {fd : FuncData} {ps ks : List Str} {pm : List Nat} (h : ∀ ws : List Value, ws.length = ks.length → bindArgs fd ⟨[], ks.zip ws⟩ = pure (ps.zip (ro pm ws))) : KwB K fd ps ks pm := fun s ws _ hl => .of_eq (h ws hl)
def xRo (pm : List Nat) (f : LF) : LF := fun δ => (f δ).map (ro pm)
section
variable {K : PySem.W.Frag} {X : Cx} {Γ Γ' Γ1 Γ2 Γ3 : List T} {H H' H1 H2 H3 : Hp} {Z Z' Z1 Z2 Z3 : FzT} {F F' F1 F2 : List Addr} {σ σ' σ1 : L2.St} {δ δ' : List D} {en eb ec er : List T} {et : T} {W W' : Ends}
theorem _root_.L2.PK.imp {e : List Keyword} {t t' : TA} (h : PK X e t) (i : ∀ σ H Q, t' σ H Q → t σ H Q) : PK X e t' := ⟨fun p pins s σ H Q I q => h.run p pins s σ H Q I (i _ _ _ q)⟩
theorem wNil : PK X [] (aP X.K Γ [] xNil) := pk_nil.imp fun σ H Q ⟨δ, Z, F, d, ok, e, k⟩ => by cases e; exact k [] H Z [] .refl .nil
theorem wCons {nm : Option Str} {kpos : Pos} {t : T} {ts : List T} {f : EF} {r : LF} {e : Expr} {kws : List Keyword} (ha : PE X e (tP X.K Γ t f)) (hr : PK X kws (aP X.K Γ ts r)) :
    PK X (⟨nm, e, kpos⟩ :: kws) (aP X.K Γ (t :: ts) (xCons f r)) := (pk_cons ha hr).imp fun σ H Q ⟨δ, Z, F, d, ok, e, k⟩ => by
  obtain ⟨x, ex, e⟩ := Option.bind_eq_some_iff.mp e
  obtain ⟨xs, exs, e⟩ := Option.bind_eq_some_iff.mp e
  cases e
  exact ⟨δ, Z, F, x, ok, ex, fun v H1 Z1 g1 s1 r1 => ⟨δ, Z1, F, xs, ok.ext s1, exs, fun vs H2 Z2 g2 s2 r2 => k (v :: vs) H2 Z2 _ (s1.trans s2) (.cons (r1.ext s2) r2)⟩⟩
theorem vals_ro : ∀ (pm : List Nat) {vs : List V} {us : List Value}, Vals vs us → Vals (ro pm vs) (ro pm us)
  | [], _, _, _ => .nil
  | i :: pm, vs, us, r => by
    unfold ro
    rw [List.filterMap_cons, List.filterMap_cons]
    cases e : vs[i]? with
    | none => rw [r.none_of e]; exact vals_ro pm r
    | some v =>
      obtain ⟨u, e2, r2⟩ := r.get e
      rw [e2]
      exact .cons r2 (vals_ro pm r)
theorem sha_ro : ∀ (pm : List Nat) {vs : List V} {ds : List D}, ShA K H Z vs ds → ShA K H Z (ro pm vs) (ro pm ds)
  | [], _, _, _ => .nil
  | i :: pm, vs, ds, r => by
    unfold ro
    rw [List.filterMap_cons, List.filterMap_cons]
    cases e : ds[i]? with
    | none =>
      have : vs[i]? = none := by rw [List.getElem?_eq_none_iff, r.len]; exact List.getElem?_eq_none_iff.mp e
      rw [this]; exact sha_ro pm r
    | some d =>
      obtain ⟨v, e2, r2⟩ := r.get e
      rw [e2]
      exact .cons r2 (sha_ro pm r)
theorem env_sh : ∀ {ts : List T} {vs : List V} {ds : List D}, ShA K H Z vs ds → ts.all (· == .sh) = true → ts.length = ds.length → Env K H Z ts (vs.map some) ds []
  | [], _, _, .nil, _, _ => .nil
  | _ :: _, _, _, .nil, _, l => by simp at l
  | [], _, _, .cons _ _, _, l => by simp at l
  | t :: ts, _, _, .cons h r, q, l => by
    rw [List.all_cons, Bool.and_eq_true] at q
    have e : t = .sh := by simpa using q.1
    subst e
    exact Env.cons (f := []) (.sh h) (env_sh r q.2 (by simpa using l))
/-- f(k = e, ..), keywords alone; shared data -/
theorem cCallK {k : Nat} {f : Addr} {fd : FuncData} {ps ks : List Str} {pm : List Nat} {S : FS} {x : Str} {p pos : Pos} {kws : List Keyword} {ts : List T} {fa : LF} (Fn : FnOk X.prog X.w X.K X.mg X.base CX0 k f fd ps (spF X.K S)) (hr : Room k X.A) (hg : Gl X x) (hm : X.mg x = some (.ref f)) (hk : PySem.W.keepIn X.K (.ref f) = true)
    (hb : KwB X.K fd ps ks pm) (ha : PK X kws (aP X.K Γ ts fa)) (ht : ts.all (· == .sh) = true) (hl : ts.length = ks.length) (hpm : ∀ ds : List D, ds.length = ks.length → (ro pm ds).length = S.ps.length) (h1 : S.ps.all (· == .sh) = true) (h2 : S.io.all (· == .no) = true)
    (hks : (backToKw pos (keywordEach kws X.env)).filterMap (·.1) = ks := by rfl) (hall : (backToKw pos (keywordEach kws X.env)).all (·.1.isSome) = true := by rfl) (hdb : (x == ("__debug__" : Str)) = false := by decide)
    (hpl : ((backTo pos (starEach [] X.env)).any (·.1) || (backToKw pos (keywordEach kws X.env)).any (·.1.isNone)) = false := by rfl) :
    PE X (.Call (.Name x p) [] kws pos) (tC X.K Γ S.t (xCall S.f (xRo pm fa))) := by
  refine ⟨fun pins s σ H Q I ⟨δ, Z, F, d, ok, e, kk⟩ => ?_⟩
  obtain ⟨ds', e1, e2⟩ := Option.bind_eq_some_iff.mp e
  obtain ⟨ds, e0, rfl⟩ := Option.map_eq_some_iff.mp e1
  obtain ⟨⟨d', dd⟩, e3, e4⟩ := Option.map_eq_some_iff.mp e2
  cases e4
  refine wpAny_Call_Name_kw (ld_glob I hg hm ?_ hdb)
  refine PySem.W.callWith_KW0 (h₀ := X.base) I.ok.mod.kin hk hall (thn (ha.run pos pins s σ H (fun zs H1 => ∃ Z1, Ext H Z H1 Z1 ∧ ShA X.K H1 Z1 zs ds ∧ (∀ a, Z1 a → H1 a ≠ none) ∧ ds.length = ts.length) I ⟨δ, Z, F, ds, ok, e0, fun vs H1 Z1 g s1 r1 => ⟨Z1, s1, Env.shA r1 ht, (ok.ext s1).zs, r1.len.2⟩⟩) fun ws s2 ⟨zs, H2, I2, rz, Z2, st, sa, zs2, ld⟩ => ⟨I2.kIn, ?_⟩) hpl
  rw [hks]
  have ld : ds.length = ks.length := ld.trans hl
  have lw : ws.length = ks.length := by rw [← rz.length, sa.len, ld]
  have sa2 := sha_ro pm sa
  have en := env_sh sa2 h1 (hpm ds ld).symm
  have rz2 := vals_ro pm rz
  refine wpAny_call (codeAny_mono (Fn.run X.A X.stack s2 H2 ⟨[], ks.zip ws⟩ (ro pm ws) (ro pm zs) Q (fun _ _ _ => False) hr I2.env0 (hb s2 ws I2.kIn lw) rz2 ⟨_, Z2, [], d', dd, ⟨en, .nil, (fun _ q => nomatch q), zs2⟩, e3, fun v H' Z' F' g' s' o r nd dz => ?_⟩) fun r s' hq => ?_)
  · have eF := o.env.nos h2
    subst eF
    refine kk v H' Z' g' (st.trans (s'.sub fun a q => nomatch q)) r (by simpa using nd) fun a ha => ⟨?_, dz a ha⟩
    rcases s'.own a ha with z | z
    · cases z
    · exact Same.free st.same z
  · cases r with
    | error e => exact False.elim hq
    | ok fl =>
      cases fl with
      | ret u => exact I2.after hq
      | next => exact False.elim hq
      | brk => exact False.elim hq
      | cont => exact False.elim hq
end
end Pv

set_option Elab.async false
set_option linter.all false
set_option maxRecDepth 100000
/-! Pv13: dicts. -/
namespace Pv
open PySem PySem.Spec PyProof.Rows L2
/-! ### setdefault of tuple keys -/
section
variable {X : Cx} {pins : List (Addr × Obj)} {σ : L2.St} {H : Hp} {s : Shared} {a b : Addr} {r : Value} {d : V} {k : List Key} {A : Around} {E : Value → Shared → Prop}
theorem d_setdT {kvs : List (List Key × V)} {Q : Value → Shared → Prop} (hu : A.units + 1 < cLine) (I : Inv X pins σ H s) (e : H a = some (.dT kvs)) (eb : H b = some (.tup (k.map kV))) (rd : RelV d r) (hl : kvs.length < sizeLine)
    (h1 : ∀ v, valV kvs k = some v → ∀ (w' : Value) (s' : Shared), Inv X pins σ H s' → RelV v w' → Q w' s') (h2 : valV kvs k = none → ∀ (w' : Value) (s' : Shared), Inv X pins σ (upd H a (.dT (putK kvs k d))) s' → RelV d w' → Q w' s') :
    wpAny (model X.prog X.w) A (call (.builtin "dict.setdefault") [.ref a, .ref b, r]) Q E s := by
  obtain ⟨z, hd, xs, rel, dd⟩ := dt_of I.hok e
  have hz : xs.length ≤ sizeLine := by
    rw [← Paired.length rel]
    exact z
  refine call_meetsIn PySem.F.slot_dict_setdefault dd.typeIs PySem.F.entry_dict_setdefault (PySem.F.args_dict_setdefault_3 _ _ _) (meetsH_dict_setdefault (tupleKind (mixKind X.prog X.w)) a b hd r) ⟨tupleKind_room_in1 hu, k, xs, key_of I.hok eb, dd, hz, fun p hp => ?_, fun hn h' dd' hs => ?_⟩
  · have q := rel.val k
    rw [hp] at q
    cases q0 : valV kvs k with
    | none =>
      rw [q0] at q
      exact (show False from q).elim
    | some v0 =>
      rw [q0] at q
      exact h1 v0 q0 _ _ (I.tok _) q
  · have q := rel.val k
    rw [hn] at q
    cases q0 : valV kvs k with
    | some v0 =>
      rw [q0] at q
      exact (show False from q).elim
    | none =>
      have hl2 : (putK kvs k d).length ≤ sizeLine := by
        have := length_putK kvs k d
        omega
      obtain ⟨q, es, ep, hq, g2, g3, g4, _, g5⟩ := dd'
      refine h2 q0 _ _ (d_write I (by rw [e]; exact True.intro) hs ⟨q, hq⟩ ⟨hl2, hd, _, (rel.put k eb rd).keeps fun c ys ec => ?_, q, es, ep, hq, g2, g3, g4, g5⟩) rd
      rw [upd_ne (ne_of ec e (fun z => nomatch z))]
      exact ec
end
def tDSetdT (td ty tx : TE) : TE := fun σ H Q => td σ H fun x H1 => ∃ a, x = .ref a ∧ IsD H1 a ∧ ty σ H1 fun y H2 => tx σ H2 fun z H3 => ∃ (kvs : List (List Key × V)) (k : List Key) (b : Addr), H3 a = some (.dT kvs) ∧ y = .ref b ∧ H3 b = some (.tup (k.map kV)) ∧ kvs.length < sizeLine ∧
  (∀ v, valV kvs k = some v → Q v H3) ∧ (valV kvs k = none → Q z (upd H3 a (.dT (putK kvs k z))))
section
variable {X : Cx} {o e f : Expr} {td ty tx : TE} {apos cpos : Pos}
theorem pe_dsetdT (hu : X.A.units + 1 < cLine) (ho : PE X o td) (he : PE X e ty) (hf : PE X f tx) (m : M2 X o "setdefault" apos e f cpos) : PE X (.Call (.Attribute o "setdefault" apos) [e, f] [] cpos) (tDSetdT td ty tx) := by
  refine ⟨fun pins s σ H Q I h => ?_⟩
  refine wpAny_Call_method m.base m.few m.line PySem.F.plainAttrs_dict PySem.F.slot_dict_setdefault PySem.F.type_dict_setdefault (thn (ho.run pins s σ H _ I h) fun u s1 ⟨x, H1, I1, rx, a, ex, d, q1⟩ => ?_)
  subst ex
  obtain rfl : u = Value.ref a := rx
  obtain ⟨t1, t2, _⟩ := isD_at I1 d
  refine ⟨t1, t2, ?_⟩
  rw [m.trees]
  refine Calls.callWith_builtin rfl (Calls.evalArgs_plain (Calls.spliced_cons (thn (he.run pins s1 σ H1 _ I1 q1) fun iv s2 ⟨y, H2, I2, ry, q2⟩ =>
    Calls.spliced_cons (thn (hf.run pins s2 σ H2 _ I2 q2) fun fv s3 ⟨z, H3, I3, rz, kvs, k, b, ea, ey, eb, hl, q3, q4⟩ => Calls.spliced_nil ?_))))
  subst ey
  obtain rfl : iv = Value.ref b := ry
  exact d_setdT hu I3 ea eb rz hl (fun v hv w' s4 I4 rw' => ⟨v, _, I4, rw', q3 v hv⟩) fun hn w' s4 I4 rw' => ⟨z, _, I4, rw', q4 hn⟩
end
/-! ### keys by their data -/
def ikey : D → Option Key
  | .int i => some (.inl i)
  | .str x => some (.inr x)
  | _ => none
def ikeys : List D → Option (List Key)
  | [] => some []
  | d :: ds => (ikey d).bind fun k => (ikeys ds).map (k :: ·)
def tkey : D → Option (List Key)
  | .tuple ds => ikeys ds
  | _ => none
theorem ikey_eq {d : D} {k : Key} (h : ikey d = some k) : d = kD k := by
  unfold ikey at h
  split at h
  · cases h; rfl
  · cases h; rfl
  · cases h
theorem ikeys_eq : ∀ {ds : List D} {k : List Key}, ikeys ds = some k → ds = k.map kD
  | [], k, h => by cases h; rfl
  | d :: ds, k, h => by
    obtain ⟨a, ea, h⟩ := Option.bind_eq_some_iff.mp h
    obtain ⟨b, eb, h⟩ := Option.map_eq_some_iff.mp h
    cases h
    rw [ikey_eq ea, ikeys_eq eb]
    rfl
theorem tkey_eq {d : D} {k : List Key} (h : tkey d = some k) : d = kTD k := by
  unfold tkey at h
  split at h
  · rw [ikeys_eq h]; rfl
  · cases h
theorem eqv_kD (a b : Key) : PyData.eqv (kD a) (kD b) = decide (a = b) := by
  cases a <;> cases b <;> simp [kD, PyData.eqv]
  all_goals first | (rw [Bool.eq_iff_iff]; simp) | rfl
theorem eqv_kDs : ∀ (a b : List Key), PyData.eqvAll (a.map kD) (b.map kD) = decide (a = b)
  | [], [] => rfl
  | _ :: _, [] => rfl
  | [], _ :: _ => rfl
  | x :: xs, y :: ys => by
    rw [List.map_cons, List.map_cons, PyData.eqvAll, eqv_kD, eqv_kDs xs ys]
    simp
theorem eqv_kTD (a b : List Key) : PyData.eqv (kTD a) (kTD b) = decide (a = b) := eqv_kDs a b
/-- the place of a key -/
def posD (kvd : List (D × D)) (k : D) : Option Nat := kvd.findIdx? fun p => PyData.eqv p.1 k
def getD' (kvd : List (D × D)) (k : D) : Option D := (posD kvd k).bind fun n => (kvd[n]?).map (·.2)
section
variable {κ : Type} [DecidableEq κ] {c : κ → D}
theorem posD_cons {p : D × D} {kvd : List (D × D)} {k : D} : posD (p :: kvd) k = if PyData.eqv p.1 k then some 0 else (posD kvd k).map (· + 1) := by
  unfold posD
  rw [List.findIdx?_cons]
theorem pos_some (hc : ∀ a b, PyData.eqv (c a) (c b) = decide (a = b)) : ∀ {kvs : List (κ × V)} {kvd : List (D × D)} {k : κ} {n : Nat}, kvd.map Prod.fst = kvs.map (fun p => c p.1) → posD kvd (c k) = some n → ∃ v, kvs[n]? = some (k, v) ∧ valV kvs k = some v ∧ n < kvd.length
  | [], [], k, n, _, h => by cases h
  | [], p :: kvd, _, _, e, _ => by simp at e
  | p :: kvs, [], _, _, e, _ => by simp at e
  | p :: kvs, q :: kvd, k, n, e, h => by
    rw [List.map_cons, List.map_cons, List.cons.injEq] at e
    rw [posD_cons, e.1, hc] at h
    by_cases hk : p.1 = k
    · rw [decide_eq_true hk, if_pos rfl] at h
      cases h
      exact ⟨p.2, by simp [← hk], valV_pos hk, by simp⟩
    · rw [decide_eq_false hk] at h
      simp only [Bool.false_eq_true, if_false] at h
      obtain ⟨m, em, rfl⟩ := Option.map_eq_some_iff.mp h
      obtain ⟨v, h1, h2, h3⟩ := pos_some hc e.2 em
      exact ⟨v, by simpa using h1, by rw [valV_neg hk]; exact h2, by simpa using h3⟩
theorem pos_none (hc : ∀ a b, PyData.eqv (c a) (c b) = decide (a = b)) : ∀ {kvs : List (κ × V)} {kvd : List (D × D)} {k : κ}, kvd.map Prod.fst = kvs.map (fun p => c p.1) → posD kvd (c k) = none → valV kvs k = none
  | [], [], k, _, _ => rfl
  | [], p :: kvd, _, e, _ => by simp at e
  | p :: kvs, [], _, e, _ => by simp at e
  | p :: kvs, q :: kvd, k, e, h => by
    rw [List.map_cons, List.map_cons, List.cons.injEq] at e
    rw [posD_cons, e.1, hc] at h
    by_cases hk : p.1 = k
    · rw [decide_eq_true hk, if_pos rfl] at h
      cases h
    · rw [decide_eq_false hk] at h
      simp only [Bool.false_eq_true, if_false] at h
      rw [valV_neg hk]
      exact pos_none hc e.2 (by simpa using h)
end
section
variable {K : PySem.W.Frag} {X : Cx} {Γ Γ' Γ1 Γ2 Γ3 : List T} {H H' H1 H2 H3 : Hp} {Z Z' Z1 Z2 Z3 : FzT} {F F' F1 F2 : List Addr} {σ σ' σ1 : L2.St} {δ δ' : List D} {en eb ec er : List T} {et : T} {W W' : Ends}
theorem sha_kV : ∀ {k : List Key} {vs : List V}, ShA K H Z vs (k.map kD) → vs = k.map kV
  | [], _, .nil => rfl
  | .inl i :: k, _, .cons h r => by
    have e := h.intOf
    subst e
    rw [sha_kV r]; rfl
  | .inr x :: k, _, .cons h r => by
    have e := h.strOf
    subst e
    rw [sha_kV r]; rfl
theorem Sh.keyT {v : V} {k : List Key} (h : Sh K H Z v (kTD k)) : ∃ b, v = .ref b ∧ H b = some (.tup (k.map kV)) := by
  cases h with
  | tup h r => exact ⟨_, rfl, by rw [h, sha_kV r]⟩
theorem Sh.keyK {v : V} {k : Key} (h : Sh K H Z v (kD k)) : v = kV k := by
  cases k with
  | inl i => exact h.intOf
  | inr x => exact h.strOf
/-- {} -/
def xDict0 : EF := fun _ => some (.dict [])
theorem cDNewK {t : T} {pos : Pos} : PE X (.Dict [] [] pos) (tC X.K Γ (.dk t) xDict0) := pe_dnewK.imp fun σ H Q ⟨δ, Z, F, d, ok, e, k⟩ => by
  cases e
  exact fun p hp => k _ _ Z [p] (Ext.new hp) (.dk (kvs := []) upd_same rfl .nil) (by simp) fun a ha => by
    simp only [List.mem_singleton] at ha
    subst ha
    exact ⟨hp, fun z => ok.zs _ z hp⟩
def xDict0T : EF := fun _ => some (dtD [])
theorem cDNewT {t : T} {pos : Pos} : PE X (.Dict [] [] pos) (tC X.K Γ (.dt t) xDict0T) := pe_dnewT.imp fun σ H Q ⟨δ, Z, F, d, ok, e, k⟩ => by
  cases e
  exact fun p hp => k _ _ Z [p] (Ext.new hp) (.dt (kvs := []) upd_same rfl .nil) (by simp) fun a ha => by
    simp only [List.mem_singleton] at ha
    subst ha
    exact ⟨hp, fun z => ok.zs _ z hp⟩
end
end Pv

set_option Elab.async false
set_option linter.all false
set_option maxRecDepth 100000
/-! Pv14: dicts in slots: setdefault, d[k] = v, frozen dicts (printed by dicts.py). -/
namespace Pv
open PySem PySem.Spec PyProof.Rows L2
def getDctK (δ : List D) (i : Nat) : Option (List (D × D)) := match δ[i]? with | some (.dict ds) => some ds | _ => none
theorem getDctK_eq {δ : List D} {i : Nat} {ds : List (D × D)} (h : getDctK δ i = some ds) : δ[i]? = some (.dict ds) := by
  unfold getDctK at h
  split at h
  · cases h; assumption
  · cases h
def getDctT (δ : List D) (i : Nat) : Option (List (D × D)) := match δ[i]? with | some (.dict ((.bool true, .none) :: ds)) => some ds | _ => none
theorem getDctT_eq {δ : List D} {i : Nat} {ds : List (D × D)} (h : getDctT δ i = some ds) : δ[i]? = some (dtD ds) := by
  unfold getDctT at h
  split at h
  · cases h; assumption
  · cases h
def sdK (kvd : List (D × D)) (k : D) : Option (List (D × D) × Nat) := if kvd.length < sizeLine then match posD kvd k with | some n => some (kvd, n) | none => some (kvd ++ [(k, .list [])], kvd.length) else none
/-- x.setdefault(k, []).append(e) -/
def xSdApp (dec : D → Bool) (get : List D → Nat → Option (List (D × D))) (mk : List (D × D) → D) (i : Nat) (fk fv : EF) : EM := fun δ => (fk δ).bind fun k => if dec k then (get δ i).bind fun kvd => (sdK kvd k).bind fun q => (fv (δ.set i (mk q.1))).bind fun y => match q.1[q.2]? with
  | some (kk, .list es) => if es.length < sizeLine then some (.none, δ.set i (mk (q.1.set q.2 (kk, .list (es ++ [y]))))) else none
  | _ => none else none
def xSdK : Nat → EF → EF → EM := xSdApp (fun d => (ikey d).isSome) getDctK .dict
def xSdT : Nat → EF → EF → EM := xSdApp (fun d => (tkey d).isSome) getDctT dtD
theorem map_fst_set {kvd : List (D × D)} {n : Nat} {k v w : D} (h : kvd[n]? = some (k, w)) : (kvd.set n (k, v)).map Prod.fst = kvd.map Prod.fst := by
  refine List.ext_getElem? fun j => ?_
  rw [List.getElem?_map, List.getElem?_map]
  by_cases hj : n = j
  · subst hj
    rw [List.getElem?_set_self (List.getElem?_eq_some_iff.mp h).1, h]
    rfl
  · rw [List.getElem?_set_ne hj]
theorem map_snd_set {kvd : List (D × D)} {n : Nat} {k v : D} : (kvd.set n (k, v)).map Prod.snd = (kvd.map Prod.snd).set n v := by
  rw [List.map_set]
section
variable {K : PySem.W.Frag} {X : Cx} {Γ Γ' Γ1 Γ2 Γ3 : List T} {H H' H1 H2 H3 : Hp} {Z Z' Z1 Z2 Z3 : FzT} {F F' F1 F2 : List Addr} {σ σ' σ1 : L2.St} {δ δ' : List D} {en eb ec er : List T} {et : T} {W W' : Ends}
theorem Stp.newF {p : Addr} {o : HO} (hp : H p = none) : Stp H Z F (L2.upd H p o) Z (F ++ [p]) :=
  let s : Stp H Z F (L2.upd H p o) Z F := (Ext.new hp).stp
  ⟨s.keep, s.mono, fun a h => (List.mem_append.mp h).elim (fun h => .inl h) fun h => .inr (by simp only [List.mem_singleton] at h; rw [h]; exact hp), s.frz, s.live, s.zs⟩
theorem RepA.upAt {t : T} {xs : List V} {ds : List D} {f : List Addr} {n : Nat} {d : D} {b : Addr} {o : HO} (su : Stp H Z [b] H' Z [b]) (mu : Mu H [b]) (dzb : ∀ x ∈ [b], ¬ Z x) {d' : D} {v : V} (nd : f.Nodup) (r : RepA K H Z t xs ds f) (h : ds[n]? = some d) (hv : xs[n]? = some v) (hd : Rep K H Z t v d [b]) (hb : b ∈ f → True)
    (q : ∀ f1 g f2, f = f1 ++ g ++ f2 → Rep K H Z t v d g → g = [b]) (r' : Rep K H' Z t v d' [b]) : RepA K H' Z t xs (ds.set n d') f := by
  obtain ⟨u, f1, gg, f2, hu, rfl, q1, qv, q2⟩ := r.at h
  rw [hv] at hu
  cases hu
  have eg := q f1 gg f2 rfl qv
  subst eg
  have hnl : n < ds.length := (List.getElem?_eq_some_iff.mp h).1
  have nb : ∀ x, x ∈ f1 ∨ x ∈ f2 → x ∉ [b] := fun x hx hz => by
    simp only [List.mem_singleton] at hz
    subst hz
    simp only [List.nodup_append, List.mem_append, List.mem_singleton] at nd
    obtain ⟨⟨_, _, n2⟩, _, n3⟩ := nd
    rcases hx with h | h
    · exact n2 x h x rfl rfl
    · exact n3 x (.inr rfl) x h rfl
  have p1 := q1.step su mu dzb fun x hx => nb x (.inl hx)
  have p2 := q2.step su mu dzb fun x hx => nb x (.inr hx)
  have := (p1.app (RepA.one r')).app p2
  rw [set_split hnl, nth_split hv]
  simpa [List.append_assoc] using this

/-! ### keys: ints and texts -/
theorem dOpnK {i : Nat} {t : T} {ds : List (D × D)} (o : Ok K Γ σ δ H Z F) (ht : Γ[i]? = some (.dk t)) (e : δ[i]? = some (.dict ds)) :
    ∃ a kvs f F1, σ[i]? = some (some (.ref a)) ∧ H a = some (.dK kvs) ∧ ds.map Prod.fst = kvs.map (fun p => kD p.1) ∧ RepA K H Z t (kvs.map Prod.snd) (ds.map Prod.snd) f ∧ Ok K (Γ.set i .no) σ δ H Z F1 ∧ (F1 ++ (a :: f)).Nodup ∧ ∀ x ∈ F1 ++ (a :: f), x ∈ F := by
  obtain ⟨v, F1, g, h1, h2, h3, h4, h5⟩ := o.take ht (fun z => nomatch z) e
  cases h2 with
  | dk ha hk r => exact ⟨_, _, _, F1, h1, ha, hk, r, h3, h4, h5⟩
theorem dPutK {i : Nat} {t : T} {a : Addr} {kvs kvs' : List (Key × V)} {ds' : List (D × D)} {f' : List Addr} (o1 : Ok K (Γ.set i .no) σ δ H Z F1) (hi : Γ[i]? = some (.dk t)) (hv : σ[i]? = some (some (.ref a))) (ha : H a = some (.dK kvs))
    (nd : (F1 ++ (a :: f')).Nodup) (dz : ∀ x ∈ a :: f', ¬ Z x) (ek : ds'.map Prod.fst = kvs'.map (fun p => kD p.1)) (r : RepA K (upd H a (.dK kvs')) Z t (kvs'.map Prod.snd) (ds'.map Prod.snd) f') : ∃ F', Ok K Γ σ (δ.set i (.dict ds')) (upd H a (.dK kvs')) Z F' ∧ ∀ x ∈ F', x ∈ F1 ++ (a :: f') := by
  have s : Stp H Z [a] (upd H a (.dK kvs')) Z [a] := Stp.upd (by simp)
  have m : Mu H [a] := fun x hx => by simp only [List.mem_singleton] at hx; subst hx; exact ⟨_, ha, rfl⟩
  have dza : ∀ x ∈ [a], ¬ Z x := fun x hx => dz x (by simp only [List.mem_singleton] at hx; rw [hx]; exact List.mem_cons_self)
  have nf1 : ∀ x ∈ F1, x ∉ [a] := fun x hx hz => nd_apart nd x (by simp only [List.mem_singleton] at hz; rw [hz]; exact List.mem_cons_self) hx
  have o2 : Ok K (Γ.set i .no) σ δ (upd H a (.dK kvs')) Z F1 := ⟨o1.env.step s m dza nf1, o1.nd, o1.dz, fun x hx => upd_live (o1.zs x hx)⟩
  have rr : Rep K (upd H a (.dK kvs')) Z (.dk t) (.ref a) (.dict ds') (a :: f') := .dk upd_same ek r
  have hl : i < (Γ.set i .no).length := by rw [List.length_set]; exact (List.getElem?_eq_some_iff.mp hi).1
  obtain ⟨F', o3, sb⟩ := o2.set hl rr nd dz
  rw [set_self hv, List.set_set, set_self hi] at o3
  exact ⟨F', o3, sb⟩
/-- the list at a key gets one item more -/
theorem nestK {i n : Nat} {a : Addr} {kvs : List (Key × V)} {ds : List (D × D)} {kk : D} {es : List D} (o : Ok K Γ σ δ H Z F) (ht : Γ[i]? = some (.dk (.ol .sh))) (e : δ[i]? = some (.dict ds)) (en : ds[n]? = some (kk, .list es)) (hv : σ[i]? = some (some (.ref a))) (ha : H a = some (.dK kvs)) :
    ∃ b ys k, kvs[n]? = some (k, .ref b) ∧ H b = some (.lst ys) ∧ ys.length = es.length ∧ b ∈ F ∧ ∀ v y, Sh K H Z v y → ∃ F', Ok K Γ σ (δ.set i (.dict (ds.set n (kk, .list (es ++ [y]))))) (upd H b (.lst (ys ++ [v]))) Z F' ∧ ∀ x ∈ F', x ∈ F := by
  obtain ⟨a', kvs', fs, F2, hv', ha', ek, ra, o2, nd2, sb2⟩ := dOpnK o ht e
  rw [hv] at hv'
  have ea : a = a' := by simpa using hv'
  subst ea
  rw [ha] at ha'
  cases ha'
  have en' : (ds.map Prod.snd)[n]? = some (.list es) := by rw [List.getElem?_map, en]; rfl
  obtain ⟨u, f1, gg, f2, hu, rfl, q1, qv, q2⟩ := ra.at en'
  obtain ⟨b, ys, es', fb, rfl, ee, rfl, hb, rb⟩ := ofList qv
  cases ee
  obtain ⟨sb', rfl⟩ := rb.shA
  obtain ⟨⟨k, u'⟩, hk, hu'⟩ : ∃ p, kvs[n]? = some p ∧ p.2 = .ref b := by
    rw [List.getElem?_map] at hu
    exact Option.map_eq_some_iff.mp hu
  cases hu'
  have bF : b ∈ F := sb2 b (by simp)
  refine ⟨b, ys, k, hk, hb, sb'.len, bF, fun v y rv => ?_⟩
  have su : Stp H Z [b] (upd H b (.lst (ys ++ [v]))) Z [b] := Stp.upd (by simp)
  have mu : Mu H [b] := Mu.one hb
  have dzb : ∀ x ∈ [b], ¬ Z x := fun x hx => by simp only [List.mem_singleton] at hx; rw [hx]; exact o.dz b bF
  have nd3 := nd2
  have nb : ∀ x, x ∈ F2 ∨ x = a ∨ x ∈ f1 ∨ x ∈ f2 → x ∉ [b] := fun x hx hz => by
    simp only [List.mem_singleton] at hz
    subst hz
    simp only [List.nodup_append, List.nodup_cons, List.mem_append, List.mem_cons, List.mem_singleton, List.not_mem_nil, or_false] at nd3
    obtain ⟨_, ⟨n1, ⟨⟨_, _, n2⟩, _, n3⟩⟩, n4⟩ := nd3
    rcases hx with h | h | h | h
    · exact n4 x h x (.inr (.inl (.inr rfl))) rfl
    · exact n1 (.inl (.inr h.symm))
    · exact n2 x h x rfl rfl
    · exact n3 x (.inr rfl) x h rfl
  have o4 : Ok K (Γ.set i .no) σ δ (upd H b (.lst (ys ++ [v]))) Z F2 := ⟨o2.env.step su mu dzb fun x hx => nb x (.inl hx), o2.nd, o2.dz, fun x hx => upd_live (o2.zs x hx)⟩
  have ha3 : (upd H b (.lst (ys ++ [v]))) a = some (.dK kvs) := by rw [upd_ne (fun z => nb a (.inr (.inl rfl)) (by simp [z]))]; exact ha
  have rN : RepA K (upd H b (.lst (ys ++ [v]))) Z (.ol .sh) (kvs.map Prod.snd) ((ds.set n (kk, .list (es ++ [y]))).map Prod.snd) (f1 ++ [b] ++ f2) := by
    have p1 := q1.step su mu dzb fun x hx => nb x (.inr (.inr (.inl hx)))
    have p2 := q2.step su mu dzb fun x hx => nb x (.inr (.inr (.inr hx)))
    have pm : Rep K (upd H b (.lst (ys ++ [v]))) Z (.ol .sh) (.ref b) (.list (es ++ [y])) [b] := .ol upd_same (((sb'.app (.cons rv .nil)).step su mu dzb).repA)
    have := (p1.app (RepA.one pm)).app p2
    rw [map_snd_set, set_split (List.getElem?_eq_some_iff.mp en').1]
    rw [nth_split hu]
    simpa [List.append_assoc] using this
  have rA : Rep K (upd H b (.lst (ys ++ [v]))) Z (.dk (.ol .sh)) (.ref a) (.dict (ds.set n (kk, .list (es ++ [y])))) (a :: (f1 ++ [b] ++ f2)) := .dk ha3 (by rw [map_fst_set en]; exact ek) rN
  have hl : i < (Γ.set i .no).length := by rw [List.length_set]; exact (List.getElem?_eq_some_iff.mp ht).1
  obtain ⟨F3, o5, sb5⟩ := o4.set hl rA nd3 fun x hx => o.dz x (sb2 x (List.mem_append_right _ hx))
  rw [set_self hv, List.set_set, set_self ht] at o5
  exact ⟨F3, o5, fun x hx => sb2 x (sb5 x hx)⟩
/-- x.setdefault(k, []).append(e) -/
theorem mSdK (i : Nat) {c : Expr} {fk fv : EF} (h : PE X c (tBM X.K "list" rAppend (tDSetd (tVar i) (tP X.K Γ .sh fk) (tLst tNil)) (tCons (tP X.K Γ .sh fv) tNil))) (ht : Γ[i]? = some (.dk (.ol .sh))) : PE X c (tM X.K Γ Γ .sh (xSdK i fk fv)) :=
  h.imp fun σ H Q ⟨δ, Z, F, d, δ', ok, e, k⟩ => by
  obtain ⟨kd, e1, e2⟩ := Option.bind_eq_some_iff.mp e
  split at e2
  · rename_i hdec
    obtain ⟨ky, hky⟩ := Option.isSome_iff_exists.mp hdec
    have ekd := ikey_eq hky
    subst ekd
    obtain ⟨kvd, e3, e4⟩ := Option.bind_eq_some_iff.mp e2
    obtain ⟨⟨kvd1, n⟩, e5, e6⟩ := Option.bind_eq_some_iff.mp e4
    obtain ⟨y, e7, e8⟩ := Option.bind_eq_some_iff.mp e6
    simp only at e8 e7
    split at e8
    · rename_i kk es hes
      split at e8
      · rename_i hlt
        cases e8
        obtain ⟨a, kvs, fs, F2, hv, ha, ek, ra, o2, nd2, sb2⟩ := dOpnK ok ht (getDctK_eq e3)
        refine ⟨.ref a, hv, a, rfl, .inl ⟨kvs, .inl ha⟩, δ, Z, F, kD ky, ok, e1, fun kv H1 Z1 g1 s1 r1 => ⟨Nat.zero_le _, fun p hp => ?_⟩⟩
        have s2 : Ext H Z (upd H1 p (.lst [])) Z1 := s1.trans (Ext.new hp)
        have ok2 := ok.ext s2
        have ha2 := s2.keep a _ ha (by simp)
        have sk : Sh X.K (upd H1 p (.lst [])) Z1 kv (kD ky) := (r1.ext (Ext.new hp)).shOf.1
        unfold sdK at e5
        split at e5
        · rename_i hz
          have hzl : kvs.length < sizeLine := by
            have l1 := congrArg List.length ek
            rw [List.length_map, List.length_map] at l1
            rw [← l1]
            exact hz
          -- what follows from the heap with the list in its place
          have tail : ∀ (b : Addr) (H3 : Hp) (F3 : List Addr) (kvs1 : List (Key × V)), Ok X.K Γ σ (δ.set i (.dict kvd1)) H3 Z1 F3 → Stp H Z F H3 Z1 F3 → H3 a = some (.dK kvs1) → (∃ k, kvs1[n]? = some (k, .ref b)) →
              tyV X.K "list" (.ref b) H3 ∧ tCons (tP X.K Γ .sh fv) tNil σ H3 fun xs H2 => rAppend (.ref b) xs H2 Q := fun b H3 F3 kvs1 o3 st3 ha3 ⟨k0, hk0⟩ => by
            have hi : i < δ.length := (List.getElem?_eq_some_iff.mp (getDctK_eq e3)).1
            obtain ⟨b', ys, k', h1, h2, h3, h4, h5⟩ := nestK o3 ht (List.getElem?_set_self hi) hes hv ha3
            rw [hk0] at h1
            cases h1
            refine ⟨.inl ⟨rfl, ys, SqL.of h2⟩, δ.set i (.dict kvd1), Z1, F3, y, o3, e7, fun v H4 Z4 g4 s4 r4 => ?_⟩
            obtain ⟨b'', ys', k'', h1, h2', h3', h4', h5'⟩ := nestK (o3.ext s4) ht (List.getElem?_set_self hi) hes hv (s4.keep a _ ha3 (by simp))
            rw [hk0] at h1
            cases h1
            obtain ⟨F5, o5, sb5⟩ := h5' v y r4.shOf.1
            rw [List.set_set] at o5
            refine ⟨b, ys', v, rfl, rfl, h2', by rw [h3']; exact hlt, k .non _ Z4 F5 [] ?_ o5 (.sh .non) (by simpa using o5.nd) (fun _ q => nomatch q)⟩
            exact ((st3.trans s4.stp).trans (Stp.upd h4')).sub fun x hx => sb5 x (by simpa using hx)
          obtain rfl := sk.keyK
          refine ⟨kvs, ky, ha2, rfl, hzl, ?_, ?_⟩
          · intro v hv2
            cases ep : posD kvd (kD ky) with
            | none => rw [pos_none eqv_kD ek ep] at hv2; cases hv2
            | some m =>
              rw [ep] at e5
              cases e5
              obtain ⟨v', hn, hv3, _⟩ := pos_some eqv_kD ek ep
              rw [hv2] at hv3
              cases hv3
              have eδ := set_self (getDctK_eq e3)
              have o3 := ok2
              rw [← eδ] at o3
              obtain ⟨b, ys, k', h1, _⟩ := nestK (by rw [eδ] at o3; exact o3) ht (getDctK_eq e3) hes hv ha2
              rw [hn] at h1
              cases h1
              exact tail b _ F kvs o3 s2.stp ha2 ⟨_, hn⟩
          · intro hn2
            cases ep : posD kvd (kD ky) with
            | some m => obtain ⟨v', hn, hv3, _⟩ := pos_some eqv_kD ek ep; rw [hn2] at hv3; cases hv3
            | none =>
              rw [ep] at e5
              cases e5
              rw [putK_new _ hn2]
              have np : ∀ x ∈ F2 ++ a :: fs, x ≠ p := fun x hx z => by
                subst z
                exact ok.mu.some (sb2 x hx) (Same.free s1.same hp)
              have nap : a ≠ p := np a (by simp)
              have o2' := o2.ext s2
              have nd4 : (F2 ++ (a :: (fs ++ [p]))).Nodup := by
                have : ((F2 ++ a :: fs) ++ [p]).Nodup := nd_of nd2 (by simp) fun x hx hz => by
                  simp only [List.mem_singleton] at hx
                  exact np x hz hx
                simpa [List.append_assoc] using this
              have dz4 : ∀ x ∈ a :: (fs ++ [p]), ¬ Z1 x := fun x hx hz => by
                rcases List.mem_cons.mp hx with h | h
                · exact ok2.dz x (sb2 x (by simp [h])) hz
                · rcases List.mem_append.mp h with h | h
                  · exact ok2.dz x (sb2 x (by simp [h])) hz
                  · simp only [List.mem_singleton] at h
                    subst h
                    exact (ok.ext s1).zs x hz hp
              have su : Stp (upd H1 p (.lst [])) Z1 [a] (upd (upd H1 p (.lst [])) a (.dK (kvs ++ [(ky, .ref p)]))) Z1 [a] := Stp.upd (by simp)
              have mu : Mu (upd H1 p (.lst [])) [a] := fun x hx => by simp only [List.mem_singleton] at hx; subst hx; exact ⟨_, ha2, rfl⟩
              have dza : ∀ x ∈ [a], ¬ Z1 x := fun x hx => by simp only [List.mem_singleton] at hx; subst hx; exact dz4 x (by simp)
              have nda : a ∉ fs := (List.nodup_cons.mp (List.nodup_append.mp nd2).2.1).1
              have rOld := (ra.ext s2).step su mu dza fun x hx hz => nda (by simp only [List.mem_singleton] at hz; rw [hz] at hx; exact hx)
              have rp : Rep X.K (upd (upd H1 p (.lst [])) a (.dK (kvs ++ [(ky, .ref p)]))) Z1 (.ol .sh) (.ref p) (.list []) [p] := .ol (by rw [upd_ne nap.symm, upd_same]) .nil
              obtain ⟨F3, o3, sb3⟩ := dPutK (kvs' := kvs ++ [(ky, .ref p)]) (ds' := kvd ++ [(kD ky, .list [])]) o2' ht hv ha2 nd4 dz4 (by rw [List.map_append, List.map_append, ek]; rfl) (by rw [List.map_append, List.map_append]; exact rOld.app (RepA.one rp))
              refine tail p _ F3 _ o3 ?_ upd_same ⟨ky, ?_⟩
              · refine ((s1.stp.trans (Stp.newF hp)).trans (Stp.upd (F := F ++ [p]) (by simp [sb2 a (by simp)]))).sub fun x hx => ?_
                have := sb3 x hx
                simp only [List.mem_append, List.mem_cons, List.mem_singleton] at this ⊢
                rcases this with h | h | h | h
                · exact .inl (sb2 x (by simp [h]))
                · exact .inl (sb2 x (by simp [h]))
                · exact .inl (sb2 x (by simp [h]))
                · exact .inr (by simpa using h)
              · have l1 := congrArg List.length ek
                rw [List.length_map, List.length_map] at l1
                rw [l1, List.getElem?_append_right (Nat.le_refl _), Nat.sub_self]
                rfl
        · cases e5
      · cases e8
    · cases e8
  · cases e2

/-! ### keys: tuples of ints and texts -/
theorem dOpnT {i : Nat} {t : T} {ds : List (D × D)} (o : Ok K Γ σ δ H Z F) (ht : Γ[i]? = some (.dt t)) (e : δ[i]? = some (dtD ds)) :
    ∃ a kvs f F1, σ[i]? = some (some (.ref a)) ∧ H a = some (.dT kvs) ∧ ds.map Prod.fst = kvs.map (fun p => kTD p.1) ∧ RepA K H Z t (kvs.map Prod.snd) (ds.map Prod.snd) f ∧ Ok K (Γ.set i .no) σ δ H Z F1 ∧ (F1 ++ (a :: f)).Nodup ∧ ∀ x ∈ F1 ++ (a :: f), x ∈ F := by
  obtain ⟨v, F1, g, h1, h2, h3, h4, h5⟩ := o.take ht (fun z => nomatch z) e
  cases h2 with
  | dt ha hk r => exact ⟨_, _, _, F1, h1, ha, hk, r, h3, h4, h5⟩
theorem dPutT {i : Nat} {t : T} {a : Addr} {kvs kvs' : List (List Key × V)} {ds' : List (D × D)} {f' : List Addr} (o1 : Ok K (Γ.set i .no) σ δ H Z F1) (hi : Γ[i]? = some (.dt t)) (hv : σ[i]? = some (some (.ref a))) (ha : H a = some (.dT kvs))
    (nd : (F1 ++ (a :: f')).Nodup) (dz : ∀ x ∈ a :: f', ¬ Z x) (ek : ds'.map Prod.fst = kvs'.map (fun p => kTD p.1)) (r : RepA K (upd H a (.dT kvs')) Z t (kvs'.map Prod.snd) (ds'.map Prod.snd) f') : ∃ F', Ok K Γ σ (δ.set i (dtD ds')) (upd H a (.dT kvs')) Z F' ∧ ∀ x ∈ F', x ∈ F1 ++ (a :: f') := by
  have s : Stp H Z [a] (upd H a (.dT kvs')) Z [a] := Stp.upd (by simp)
  have m : Mu H [a] := fun x hx => by simp only [List.mem_singleton] at hx; subst hx; exact ⟨_, ha, rfl⟩
  have dza : ∀ x ∈ [a], ¬ Z x := fun x hx => dz x (by simp only [List.mem_singleton] at hx; rw [hx]; exact List.mem_cons_self)
  have nf1 : ∀ x ∈ F1, x ∉ [a] := fun x hx hz => nd_apart nd x (by simp only [List.mem_singleton] at hz; rw [hz]; exact List.mem_cons_self) hx
  have o2 : Ok K (Γ.set i .no) σ δ (upd H a (.dT kvs')) Z F1 := ⟨o1.env.step s m dza nf1, o1.nd, o1.dz, fun x hx => upd_live (o1.zs x hx)⟩
  have rr : Rep K (upd H a (.dT kvs')) Z (.dt t) (.ref a) (dtD ds') (a :: f') := .dt upd_same ek r
  have hl : i < (Γ.set i .no).length := by rw [List.length_set]; exact (List.getElem?_eq_some_iff.mp hi).1
  obtain ⟨F', o3, sb⟩ := o2.set hl rr nd dz
  rw [set_self hv, List.set_set, set_self hi] at o3
  exact ⟨F', o3, sb⟩
/-- the list at a key gets one item more -/
theorem nestT {i n : Nat} {a : Addr} {kvs : List (List Key × V)} {ds : List (D × D)} {kk : D} {es : List D} (o : Ok K Γ σ δ H Z F) (ht : Γ[i]? = some (.dt (.ol .sh))) (e : δ[i]? = some (dtD ds)) (en : ds[n]? = some (kk, .list es)) (hv : σ[i]? = some (some (.ref a))) (ha : H a = some (.dT kvs)) :
    ∃ b ys k, kvs[n]? = some (k, .ref b) ∧ H b = some (.lst ys) ∧ ys.length = es.length ∧ b ∈ F ∧ ∀ v y, Sh K H Z v y → ∃ F', Ok K Γ σ (δ.set i (dtD (ds.set n (kk, .list (es ++ [y]))))) (upd H b (.lst (ys ++ [v]))) Z F' ∧ ∀ x ∈ F', x ∈ F := by
  obtain ⟨a', kvs', fs, F2, hv', ha', ek, ra, o2, nd2, sb2⟩ := dOpnT o ht e
  rw [hv] at hv'
  have ea : a = a' := by simpa using hv'
  subst ea
  rw [ha] at ha'
  cases ha'
  have en' : (ds.map Prod.snd)[n]? = some (.list es) := by rw [List.getElem?_map, en]; rfl
  obtain ⟨u, f1, gg, f2, hu, rfl, q1, qv, q2⟩ := ra.at en'
  obtain ⟨b, ys, es', fb, rfl, ee, rfl, hb, rb⟩ := ofList qv
  cases ee
  obtain ⟨sb', rfl⟩ := rb.shA
  obtain ⟨⟨k, u'⟩, hk, hu'⟩ : ∃ p, kvs[n]? = some p ∧ p.2 = .ref b := by
    rw [List.getElem?_map] at hu
    exact Option.map_eq_some_iff.mp hu
  cases hu'
  have bF : b ∈ F := sb2 b (by simp)
  refine ⟨b, ys, k, hk, hb, sb'.len, bF, fun v y rv => ?_⟩
  have su : Stp H Z [b] (upd H b (.lst (ys ++ [v]))) Z [b] := Stp.upd (by simp)
  have mu : Mu H [b] := Mu.one hb
  have dzb : ∀ x ∈ [b], ¬ Z x := fun x hx => by simp only [List.mem_singleton] at hx; rw [hx]; exact o.dz b bF
  have nd3 := nd2
  have nb : ∀ x, x ∈ F2 ∨ x = a ∨ x ∈ f1 ∨ x ∈ f2 → x ∉ [b] := fun x hx hz => by
    simp only [List.mem_singleton] at hz
    subst hz
    simp only [List.nodup_append, List.nodup_cons, List.mem_append, List.mem_cons, List.mem_singleton, List.not_mem_nil, or_false] at nd3
    obtain ⟨_, ⟨n1, ⟨⟨_, _, n2⟩, _, n3⟩⟩, n4⟩ := nd3
    rcases hx with h | h | h | h
    · exact n4 x h x (.inr (.inl (.inr rfl))) rfl
    · exact n1 (.inl (.inr h.symm))
    · exact n2 x h x rfl rfl
    · exact n3 x (.inr rfl) x h rfl
  have o4 : Ok K (Γ.set i .no) σ δ (upd H b (.lst (ys ++ [v]))) Z F2 := ⟨o2.env.step su mu dzb fun x hx => nb x (.inl hx), o2.nd, o2.dz, fun x hx => upd_live (o2.zs x hx)⟩
  have ha3 : (upd H b (.lst (ys ++ [v]))) a = some (.dT kvs) := by rw [upd_ne (fun z => nb a (.inr (.inl rfl)) (by simp [z]))]; exact ha
  have rN : RepA K (upd H b (.lst (ys ++ [v]))) Z (.ol .sh) (kvs.map Prod.snd) ((ds.set n (kk, .list (es ++ [y]))).map Prod.snd) (f1 ++ [b] ++ f2) := by
    have p1 := q1.step su mu dzb fun x hx => nb x (.inr (.inr (.inl hx)))
    have p2 := q2.step su mu dzb fun x hx => nb x (.inr (.inr (.inr hx)))
    have pm : Rep K (upd H b (.lst (ys ++ [v]))) Z (.ol .sh) (.ref b) (.list (es ++ [y])) [b] := .ol upd_same (((sb'.app (.cons rv .nil)).step su mu dzb).repA)
    have := (p1.app (RepA.one pm)).app p2
    rw [map_snd_set, set_split (List.getElem?_eq_some_iff.mp en').1]
    rw [nth_split hu]
    simpa [List.append_assoc] using this
  have rA : Rep K (upd H b (.lst (ys ++ [v]))) Z (.dt (.ol .sh)) (.ref a) (dtD (ds.set n (kk, .list (es ++ [y])))) (a :: (f1 ++ [b] ++ f2)) := .dt ha3 (by rw [map_fst_set en]; exact ek) rN
  have hl : i < (Γ.set i .no).length := by rw [List.length_set]; exact (List.getElem?_eq_some_iff.mp ht).1
  obtain ⟨F3, o5, sb5⟩ := o4.set hl rA nd3 fun x hx => o.dz x (sb2 x (List.mem_append_right _ hx))
  rw [set_self hv, List.set_set, set_self ht] at o5
  exact ⟨F3, o5, fun x hx => sb2 x (sb5 x hx)⟩
/-- x.setdefault(k, []).append(e) -/
theorem mSdT (i : Nat) {c : Expr} {fk fv : EF} (h : PE X c (tBM X.K "list" rAppend (tDSetdT (tVar i) (tP X.K Γ .sh fk) (tLst tNil)) (tCons (tP X.K Γ .sh fv) tNil))) (ht : Γ[i]? = some (.dt (.ol .sh))) : PE X c (tM X.K Γ Γ .sh (xSdT i fk fv)) :=
  h.imp fun σ H Q ⟨δ, Z, F, d, δ', ok, e, k⟩ => by
  obtain ⟨kd, e1, e2⟩ := Option.bind_eq_some_iff.mp e
  split at e2
  · rename_i hdec
    obtain ⟨ky, hky⟩ := Option.isSome_iff_exists.mp hdec
    have ekd := tkey_eq hky
    subst ekd
    obtain ⟨kvd, e3, e4⟩ := Option.bind_eq_some_iff.mp e2
    obtain ⟨⟨kvd1, n⟩, e5, e6⟩ := Option.bind_eq_some_iff.mp e4
    obtain ⟨y, e7, e8⟩ := Option.bind_eq_some_iff.mp e6
    simp only at e8 e7
    split at e8
    · rename_i kk es hes
      split at e8
      · rename_i hlt
        cases e8
        obtain ⟨a, kvs, fs, F2, hv, ha, ek, ra, o2, nd2, sb2⟩ := dOpnT ok ht (getDctT_eq e3)
        refine ⟨.ref a, hv, a, rfl, .inr ⟨kvs, .inl ha⟩, δ, Z, F, kTD ky, ok, e1, fun kv H1 Z1 g1 s1 r1 => ⟨Nat.zero_le _, fun p hp => ?_⟩⟩
        have s2 : Ext H Z (upd H1 p (.lst [])) Z1 := s1.trans (Ext.new hp)
        have ok2 := ok.ext s2
        have ha2 := s2.keep a _ ha (by simp)
        have sk : Sh X.K (upd H1 p (.lst [])) Z1 kv (kTD ky) := (r1.ext (Ext.new hp)).shOf.1
        unfold sdK at e5
        split at e5
        · rename_i hz
          have hzl : kvs.length < sizeLine := by
            have l1 := congrArg List.length ek
            rw [List.length_map, List.length_map] at l1
            rw [← l1]
            exact hz
          -- what follows from the heap with the list in its place
          have tail : ∀ (b : Addr) (H3 : Hp) (F3 : List Addr) (kvs1 : List (List Key × V)), Ok X.K Γ σ (δ.set i (dtD kvd1)) H3 Z1 F3 → Stp H Z F H3 Z1 F3 → H3 a = some (.dT kvs1) → (∃ k, kvs1[n]? = some (k, .ref b)) →
              tyV X.K "list" (.ref b) H3 ∧ tCons (tP X.K Γ .sh fv) tNil σ H3 fun xs H2 => rAppend (.ref b) xs H2 Q := fun b H3 F3 kvs1 o3 st3 ha3 ⟨k0, hk0⟩ => by
            have hi : i < δ.length := (List.getElem?_eq_some_iff.mp (getDctT_eq e3)).1
            obtain ⟨b', ys, k', h1, h2, h3, h4, h5⟩ := nestT o3 ht (List.getElem?_set_self hi) hes hv ha3
            rw [hk0] at h1
            cases h1
            refine ⟨.inl ⟨rfl, ys, SqL.of h2⟩, δ.set i (dtD kvd1), Z1, F3, y, o3, e7, fun v H4 Z4 g4 s4 r4 => ?_⟩
            obtain ⟨b'', ys', k'', h1, h2', h3', h4', h5'⟩ := nestT (o3.ext s4) ht (List.getElem?_set_self hi) hes hv (s4.keep a _ ha3 (by simp))
            rw [hk0] at h1
            cases h1
            obtain ⟨F5, o5, sb5⟩ := h5' v y r4.shOf.1
            rw [List.set_set] at o5
            refine ⟨b, ys', v, rfl, rfl, h2', by rw [h3']; exact hlt, k .non _ Z4 F5 [] ?_ o5 (.sh .non) (by simpa using o5.nd) (fun _ q => nomatch q)⟩
            exact ((st3.trans s4.stp).trans (Stp.upd h4')).sub fun x hx => sb5 x (by simpa using hx)
          obtain ⟨bk, rfl, hbk⟩ := sk.keyT
          refine ⟨kvs, ky, bk, ha2, rfl, hbk, hzl, ?_, ?_⟩
          · intro v hv2
            cases ep : posD kvd (kTD ky) with
            | none => rw [pos_none eqv_kTD ek ep] at hv2; cases hv2
            | some m =>
              rw [ep] at e5
              cases e5
              obtain ⟨v', hn, hv3, _⟩ := pos_some eqv_kTD ek ep
              rw [hv2] at hv3
              cases hv3
              have eδ := set_self (getDctT_eq e3)
              have o3 := ok2
              rw [← eδ] at o3
              obtain ⟨b, ys, k', h1, _⟩ := nestT (by rw [eδ] at o3; exact o3) ht (getDctT_eq e3) hes hv ha2
              rw [hn] at h1
              cases h1
              exact tail b _ F kvs o3 s2.stp ha2 ⟨_, hn⟩
          · intro hn2
            cases ep : posD kvd (kTD ky) with
            | some m => obtain ⟨v', hn, hv3, _⟩ := pos_some eqv_kTD ek ep; rw [hn2] at hv3; cases hv3
            | none =>
              rw [ep] at e5
              cases e5
              rw [putK_new _ hn2]
              have np : ∀ x ∈ F2 ++ a :: fs, x ≠ p := fun x hx z => by
                subst z
                exact ok.mu.some (sb2 x hx) (Same.free s1.same hp)
              have nap : a ≠ p := np a (by simp)
              have o2' := o2.ext s2
              have nd4 : (F2 ++ (a :: (fs ++ [p]))).Nodup := by
                have : ((F2 ++ a :: fs) ++ [p]).Nodup := nd_of nd2 (by simp) fun x hx hz => by
                  simp only [List.mem_singleton] at hx
                  exact np x hz hx
                simpa [List.append_assoc] using this
              have dz4 : ∀ x ∈ a :: (fs ++ [p]), ¬ Z1 x := fun x hx hz => by
                rcases List.mem_cons.mp hx with h | h
                · exact ok2.dz x (sb2 x (by simp [h])) hz
                · rcases List.mem_append.mp h with h | h
                  · exact ok2.dz x (sb2 x (by simp [h])) hz
                  · simp only [List.mem_singleton] at h
                    subst h
                    exact (ok.ext s1).zs x hz hp
              have su : Stp (upd H1 p (.lst [])) Z1 [a] (upd (upd H1 p (.lst [])) a (.dT (kvs ++ [(ky, .ref p)]))) Z1 [a] := Stp.upd (by simp)
              have mu : Mu (upd H1 p (.lst [])) [a] := fun x hx => by simp only [List.mem_singleton] at hx; subst hx; exact ⟨_, ha2, rfl⟩
              have dza : ∀ x ∈ [a], ¬ Z1 x := fun x hx => by simp only [List.mem_singleton] at hx; subst hx; exact dz4 x (by simp)
              have nda : a ∉ fs := (List.nodup_cons.mp (List.nodup_append.mp nd2).2.1).1
              have rOld := (ra.ext s2).step su mu dza fun x hx hz => nda (by simp only [List.mem_singleton] at hz; rw [hz] at hx; exact hx)
              have rp : Rep X.K (upd (upd H1 p (.lst [])) a (.dT (kvs ++ [(ky, .ref p)]))) Z1 (.ol .sh) (.ref p) (.list []) [p] := .ol (by rw [upd_ne nap.symm, upd_same]) .nil
              obtain ⟨F3, o3, sb3⟩ := dPutT (kvs' := kvs ++ [(ky, .ref p)]) (ds' := kvd ++ [(kTD ky, .list [])]) o2' ht hv ha2 nd4 dz4 (by rw [List.map_append, List.map_append, ek]; rfl) (by rw [List.map_append, List.map_append]; exact rOld.app (RepA.one rp))
              refine tail p _ F3 _ o3 ?_ upd_same ⟨ky, ?_⟩
              · refine ((s1.stp.trans (Stp.newF hp)).trans (Stp.upd (F := F ++ [p]) (by simp [sb2 a (by simp)]))).sub fun x hx => ?_
                have := sb3 x hx
                simp only [List.mem_append, List.mem_cons, List.mem_singleton] at this ⊢
                rcases this with h | h | h | h
                · exact .inl (sb2 x (by simp [h]))
                · exact .inl (sb2 x (by simp [h]))
                · exact .inl (sb2 x (by simp [h]))
                · exact .inr (by simpa using h)
              · have l1 := congrArg List.length ek
                rw [List.length_map, List.length_map] at l1
                rw [l1, List.getElem?_append_right (Nat.le_refl _), Nat.sub_self]
                rfl
        · cases e5
      · cases e8
    · cases e8
  · cases e2

end
end Pv

set_option Elab.async false
set_option linter.all false
set_option maxRecDepth 100000
/-! Pv15: dicts frozen; what is read in them; d[k] = v (printed by dicts2.py). -/
namespace Pv
open PySem PySem.Spec PyProof.Rows L2
def rDIn : R2 := fun y x H Q => ∃ a o, x = .ref a ∧ DGet H a y o ∧ Q (.bl o.isSome) H
def rDNotIn : R2 := fun y x H Q => ∃ a o, x = .ref a ∧ DGet H a y o ∧ Q (.bl (!o.isSome)) H
def rDGet : R2 := fun x y H Q => ∃ a v, x = .ref a ∧ DGet H a y (some v) ∧ Q v H
def dictOf : D → Option (Bool × List (D × D))
  | .dict ((.bool true, .none) :: ds) => some (true, ds)
  | .dict ds => some (false, ds)
  | _ => none
def keyOk (b : Bool) (k : D) : Bool := if b then (tkey k).isSome else (ikey k).isSome
def dDIn (x y : D) : Option D := (dictOf y).bind fun p => if keyOk p.1 x then some (.bool (posD p.2 x).isSome) else none
def dDNotIn (x y : D) : Option D := (dictOf y).bind fun p => if keyOk p.1 x then some (.bool (!(posD p.2 x).isSome)) else none
def dDGet (x y : D) : Option D := (dictOf x).bind fun p => if keyOk p.1 y then getD' p.2 y else none
/-- in its place, or at the end -/
def putD (kvd : List (D × D)) (k v : D) : List (D × D) := if (posD kvd k).isSome then kvd.map (fun p => if PyData.eqv p.1 k then (p.1, v) else p) else kvd ++ [(k, v)]
/-- x[k] = v -/
def sPutK (i : Nat) (f : EM) (g : EF) : SF := fun δ => (f δ).bind fun p => (g p.2).bind fun k => if (ikey k).isSome then (getDctK p.2 i).bind fun kvd => if kvd.length < sizeLine then some (.nx (p.2.set i (.dict (putD kvd k p.1)))) else none else none
def sPutT (i : Nat) (f : EM) (g : EF) : SF := fun δ => (f δ).bind fun p => (g p.2).bind fun k => if (tkey k).isSome then (getDctT p.2 i).bind fun kvd => if kvd.length < sizeLine then some (.nx (p.2.set i (dtD (putD kvd k p.1)))) else none else none
section
variable {K : PySem.W.Frag} {X : Cx} {Γ Γ' Γ1 Γ2 Γ3 : List T} {H H' H1 H2 H3 : Hp} {Z Z' Z1 Z2 Z3 : FzT} {F F' F1 F2 : List Addr} {σ σ' σ1 : L2.St} {δ δ' : List D} {en eb ec er : List T} {et : T} {W W' : Ends}
theorem op_din (hu : X.A.units + 1 < cLine) : OpR X (compareOp .In) rDIn := fun pins s σ H x y v u Q I rx ry ⟨a, o, ey, g, q⟩ => by
  subst ey
  obtain rfl : u = Value.ref a := ry
  exact d_in hu I g rx fun s3 I3 => ⟨.bl o.isSome, H, I3, rfl, q⟩
theorem op_dnotin (hu : X.A.units + 1 < cLine) : OpR X (compareOp .NotIn) rDNotIn := fun pins s σ H x y v u Q I rx ry ⟨a, o, ey, g, q⟩ => by
  subst ey
  obtain rfl : u = Value.ref a := ry
  exact d_notIn hu I g rx fun s3 I3 => ⟨.bl (!o.isSome), H, I3, rfl, q⟩
theorem pss_lockF {sts : List Stmt} {t : TS} (h : PSs X sts t) : PSs X sts (fun D σ H => ∃ d u, H d = some u ∧ Mut (some u) ∧ ∀ od, t D σ (upd H d (.frz od u))) := ⟨fun pins s σ H D I ⟨d, u, hd, mu, hw⟩ => by
  obtain ⟨od, I1⟩ := I.lock hd mu
  exact h.run pins s σ _ D I1 (hw od)⟩
theorem Stp.frzG {g : List Addr} (s : Stp H Z F H' Z' (F' ++ g)) (m : ∀ a ∈ g, H' a ≠ none) : Stp H Z F H' (zu Z' g) F' :=
  ⟨s.keep, fun a h => .inl (s.mono a h), fun a h => s.own a (List.mem_append_left _ h), fun a h => Or.elim h (s.frz a) fun h => .inr (s.own a (List.mem_append_right _ h)), s.live, fun a h => Or.elim h (s.zs a) fun h => .inr (m a h)⟩
theorem Ok.frzG {g : List Addr} (o : Ok K Γ σ δ H Z F) (nd : (F ++ g).Nodup) (m : ∀ a ∈ g, H a ≠ none) : Ok K Γ σ δ H (zu Z g) F :=
  ⟨o.env.zmono fun _ => .inl, o.nd, fun a ha h => Or.elim h (o.dz a ha) fun h => (List.nodup_append.mp nd).2.2 a ha a h rfl, fun a h => Or.elim h (o.zs a) fun h => m a h⟩
theorem _root_.L2.PE.or {e : Expr} {t t' : TE} (h : PE X e t) (h' : PE X e t') : PE X e (fun σ H Q => t σ H Q ∨ t' σ H Q) := ⟨fun pins s σ H Q I q => q.elim (fun q => h.run pins s σ H Q I q) fun q => h'.run pins s σ H Q I q⟩
theorem ShA.set1 : ∀ {vs : List V} {ds : List D} {v : V} {d : D} {n : Nat}, ShA K H Z vs ds → Sh K H Z v d → ShA K H Z (vs.set n v) (ds.set n d)
  | _, _, _, _, _, .nil, _ => .nil
  | _, _, _, _, 0, .cons h r, s => .cons s r
  | _, _, _, _, n + 1, .cons h r, s => .cons h (ShA.set1 r s)
theorem put_rel {κ : Type} [DecidableEq κ] {c : κ → D} (hc : ∀ a b, PyData.eqv (c a) (c b) = decide (a = b)) {kvs : List (κ × V)} {kvd : List (D × D)} {k : κ} {v : V} {d : D} (ek : kvd.map Prod.fst = kvs.map (fun p => c p.1))
    (r : ShA K H Z (kvs.map Prod.snd) (kvd.map Prod.snd)) (s : Sh K H Z v d) : (putD kvd (c k) d).map Prod.fst = (putK kvs k v).map (fun p => c p.1) ∧ ShA K H Z ((putK kvs k v).map Prod.snd) ((putD kvd (c k) d).map Prod.snd) := by
  unfold putD putK
  rw [valV_any]
  have e : (posD kvd (c k)).isSome = (valV kvs k).isSome := by
    cases ep : posD kvd (c k) with
    | none => rw [pos_none hc ek ep]; rfl
    | some n => obtain ⟨v, _, h2, _⟩ := pos_some hc ek ep; rw [h2]; rfl
  rw [e]
  cases (valV kvs k).isSome with
  | true =>
    rw [if_pos rfl, if_pos rfl]
    clear e
    induction kvd generalizing kvs with
    | nil => cases kvs with | nil => exact ⟨rfl, .nil⟩ | cons => simp at ek
    | cons p kvd ih =>
      cases kvs with
      | nil => simp at ek
      | cons q kvs =>
        rw [List.map_cons, List.map_cons, List.cons.injEq] at ek
        cases r with
        | cons h r =>
          obtain ⟨i1, i2⟩ := ih ek.2 r
          rw [List.map_cons, List.map_cons, List.map_cons, List.map_cons, List.map_cons, List.map_cons, ek.1, hc]
          by_cases hk : q.1 = k
          · rw [if_pos (decide_eq_true hk), if_pos hk]
            exact ⟨by rw [i1], .cons s i2⟩
          · rw [if_neg (by simp [hk]), if_neg hk]
            exact ⟨by rw [i1, ek.1], .cons h i2⟩
  | false =>
    rw [if_neg (by decide), if_neg (by decide), List.map_append, List.map_append, List.map_append, List.map_append, ek]
    exact ⟨rfl, r.app (.cons s .nil)⟩

/-! ### keys: ints and texts -/
/-- the slot i's dict is frozen ahead of a block -/
theorem zFrzDK (i : Nat) {t : T} {sts : List Stmt} {f : SF} (ht : Γ[i]? = some (.dk t)) (hf : t.full = true) (h : PSs X sts (tS X.K (Γ.set i .sh) ⟨en, eb, ec, er, et⟩ f)) : PSs X sts (tS X.K Γ ⟨en, eb, ec, er, et⟩ f) := (pss_lockF h).imp fun W σ H ⟨δ, Z, F, out, ok, e, p⟩ => by
  have hn : (T.dk t) ≠ .no := fun z => nomatch z
  have hi : i < Γ.length := (List.getElem?_eq_some_iff.mp ht).1
  obtain ⟨d, hd⟩ : ∃ d, δ[i]? = some d := ⟨δ[i]'(by rw [ok.env.len.2]; exact hi), by simp [ok.env.len.2, hi]⟩
  obtain ⟨v, F', g, h1, h2, h3, h4, h5⟩ := ok.take ht hn hd
  cases h2 with
  | @dk _ a kvs kvd fs ha ek ra =>
    refine ⟨a, .dK kvs, ha, trivial, fun od => ?_⟩
    have nda : a ∉ fs := (List.nodup_cons.mp (List.nodup_append.mp h4).2.1).1
    have ndF : a ∉ F' := fun z => nd_apart h4 a (by simp) z
    have dza : ∀ x ∈ [a], ¬ Z x := fun x hx => by simp only [List.mem_singleton] at hx; rw [hx]; exact ok.dz a (h5 a (by simp))
    have mu : Mu H [a] := fun x hx => by simp only [List.mem_singleton] at hx; subst hx; exact ⟨_, ha, rfl⟩
    have su : Stp H Z [a] (upd H a (.frz od (.dK kvs))) Z [a] := Stp.upd (by simp)
    have r2 := ra.step su mu dza fun x hx hz => nda (by simp only [List.mem_singleton] at hz; rw [hz] at hx; exact hx)
    have lv : ∀ x ∈ a :: fs, (upd H a (.frz od (.dK kvs))) x ≠ none := fun x hx => by
      rcases List.mem_cons.mp hx with h | h
      · rw [h, upd_same]; exact fun z => nomatch z
      · exact r2.mu.some h
    have sh : Sh X.K (upd H a (.frz od (.dK kvs))) (zu Z (a :: fs)) (.ref a) (.dict kvd) := .dk (.inr (by simp)) upd_same ek (RepA.frz (fun _ => .inl) r2 hf fun x hx => .inr (by simp [hx]))
    have s1 : Stp H Z F (upd H a (.frz od (.dK kvs))) Z (F' ++ a :: fs) := (Stp.upd (h5 a (by simp))).sub fun x hx => h5 x hx
    have o0 : Ok X.K (Γ.set i .no) σ δ (upd H a (.frz od (.dK kvs))) Z F' := ⟨h3.env.step su mu dza fun x hx hz => ndF (by simp only [List.mem_singleton] at hz; rw [hz] at hx; exact hx), h3.nd, h3.dz, fun x hx => upd_live (h3.zs x hx)⟩
    have o1 := o0.frzG h4 lv
    obtain ⟨F2, o2, sb⟩ := o1.set (i := i) (t := .sh) (v := .ref a) (d := .dict kvd) (g := []) (by simpa using hi) (.sh sh) (by simpa using o1.nd) (fun _ q => nomatch q)
    rw [set_self h1, set_self hd, List.set_set] at o2
    exact ⟨δ, _, F2, out, o2, e, p.later ((s1.frzG lv).sub fun x hx => by simpa using sb x hx) (.refl _ _)⟩
theorem fz_dgetK {a : Addr} {kvs : List (Key × V)} {kvd : List (D × D)} {y : V} {d : D} (h : Rd H a (.dK kvs)) (ek : kvd.map Prod.fst = kvs.map (fun p => kD p.1)) (hk : (ikey d).isSome = true) (sy : Sh K H Z y d) (r : ShA K H Z (kvs.map Prod.snd) (kvd.map Prod.snd)) :
    ∃ o, DGet H a y o ∧ ((posD kvd d = none ∧ o = none) ∨ ∃ n v e, posD kvd d = some n ∧ o = some v ∧ kvd[n]?.map (·.2) = some e ∧ Sh K H Z v e) := by
  obtain ⟨k, hk⟩ := Option.isSome_iff_exists.mp hk
  have e := ikey_eq hk
  subst e
  refine ⟨valV kvs k, by rw [sy.keyK]; exact .inl ⟨kvs, k, h, rfl, rfl⟩, ?_⟩
  cases ep : posD kvd (kD k) with
  | none => exact .inl ⟨rfl, pos_none eqv_kD ek ep⟩
  | some n =>
    obtain ⟨v, h1, h2, h3⟩ := pos_some eqv_kD ek ep
    have hn : (kvd.map Prod.snd)[n]? = some (kvd[n]'h3).2 := by rw [List.getElem?_map, List.getElem?_eq_getElem h3]; rfl
    obtain ⟨v', e1, e2⟩ := r.get hn
    rw [List.getElem?_map, h1] at e1
    cases e1
    exact .inr ⟨n, v, (kvd[n]'h3).2, rfl, h2, by rw [List.getElem?_eq_getElem h3]; rfl, e2⟩
theorem zPutK (i : Nat) {st : Stmt} {f : EM} {g : EF} (h : PS X st (sDPut (tVar i) (tP X.K Γ' .sh g) (tM X.K Γ Γ' .sh f))) (ht' : Γ'[i]? = some (.dk .sh)) : PS X st (tS X.K Γ ⟨Γ', eb, ec, er, et⟩ (sPutK i f g)) :=
  h.imp fun W σ H ⟨δ, Z, F, out, ok, e, p⟩ => by
  obtain ⟨⟨y, δ1⟩, e1, e2⟩ := Option.bind_eq_some_iff.mp e
  obtain ⟨kd, e3, e4⟩ := Option.bind_eq_some_iff.mp e2
  split at e4
  · rename_i hdec
    obtain ⟨kvd, e5, e6⟩ := Option.bind_eq_some_iff.mp e4
    split at e6
    · rename_i hz
      cases e6
      obtain ⟨ky, hky⟩ := Option.isSome_iff_exists.mp hdec
      have ekd := ikey_eq hky
      subst ekd
      refine ⟨δ, Z, F, y, δ1, ok, e1, fun v H1 Z1 F1 g1 s1 ok1 r1 nd1 dz1 => ?_⟩
      obtain ⟨rs, rfl⟩ := r1.shOf
      obtain ⟨a, kvs, fs, F2, hv, ha, ek, ra, o2, nd2, sb2⟩ := dOpnK ok1 ht' (getDctK_eq e5)
      refine ⟨.ref a, hv, δ1, Z1, F1, kD ky, ok1, e3, fun w H2 Z2 g2 s2 r2 => ?_⟩
      have hzl : kvs.length < sizeLine := by
        have l1 := congrArg List.length ek
        rw [List.length_map, List.length_map] at l1
        rw [← l1]
        exact hz
      have ha2 := s2.keep a _ ha (by simp)
      obtain ⟨sa, rfl⟩ := ra.shA
      have su : Stp H2 Z2 [a] (upd H2 a (.dK (putK kvs ky v))) Z2 [a] := Stp.upd (by simp)
      have mu : Mu H2 [a] := fun x hx => by simp only [List.mem_singleton] at hx; subst hx; exact ⟨_, ha2, rfl⟩
      have ok2 := ok1.ext s2
      have dza : ∀ x ∈ [a], ¬ Z2 x := fun x hx => by simp only [List.mem_singleton] at hx; rw [hx]; exact ok2.dz a (sb2 a (by simp))
      obtain ⟨p1, p2⟩ := put_rel (k := ky) eqv_kD ek ((sa.ext s2).step su mu dza) ((rs.ext s2).step su mu dza)
      obtain ⟨F3, o3, sb3⟩ := dPutK (o2.ext s2) ht' hv ha2 nd2 (fun x hx => ok2.dz x (sb2 x (List.mem_append_right _ hx))) p1 p2.repA
      have st : Stp H Z F (upd H2 a (.dK (putK kvs ky v))) Z2 F3 := (((by simpa using s1 : Stp H Z F H1 Z1 F1).trans s2.stp).trans (Stp.upd (sb2 a (by simp)))).sub fun x hx => sb2 x (sb3 x hx)
      refine ⟨a, upd H2 a (.dK (putK kvs ky v)), rfl, ?_, p σ _ Z2 F3 st o3 (.refl _ _)⟩
      obtain rfl := r2.shOf.1.keyK
      exact .inl ⟨kvs, ky, ha2, rfl, hzl, rfl⟩
    · cases e6
  · cases e4

/-! ### keys: tuples of ints and texts -/
/-- the slot i's dict is frozen ahead of a block -/
theorem zFrzDT (i : Nat) {t : T} {sts : List Stmt} {f : SF} (ht : Γ[i]? = some (.dt t)) (hf : t.full = true) (h : PSs X sts (tS X.K (Γ.set i .sh) ⟨en, eb, ec, er, et⟩ f)) : PSs X sts (tS X.K Γ ⟨en, eb, ec, er, et⟩ f) := (pss_lockF h).imp fun W σ H ⟨δ, Z, F, out, ok, e, p⟩ => by
  have hn : (T.dt t) ≠ .no := fun z => nomatch z
  have hi : i < Γ.length := (List.getElem?_eq_some_iff.mp ht).1
  obtain ⟨d, hd⟩ : ∃ d, δ[i]? = some d := ⟨δ[i]'(by rw [ok.env.len.2]; exact hi), by simp [ok.env.len.2, hi]⟩
  obtain ⟨v, F', g, h1, h2, h3, h4, h5⟩ := ok.take ht hn hd
  cases h2 with
  | @dt _ a kvs kvd fs ha ek ra =>
    refine ⟨a, .dT kvs, ha, trivial, fun od => ?_⟩
    have nda : a ∉ fs := (List.nodup_cons.mp (List.nodup_append.mp h4).2.1).1
    have ndF : a ∉ F' := fun z => nd_apart h4 a (by simp) z
    have dza : ∀ x ∈ [a], ¬ Z x := fun x hx => by simp only [List.mem_singleton] at hx; rw [hx]; exact ok.dz a (h5 a (by simp))
    have mu : Mu H [a] := fun x hx => by simp only [List.mem_singleton] at hx; subst hx; exact ⟨_, ha, rfl⟩
    have su : Stp H Z [a] (upd H a (.frz od (.dT kvs))) Z [a] := Stp.upd (by simp)
    have r2 := ra.step su mu dza fun x hx hz => nda (by simp only [List.mem_singleton] at hz; rw [hz] at hx; exact hx)
    have lv : ∀ x ∈ a :: fs, (upd H a (.frz od (.dT kvs))) x ≠ none := fun x hx => by
      rcases List.mem_cons.mp hx with h | h
      · rw [h, upd_same]; exact fun z => nomatch z
      · exact r2.mu.some h
    have sh : Sh X.K (upd H a (.frz od (.dT kvs))) (zu Z (a :: fs)) (.ref a) (dtD kvd) := .dt (.inr (by simp)) upd_same ek (RepA.frz (fun _ => .inl) r2 hf fun x hx => .inr (by simp [hx]))
    have s1 : Stp H Z F (upd H a (.frz od (.dT kvs))) Z (F' ++ a :: fs) := (Stp.upd (h5 a (by simp))).sub fun x hx => h5 x hx
    have o0 : Ok X.K (Γ.set i .no) σ δ (upd H a (.frz od (.dT kvs))) Z F' := ⟨h3.env.step su mu dza fun x hx hz => ndF (by simp only [List.mem_singleton] at hz; rw [hz] at hx; exact hx), h3.nd, h3.dz, fun x hx => upd_live (h3.zs x hx)⟩
    have o1 := o0.frzG h4 lv
    obtain ⟨F2, o2, sb⟩ := o1.set (i := i) (t := .sh) (v := .ref a) (d := dtD kvd) (g := []) (by simpa using hi) (.sh sh) (by simpa using o1.nd) (fun _ q => nomatch q)
    rw [set_self h1, set_self hd, List.set_set] at o2
    exact ⟨δ, _, F2, out, o2, e, p.later ((s1.frzG lv).sub fun x hx => by simpa using sb x hx) (.refl _ _)⟩
theorem fz_dgetT {a : Addr} {kvs : List (List Key × V)} {kvd : List (D × D)} {y : V} {d : D} (h : Rd H a (.dT kvs)) (ek : kvd.map Prod.fst = kvs.map (fun p => kTD p.1)) (hk : (tkey d).isSome = true) (sy : Sh K H Z y d) (r : ShA K H Z (kvs.map Prod.snd) (kvd.map Prod.snd)) :
    ∃ o, DGet H a y o ∧ ((posD kvd d = none ∧ o = none) ∨ ∃ n v e, posD kvd d = some n ∧ o = some v ∧ kvd[n]?.map (·.2) = some e ∧ Sh K H Z v e) := by
  obtain ⟨k, hk⟩ := Option.isSome_iff_exists.mp hk
  have e := tkey_eq hk
  subst e
  refine ⟨valV kvs k, by obtain ⟨b, rfl, hb⟩ := sy.keyT; exact .inr ⟨kvs, k, b, h, rfl, hb, rfl⟩, ?_⟩
  cases ep : posD kvd (kTD k) with
  | none => exact .inl ⟨rfl, pos_none eqv_kTD ek ep⟩
  | some n =>
    obtain ⟨v, h1, h2, h3⟩ := pos_some eqv_kTD ek ep
    have hn : (kvd.map Prod.snd)[n]? = some (kvd[n]'h3).2 := by rw [List.getElem?_map, List.getElem?_eq_getElem h3]; rfl
    obtain ⟨v', e1, e2⟩ := r.get hn
    rw [List.getElem?_map, h1] at e1
    cases e1
    exact .inr ⟨n, v, (kvd[n]'h3).2, rfl, h2, by rw [List.getElem?_eq_getElem h3]; rfl, e2⟩
theorem zPutT (i : Nat) {st : Stmt} {f : EM} {g : EF} (h : PS X st (sDPut (tVar i) (tP X.K Γ' .sh g) (tM X.K Γ Γ' .sh f))) (ht' : Γ'[i]? = some (.dt .sh)) : PS X st (tS X.K Γ ⟨Γ', eb, ec, er, et⟩ (sPutT i f g)) :=
  h.imp fun W σ H ⟨δ, Z, F, out, ok, e, p⟩ => by
  obtain ⟨⟨y, δ1⟩, e1, e2⟩ := Option.bind_eq_some_iff.mp e
  obtain ⟨kd, e3, e4⟩ := Option.bind_eq_some_iff.mp e2
  split at e4
  · rename_i hdec
    obtain ⟨kvd, e5, e6⟩ := Option.bind_eq_some_iff.mp e4
    split at e6
    · rename_i hz
      cases e6
      obtain ⟨ky, hky⟩ := Option.isSome_iff_exists.mp hdec
      have ekd := tkey_eq hky
      subst ekd
      refine ⟨δ, Z, F, y, δ1, ok, e1, fun v H1 Z1 F1 g1 s1 ok1 r1 nd1 dz1 => ?_⟩
      obtain ⟨rs, rfl⟩ := r1.shOf
      obtain ⟨a, kvs, fs, F2, hv, ha, ek, ra, o2, nd2, sb2⟩ := dOpnT ok1 ht' (getDctT_eq e5)
      refine ⟨.ref a, hv, δ1, Z1, F1, kTD ky, ok1, e3, fun w H2 Z2 g2 s2 r2 => ?_⟩
      have hzl : kvs.length < sizeLine := by
        have l1 := congrArg List.length ek
        rw [List.length_map, List.length_map] at l1
        rw [← l1]
        exact hz
      have ha2 := s2.keep a _ ha (by simp)
      obtain ⟨sa, rfl⟩ := ra.shA
      have su : Stp H2 Z2 [a] (upd H2 a (.dT (putK kvs ky v))) Z2 [a] := Stp.upd (by simp)
      have mu : Mu H2 [a] := fun x hx => by simp only [List.mem_singleton] at hx; subst hx; exact ⟨_, ha2, rfl⟩
      have ok2 := ok1.ext s2
      have dza : ∀ x ∈ [a], ¬ Z2 x := fun x hx => by simp only [List.mem_singleton] at hx; rw [hx]; exact ok2.dz a (sb2 a (by simp))
      obtain ⟨p1, p2⟩ := put_rel (k := ky) eqv_kTD ek ((sa.ext s2).step su mu dza) ((rs.ext s2).step su mu dza)
      obtain ⟨F3, o3, sb3⟩ := dPutT (o2.ext s2) ht' hv ha2 nd2 (fun x hx => ok2.dz x (sb2 x (List.mem_append_right _ hx))) p1 p2.repA
      have st : Stp H Z F (upd H2 a (.dT (putK kvs ky v))) Z2 F3 := (((by simpa using s1 : Stp H Z F H1 Z1 F1).trans s2.stp).trans (Stp.upd (sb2 a (by simp)))).sub fun x hx => sb2 x (sb3 x hx)
      refine ⟨a, upd H2 a (.dT (putK kvs ky v)), rfl, ?_, p σ _ Z2 F3 st o3 (.refl _ _)⟩
      obtain ⟨bk, rfl, hbk⟩ := r2.shOf.1.keyT
      exact .inr ⟨kvs, ky, bk, ha2, rfl, hbk, hzl, rfl⟩
    · cases e6
  · cases e4

/-! ### dicts read -/
theorem dictOf_dk {kvs : List (Key × V)} {kvd : List (D × D)} {b : Bool} {l : List (D × D)} (ek : kvd.map Prod.fst = kvs.map (fun p => kD p.1)) (h : dictOf (.dict kvd) = some (b, l)) : b = false ∧ l = kvd := by
  unfold dictOf at h
  split at h
  · rename_i ds e
    cases e
    cases kvs with
    | nil => simp at ek
    | cons q r =>
      rw [List.map_cons, List.map_cons, List.cons.injEq] at ek
      obtain ⟨e1, _⟩ := ek
      cases hq : q.1 <;> (rw [hq] at e1; cases e1)
  · rename_i e
    cases e
    cases h
    exact ⟨rfl, rfl⟩
  · rename_i e1 e2
    exact absurd rfl (e2 _)
theorem dictOf_dt {kvd : List (D × D)} : dictOf (dtD kvd) = some (true, kvd) := rfl
def isDct : T → Bool
  | .sh => true
  | .dk .sh => true
  | .dt .sh => true
  | _ => false
theorem rd_dict {t : T} {v : V} {dx d : D} {y : V} {b : Bool} {kvd : List (D × D)} {f : List Addr} (ht : isDct t = true) (r : Rep K H Z t v dx f) (e : dictOf dx = some (b, kvd)) (hk : keyOk b d = true) (sy : Sh K H Z y d) :
    ∃ a o, v = .ref a ∧ DGet H a y o ∧ ((posD kvd d = none ∧ o = none) ∨ ∃ n v e, posD kvd d = some n ∧ o = some v ∧ kvd[n]?.map (·.2) = some e ∧ Sh K H Z v e) := by
  unfold isDct at ht
  split at ht
  · obtain ⟨r', _⟩ := r.shOf
    cases r' with
    | @dk a od kvs kvd' z h ek r' =>
      obtain ⟨rfl, rfl⟩ := dictOf_dk ek e
      obtain ⟨o, h1, h2⟩ := fz_dgetK (.inr ⟨od, h⟩) ek hk sy r'
      exact ⟨a, o, rfl, h1, h2⟩
    | @dt a od kvs kvd' z h ek r' =>
      cases e
      obtain ⟨o, h1, h2⟩ := fz_dgetT (.inr ⟨od, h⟩) ek hk sy r'
      exact ⟨a, o, rfl, h1, h2⟩
    | _ => cases e
  · cases r with
    | @dk _ a kvs kvd' f h ek r =>
      obtain ⟨rfl, rfl⟩ := dictOf_dk ek e
      obtain ⟨o, h1, h2⟩ := fz_dgetK (.inl h) ek hk sy r.shA.1
      exact ⟨a, o, rfl, h1, h2⟩
  · cases r with
    | @dt _ a kvs kvd' f h ek r =>
      cases e
      obtain ⟨o, h1, h2⟩ := fz_dgetT (.inl h) ek hk sy r.shA.1
      exact ⟨a, o, rfl, h1, h2⟩
  · cases ht
theorem din_s {t : T} (ht : isDct t = true) : OpS K rDIn .sh t .sh dDIn := by
  intro H Z x y dx dy d f g Q rx ry e k
  obtain ⟨⟨b, kvd⟩, e1, e2⟩ := Option.bind_eq_some_iff.mp e
  split at e2
  · rename_i hk
    cases e2
    obtain ⟨a, o, rfl, h1, h2⟩ := rd_dict ht ry e1 hk rx.shOf.1
    refine ⟨a, o, rfl, h1, ?_⟩
    have : o.isSome = (posD kvd dx).isSome := by rcases h2 with ⟨p, q⟩ | ⟨n, v, e, p, q, _⟩ <;> rw [p, q] <;> rfl
    rw [this]
    exact k _ H Z [] .refl (.sh (.bl _))
  · cases e2
theorem dnotin_s {t : T} (ht : isDct t = true) : OpS K rDNotIn .sh t .sh dDNotIn := by
  intro H Z x y dx dy d f g Q rx ry e k
  obtain ⟨⟨b, kvd⟩, e1, e2⟩ := Option.bind_eq_some_iff.mp e
  split at e2
  · rename_i hk
    cases e2
    obtain ⟨a, o, rfl, h1, h2⟩ := rd_dict ht ry e1 hk rx.shOf.1
    refine ⟨a, o, rfl, h1, ?_⟩
    have : o.isSome = (posD kvd dx).isSome := by rcases h2 with ⟨p, q⟩ | ⟨n, v, e, p, q, _⟩ <;> rw [p, q] <;> rfl
    rw [this]
    exact k _ H Z [] .refl (.sh (.bl _))
  · cases e2
theorem dget_s {t : T} (ht : isDct t = true) : OpS K rDGet t .sh .sh dDGet := by
  intro H Z x y dx dy d f g Q rx ry e k
  obtain ⟨⟨b, kvd⟩, e1, e2⟩ := Option.bind_eq_some_iff.mp e
  split at e2
  · rename_i hk
    obtain ⟨a, o, rfl, h1, h2⟩ := rd_dict ht rx e1 hk ry.shOf.1
    unfold getD' at e2
    rcases h2 with ⟨p, q⟩ | ⟨n, v, e, p, q, p2, sv⟩
    · simp only at e2; rw [p] at e2; cases e2
    · simp only at e2; rw [p] at e2
      rw [Option.bind_some, p2] at e2
      cases e2
      subst q
      exact ⟨a, v, rfl, h1, k v H Z [] .refl (.sh sv)⟩
  · cases e2
/-- x[k] of a dict -/
theorem cDGet {t : T} {fa fb : EF} {a b : Expr} {pos : Pos} (hu : X.A.units + 1 < cLine) (ht : isDct t = true) (ha : PE X a (tP X.K Γ t fa)) (hb : PE X b (tP X.K Γ .sh fb)) (hs : NoSl b) : PE X (.Subscript a b pos) (tP X.K Γ .sh (x2 dDGet fa fb)) :=
  (pe_dget hu ha hb hs).imp fun _ _ _ h => p2 (r := rDGet) (dget_s ht) h
/-- x.get(k, e) -/
def xDGet2 (fa fb fc : EF) : EF := fun δ => (fa δ).bind fun x => (fb δ).bind fun y => (fc δ).bind fun z => (dictOf x).bind fun p => if keyOk p.1 y then some ((getD' p.2 y).getD z) else none
theorem Rep.isd {t : T} {v : V} {dx : D} {b : Bool} {kvd : List (D × D)} {f : List Addr} (ht : isDct t = true) (r : Rep K H Z t v dx f) (e : dictOf dx = some (b, kvd)) : ∃ a, v = .ref a ∧ IsD H a := by
  unfold isDct at ht
  split at ht
  · obtain ⟨r, _⟩ := r.shOf
    cases r with
    | @dk a od kvs kvd' z h ek r => exact ⟨a, rfl, .inl ⟨_, .inr ⟨_, h⟩⟩⟩
    | @dt a od kvs kvd' z h ek r => exact ⟨a, rfl, .inr ⟨_, .inr ⟨_, h⟩⟩⟩
    | _ => cases e
  · cases r with
    | @dk _ a kvs kvd' f h ek r => exact ⟨a, rfl, .inl ⟨_, .inl h⟩⟩
  · cases r with
    | @dt _ a kvs kvd' f h ek r => exact ⟨a, rfl, .inr ⟨_, .inl h⟩⟩
  · cases ht
theorem cDGet2 {t : T} {fa fb fc : EF} {o e f : Expr} {apos cpos : Pos} (hu : X.A.units + 1 < cLine) (ht : isDct t = true) (ho : PE X o (tP X.K Γ t fa)) (he : PE X e (tP X.K Γ .sh fb)) (hf : PE X f (tP X.K Γ .sh fc)) (m : M2 X o "get" apos e f cpos) :
    PE X (.Call (.Attribute o "get" apos) [e, f] [] cpos) (tP X.K Γ .sh (xDGet2 fa fb fc)) := (pe_dget2 hu ho he hf m).imp fun σ H Q ⟨δ, Z, F, d, ok, e, k⟩ => by
  obtain ⟨x, ex, e⟩ := Option.bind_eq_some_iff.mp e
  obtain ⟨y, ey, e⟩ := Option.bind_eq_some_iff.mp e
  obtain ⟨z, ez, e⟩ := Option.bind_eq_some_iff.mp e
  obtain ⟨⟨b, kvd⟩, e1, e2⟩ := Option.bind_eq_some_iff.mp e
  split at e2
  · rename_i hk
    cases e2
    refine ⟨δ, Z, F, x, ok, ex, fun v H1 Z1 g1 s1 r1 => ?_⟩
    obtain ⟨a, rfl, hd⟩ := r1.isd ht e1
    refine ⟨a, rfl, hd, δ, Z1, F, y, ok.ext s1, ey, fun w H2 Z2 g2 s2 r2 => ⟨δ, Z2, F, z, (ok.ext s1).ext s2, ez, fun u H3 Z3 g3 s3 r3 => ?_⟩⟩
    obtain ⟨a', o, e, h1, h2⟩ := rd_dict ht (r1.ext (s2.trans s3)) e1 hk (r2.ext s3).shOf.1
    cases e
    refine ⟨o, h1, ?_⟩
    simp only at k
    unfold getD' at k
    rcases h2 with ⟨p, q⟩ | ⟨n, v, e, p, q, p2, sv⟩
    · subst q
      rw [p] at k
      exact k u H3 Z3 _ ((s1.trans s2).trans s3) r3
    · subst q
      rw [p, Option.bind_some, p2] at k
      exact k v H3 Z3 [] ((s1.trans s2).trans s3) (.sh sv)
  · cases e2
/-! ### a frozen dict, key by key; a list, a tuple or a dict -/
def asIt : D → Option (List D)
  | .tuple ds => some ds
  | .list ds => some ds
  | .dict ds => (dictOf (.dict ds)).map (·.2.map Prod.fst)
  | _ => none
def lIt (f : EF) : LF := fun δ => (f δ).bind asIt
theorem sh_kD {k : Key} : Sh K H Z (kV k) (kD k) := by
  cases k
  · exact .int _
  · exact .str _
theorem sha_kD : ∀ {k : List Key}, ShA K H Z (k.map kV) (k.map kD)
  | [] => .nil
  | _ :: _ => .cons sh_kD sha_kD
theorem Lat.frz {d : Addr} {o : Obj} {u : HO} (l : Lat H Z H2 Z2) (z : Z d) (h : H d = some (.frz o u)) : H2 d = some (.frz o u) := let ⟨_, _, s, m, dz⟩ := l; s.keep _ _ h fun q => dz _ q z
theorem wks_keysK {d : Addr} {o : Obj} {kvs : List (Key × V)} {kvd : List (D × D)} (z : Z d) (h : H d = some (.frz o (.dK kvs))) (ek : kvd.map Prod.fst = kvs.map (fun p => kD p.1)) : Wks K (Itk d o kvs) (kvd.map Prod.fst) H Z := by
  refine ⟨_, _, by rw [ek, List.length_map]; exact walk_keys, fun H2 Z2 l => l.frz z h, fun i H2 Z2 x H3 e l y he => ?_⟩
  obtain ⟨rfl, k, v, h1, rfl⟩ := y
  rw [ek, List.getElem?_map, h1] at he
  cases he
  exact ⟨Z2, .refl, sh_kD⟩
theorem wks_keysT {d : Addr} {o : Obj} {kvs : List (List Key × V)} {kvd : List (D × D)} (z : Z d) (h : H d = some (.frz o (.dT kvs))) (ek : kvd.map Prod.fst = kvs.map (fun p => kTD p.1)) : Wks K (Itkt d o kvs) (kvd.map Prod.fst) H Z := by
  refine ⟨_, _, by rw [ek, List.length_map]; exact walk_keysT, fun H2 Z2 l => l.frz z h, fun i H2 Z2 x H3 e l y he => ?_⟩
  obtain ⟨rfl, k, v, q, h1, rfl, hq⟩ := y
  rw [ek, List.getElem?_map, h1] at he
  cases he
  exact ⟨Z2, .refl, .tup hq sha_kD⟩
theorem iIt {tg e : Expr} {f : EF} (h : PE X e (tP X.K Γ .sh f)) : PI X tg e (tIP X.K Γ (lIt f)) := (((pi_list h).or (pi_tup h)).or (pi_keys h)).imp fun σ H R ⟨δ, Z, F, ds, ok, e, k⟩ => by
  obtain ⟨d, e1, e3⟩ := Option.bind_eq_some_iff.mp e
  cases d with
  | list es =>
    cases e3
    refine .inl (.inl ⟨δ, Z, F, .list _, ok, e1, fun v H1 Z1 g s1 r1 => ?_⟩)
    obtain ⟨r, rfl⟩ := r1.shOf
    cases r with
    | lst z r => exact ⟨_, rfl, ⟨_, z.sql⟩, k _ H1 Z1 s1 (wks_list z r)⟩
  | tuple es =>
    cases e3
    refine .inl (.inr ⟨δ, Z, F, .tuple _, ok, e1, fun v H1 Z1 g s1 r1 => ?_⟩)
    obtain ⟨r, rfl⟩ := r1.shOf
    cases r with
    | tup h r => exact ⟨_, rfl, ⟨_, SqT.of h⟩, k _ H1 Z1 s1 (wks_tup (SqT.of h) r)⟩
  | dict es =>
    obtain ⟨⟨b, kvd⟩, e4, e5⟩ := Option.map_eq_some_iff.mp e3
    cases e5
    refine .inr ⟨δ, Z, F, .dict es, ok, e1, fun v H1 Z1 g s1 r1 => ?_⟩
    obtain ⟨r, rfl⟩ := r1.shOf
    cases r with
    | dk z h ek r =>
      obtain ⟨rfl, rfl⟩ := dictOf_dk ek e4
      exact ⟨_, _, rfl, .inl ⟨_, h, k _ H1 Z1 s1 (wks_keysK z h ek)⟩⟩
    | dt z h ek r =>
      cases e4
      exact ⟨_, _, rfl, .inr ⟨_, h, k _ H1 Z1 s1 (wks_keysT z h ek)⟩⟩
  | _ => cases e3
end
end Pv

set_option Elab.async false
set_option linter.all false
set_option maxRecDepth 100000
/-! Pv16: sorted of ints, of tuples of ints of any lengths. -/
namespace SrtO
open PySem PyProof.Rows Srt HT
theorem lex_asym : ∀ (x y : List Int), lexLt x y = true → lexLt y x = false
  | [], [], h => by cases h
  | [], _ :: _, _ => rfl
  | _ :: _, [], h => by cases h
  | a :: x, b :: y, h => by
    rw [lexLt_cons] at h ⊢
    by_cases e : a = b
    · rw [if_pos e] at h; rw [if_pos e.symm]; exact lex_asym x y h
    · rw [if_neg e] at h; rw [if_neg (fun z => e z.symm)]
      have := of_decide_eq_true h
      exact decide_eq_false (by omega)
theorem lex_tr : ∀ (x y z : List Int), lexLt y x = false → lexLt z y = false → lexLt z x = false
  | [], [], [], _, _ => rfl
  | [], [], _ :: _, _, _ => rfl
  | [], _ :: _, [], _, h => by cases h
  | [], _ :: _, _ :: _, _, _ => rfl
  | _ :: _, [], _, h, _ => by cases h
  | _ :: _, _ :: _, [], _, h => by cases h
  | a :: x, b :: y, c :: z, h, k => by
    rw [lexLt_cons] at h k ⊢
    by_cases e : b = a
    · rw [if_pos e] at h
      subst e
      by_cases e2 : c = b
      · rw [if_pos e2] at k ⊢; exact lex_tr x y z h k
      · rw [if_neg e2] at k ⊢; exact k
    · rw [if_neg e] at h
      have h1 := of_decide_eq_false h
      by_cases e2 : c = b
      · subst e2
        rw [if_neg e]; exact h
      · rw [if_neg e2] at k
        have h2 := of_decide_eq_false k
        rw [if_neg (by omega)]
        exact decide_eq_false (by omega)
theorem lex_eq : ∀ (x y : List Int), lexLt x y = false → lexLt y x = false → x = y
  | [], [], _, _ => rfl
  | [], _ :: _, h, _ => by cases h
  | _ :: _, [], _, h => by cases h
  | a :: x, b :: y, h, k => by
    rw [lexLt_cons] at h k
    by_cases e : a = b
    · rw [if_pos e] at h; rw [if_pos e.symm] at k
      rw [e, lex_eq x y h k]
    · rw [if_neg e] at h; rw [if_neg (fun z => e z.symm)] at k
      have := of_decide_eq_false h
      have := of_decide_eq_false k
      omega
theorem swo_lexL {α : Type} (k : α → List Int) : Swo fun v u => lexLt (k v) (k u) := ⟨fun x y h => lex_asym _ _ h, fun x y z h1 h2 => lex_tr _ _ _ h1 h2⟩
/-- a tuple of ints -/
def IsTupI (h : Heap) (v : Value) (ns : List Int) : Prop := ∃ a o xs n, v = .ref a ∧ h.get? a = some o ∧ o.cls = .type "tuple" ∧ o.data = .seq xs n ∧ IntsAre xs.toList ns
theorem IsTupI.keeps {h h' : Heap} {v : Value} {ns : List Int} (p : IsTupI h v ns) (k : ∀ b o, h.get? b = some o → o.cls = .type "tuple" → h'.get? b = some o) : IsTupI h' v ns := by
  obtain ⟨a, o, xs, n, e, ho, hc, r⟩ := p
  exact ⟨a, o, xs, n, e, k _ _ ho hc, hc, r⟩
section
variable {prog : Program} {w : World} {A : Around} {E : Value → Shared → Prop} {s : Shared}
theorem kat_ints {Q : Bool → Shared → Prop} {fin : Bool} : ∀ (xs ys : List Value) (ns ms : List Int) (i : Nat), IntsAre xs ns → IntsAre ys ms → fin = decide (ns.length < ms.length) → Q (lexLt ns ms) s → PySem.W.KatLex prog w A true fin Q (xs.zip ys) i s
  | _, _, _, _, i, .nil, .nil, hf, h => by
    have : fin = false := hf
    subst this
    exact PySem.W.kat_nil h
  | _, _, _, _, i, .nil, .cons _ _ r, hf, h => by
    have : fin = true := by rw [hf]; simp
    subst this
    exact PySem.W.kat_nil h
  | _, _, _, _, i, .cons _ _ r, .nil, hf, h => by
    have : fin = false := by rw [hf]; simp
    subst this
    exact PySem.W.kat_nil h
  | _, _, _, _, i, .cons (vs := xs) (ns := ns) a t r, .cons (vs := ys) (ns := ms) b u r2, hf, h => by
    refine PySem.W.kat_cons (SeqAt.EqAt.int_int a t b u prog w _ _ ?_)
    refine PySem.W.kat_go (fun e1 => ?_) (fun e1 => ?_)
    · have ex : a = b := by simpa using e1
      refine PySem.W.kat_yes (kat_ints xs ys ns ms (i + 1) r r2 (by rw [hf]; simp) ?_)
      rw [lexLt_cons, if_pos ex] at h
      exact h
    · have ex : ¬ a = b := by simpa using e1
      rw [lexLt_cons, if_neg ex] at h
      exact PySem.W.kat_no (TS.oneLt_ints _ h)
theorem tupI_cmp {vs : List Value} {k : Value → List Int} (hp : ∀ v ∈ vs, IsTupI s.heap v (k v)) : Cmp prog w A s (tuples' true) (fun p => p.1 ∈ vs) (lt2 fun v u => lexLt (k v) (k u)) := by
  intro p q hm hm'
  have h1 := hp _ hm
  have h2 := hp _ hm'
  show wpAny (model prog w) A (keyLt' (tuples' true) p.1 q.1) (fun r s' => s' = s ∧ r = lexLt (k p.1) (k q.1)) (fun _ _ => False) s
  obtain ⟨a, o, xs, n, e, ho, hc, hd, r⟩ := h1
  obtain ⟨a', o', xs', n', e', ho', hc', hd', r'⟩ := h2
  rw [e, e'] at *
  refine PySem.W.kat_lt ho hd ho' hd' ?_
  refine kat_ints _ _ _ _ 0 r r' ?_ ⟨rfl, rfl⟩
  have l1 := r.length
  have l2 := r'.length
  rw [Array.length_toList] at l1 l2
  rw [l1, l2]
theorem firstsI {h : Heap} {k : Value → List Int} : ∀ {vs : List Value}, (∀ v ∈ vs, IsTupI h v (k v) ∧ k v ≠ []) → ∃ fs : List Value, PySem.W.KatTups h vs fs ∧ fs.length = vs.length ∧ ∀ f ∈ fs, ∃ x t, f = Value.int x t
  | [], _ => ⟨[], PySem.W.KatTups.nil, rfl, fun _ hm => by simp at hm⟩
  | v :: vs, hp => by
    obtain ⟨fs, h1, h2, h3⟩ := firstsI (vs := vs) fun v' hm => hp v' (List.mem_cons_of_mem _ hm)
    obtain ⟨⟨a, o, xs, n, e, ho, hc, hd, r⟩, ne⟩ := hp v (List.mem_cons_self ..)
    subst e
    cases hl : k (.ref a) with
    | nil => exact absurd hl ne
    | cons x xs' =>
      rw [hl] at r
      obtain ⟨y, t, l', e⟩ : ∃ y t l', xs.toList = Value.int y t :: l' := by
        generalize hx : xs.toList = l at r
        cases r with
        | cons n t r => exact ⟨_, _, _, rfl⟩
      refine ⟨.int y t :: fs, PySem.W.KatTups.cons ho hc hd (by rw [← Array.getElem?_toList, e]; rfl) h1, by rw [List.length_cons, List.length_cons, h2], fun f hm => ?_⟩
      rcases List.mem_cons.mp hm with rfl | hm
      · exact ⟨y, t, rfl⟩
      · exact h3 f hm
theorem tupI_sortableO {a : Addr} {vs : List Value} {k : Value → List Int} (h0 : 0 < vs.length) (hp : ∀ v ∈ vs, IsTupI s.heap v (k v) ∧ k v ≠ []) (ha : ∀ o, s.heap.get? a = some o → o.cls ≠ .type "tuple") : SortableO prog w A s a vs fun v u => lexLt (k v) (k u) := by
  intro h' keep
  have hp' : ∀ v ∈ vs, IsTupI h' v (k v) := fun v hm => (hp v hm).1.keeps fun b o e c => keep b o (fun z => by subst z; exact ha o e c) e
  obtain ⟨fs, h1, h2, h3⟩ := firstsI fun v hm => ⟨hp' v hm, (hp v hm).2⟩
  refine ⟨tuples' true, fun Q E hq => ?_, tupI_cmp hp'⟩
  refine PySem.W.kat_kind (T := .type "int") h1 (by omega) (fun f hm => ?_) (by rfl) ?_
  · obtain ⟨x, t, rfl⟩ := h3 f hm
    exact PySem.W.Looks.now
  · have e : (Value.type "int" != Value.type "tuple") = true := by first | decide +kernel | rfl | decide
    rw [e]
    exact hq
theorem sorted_tupI {l : Addr} {vs : List Value} {k : Value → List Int} {Q : Value → Shared → Prop} (hl : s.heap.IsList l vs.toArray) (hz : vs.length ≤ sizeLine) (hp : ∀ v ∈ vs, IsTupI s.heap v (k v) ∧ k v ≠ [])
    (h : ∀ (h' : Heap) (d : Addr) (out : List Value), Srtd (fun v u => lexLt (k v) (k u)) out → Stb (fun v u => lexLt (k v) (k u)) out vs → (∀ b o, s.heap.get? b = some o → h'.get? b = some o) → s.heap.objs.size ≤ d → (∃ n, h'.get? d = some (seqObj "list" out.toArray n)) → Q (.ref d) { s with heap := h' }) :
    wpAny (model prog w) A (call (.builtin "sorted") [.ref l]) Q E s := by
  refine sorted_ord (swo_lexL k) hl hz (fun h2 h₁ a ha kk => ?_) fun out hs hb => ?_
  · refine tupI_sortableO (s := { s with heap := h₁ }) (by omega) (fun v hm => ⟨(hp v hm).1.keeps fun b o e _ => (kk b o e).2, (hp v hm).2⟩) fun o e => ?_
    have e' : some o = some (seqObj "list" vs.toArray 0) := e.symm.trans ha
    cases e'
    intro c
    exact absurd (Value.type.inj c) (by decide)
  · exact h _ _ out hs hb (fun b o e => sortedAll_old e) (Nat.le_succ _) (sortedAll_at s.heap vs out.toArray)
end
/-- a sorted list of things told apart by their order is the only one of its items -/
theorem srt_uniq {α : Type} {lt : α → α → Bool} (O : Swo lt) : ∀ {l m : List α}, Srtd lt l → Srtd lt m → l.Perm m → (∀ x ∈ l, ∀ y ∈ l, lt x y = false → lt y x = false → x = y) → l = m
  | [], m, _, _, h, _ => (List.Perm.eq_nil h.symm).symm
  | x :: l, [], _, _, h, _ => absurd h.length_eq (by simp)
  | x :: l, y :: m, hl, hm, h, u => by
    have hx : x ∈ y :: m := h.mem_iff.mp List.mem_cons_self
    have hy : y ∈ x :: l := h.mem_iff.mpr List.mem_cons_self
    have h1 : lt x y = false := by
      rcases List.mem_cons.mp hx with e | hx
      · rw [e]; exact O.refl y
      · exact srtd_head hm x hx
    have h2 : lt y x = false := by
      rcases List.mem_cons.mp hy with e | hy
      · rw [e]; exact O.refl x
      · exact srtd_head hl y hy
    have e := u x List.mem_cons_self y hy h1 h2
    subst e
    rw [srt_uniq O (List.pairwise_cons.mp hl).2 (List.pairwise_cons.mp hm).2 h.cons_inv fun a ha b hb => u a (List.mem_cons_of_mem _ ha) b (List.mem_cons_of_mem _ hb)]
end SrtO
namespace L2
open PySem PySem.Spec PyProof.Rows
/-- sorted(xs), xs a list of tuples of ints (k says which), none of them empty -/
def rSortedTI (K : PySem.W.Frag) : List V → Hp → VK → Prop := fun vs H Q => ∃ (a : Addr) (xs : List V) (k : V → List Int), vs = [V.ref a] ∧ SqL K H a xs ∧ (∀ x ∈ xs, ∃ t, x = V.ref t ∧ H t = some (.tup ((k x).map V.int)) ∧ k x ≠ []) ∧
  ∀ ys p, SrtO.Srtd (fun v u => HT.lexLt (k v) (k u)) ys → ys.Perm xs → H p = none → Q (.ref p) (upd H p (.lst ys))
section
variable {X : Cx}
theorem cr_sortedTI : CallR X (.builtin "sorted") (rSortedTI X.K) := by
  intro pins s σ H vs us Q I r h
  obtain ⟨a, xs, k, rfl, hs, hx, q⟩ := h
  obtain ⟨its, rv, hl, hz⟩ := I.list hs
  obtain ⟨u, rfl, ru⟩ := vals1 r
  obtain rfl : u = Value.ref a := ru
  obtain ⟨e1, e2⟩ := refs_back rv fun x m => by
    obtain ⟨t, e, _⟩ := hx x m
    exact ⟨t, e⟩
  refine SrtO.sorted_tupI (k := fun u => k (backV u)) hl.isList (by rw [← rv.length]; exact hz) (fun v hv => ?_) fun h' d out h1 h2 kp hd hn => ?_
  · obtain ⟨t, rfl⟩ := e2 v hv
    have hm : V.ref t ∈ xs := by rw [e1]; exact List.mem_map.mpr ⟨_, hv, rfl⟩
    obtain ⟨t', e, ht, ne⟩ := hx _ hm
    cases e
    obtain ⟨_, its2, r2, o, ho, hc, n, hd⟩ := I.hok _ _ ht
    exact ⟨⟨t, o, _, n, rfl, ho, hc, hd, by have := r2.ints; rw [show (its2.toArray).toList = its2 by simp]; exact this⟩, ne⟩
  · have h3 : ∀ u ∈ out, ∃ a, u = Value.ref a := fun u hu => e2 u (h2.perm.mem_iff.mp hu)
    obtain ⟨n, hn⟩ := hn
    have hb : (out.map backV).Perm xs := by
      rw [e1]
      exact h2.perm.map backV
    refine ⟨.ref d, upd H d (.lst (out.map backV)), I.laid (t' := s.toks) kp hd ⟨?_, out, n, vals_back h3, hn⟩, rfl, q _ d (SrtO.srtd_map (lt := fun v u => HT.lexLt (k v) (k u)) h1) hb (I.hok.fresh hd)⟩
    rw [hb.length_eq]
    exact hz
end
end L2
namespace Pv
open PySem PySem.Spec PyProof.Rows L2
/-- what is compared when things are sorted -/
def intD : D → Int
  | .int i => i
  | _ => 0
def codD : D → List Int
  | .int i => [i]
  | .tuple ds => ds.map intD
  | _ => []
def isI : D → Bool
  | .int _ => true
  | _ => false
def isTI : D → Bool
  | .tuple ds => ds.all isI && !ds.isEmpty
  | _ => false
def ltD (x y : D) : Bool := HT.lexLt (codD x) (codD y)
def insD (x : D) : List D → List D
  | [] => [x]
  | y :: ys => if ltD y x then y :: insD x ys else x :: y :: ys
def srtD : List D → List D
  | [] => []
  | x :: xs => insD x (srtD xs)
theorem insD_perm (x : D) : ∀ l, (insD x l).Perm (x :: l)
  | [] => .refl _
  | y :: ys => by
    unfold insD
    split
    · exact ((insD_perm x ys).cons y).trans (.swap x y ys)
    · exact .refl _
theorem srtD_perm : ∀ l, (srtD l).Perm l
  | [] => .refl _
  | x :: xs => (insD_perm x _).trans ((srtD_perm xs).cons x)
theorem ltD_swo : SrtO.Swo ltD := SrtO.swo_lexL codD
theorem insD_srt (x : D) : ∀ l, SrtO.Srtd ltD l → SrtO.Srtd ltD (insD x l)
  | [], _ => SrtO.srtd_one x
  | y :: ys, h => by
    unfold insD
    split
    · rename_i hl
      refine List.pairwise_cons.mpr ⟨fun z hz => ?_, insD_srt x ys (List.pairwise_cons.mp h).2⟩
      rcases List.mem_cons.mp ((insD_perm x ys).mem_iff.mp hz) with e | e
      · rw [e]; exact ltD_swo.asym _ _ hl
      · exact SrtO.srtd_head h z e
    · rename_i hl
      have hl : ltD y x = false := by simpa using hl
      refine List.pairwise_cons.mpr ⟨fun z hz => ?_, h⟩
      rcases List.mem_cons.mp hz with e | e
      · rw [e]; exact hl
      · exact ltD_swo.tr _ _ _ hl (SrtO.srtd_head h z e)
theorem srtD_srt : ∀ l, SrtO.Srtd ltD (srtD l)
  | [] => List.Pairwise.nil
  | x :: xs => insD_srt x _ (srtD_srt xs)
theorem codD_inj {x y : D} (hx : isI x = true ∧ isI y = true ∨ isTI x = true ∧ isTI y = true) (h : codD x = codD y) : x = y := by
  rcases hx with ⟨h1, h2⟩ | ⟨h1, h2⟩
  · cases x <;> cases h1
    cases y <;> cases h2
    simp only [codD, List.cons.injEq, and_true] at h
    rw [h]
  · unfold isTI at h1 h2
    split at h1
    · rename_i ds
      split at h2
      · rename_i es
        simp only [codD] at h
        simp only [Bool.and_eq_true] at h1 h2
        have : ∀ (ds es : List D), ds.all isI = true → es.all isI = true → ds.map intD = es.map intD → ds = es := by
          intro ds
          induction ds with
          | nil => intro es _ _ h; cases es with | nil => rfl | cons => simp at h
          | cons d ds ih =>
            intro es h1 h2 h
            cases es with
            | nil => simp at h
            | cons e es =>
              rw [List.all_cons, Bool.and_eq_true] at h1 h2
              rw [List.map_cons, List.map_cons, List.cons.injEq] at h
              have hd : d = e := by
                cases d <;> cases h1.1
                cases e <;> cases h2.1
                have := h.1
                simp only [intD] at this
                rw [this]
              rw [hd, ih es h1.2 h2.2 h.2]
        rw [this _ _ h1.1 h2.1 h]
      · cases h2
    · cases h1
def oSorted : D → Option D
  | .list ds => if ds.all isI || ds.all isTI then some (.list (srtD ds)) else none
  | _ => none
section
variable {K : PySem.W.Frag} {X : Cx} {Γ Γ' Γ1 Γ2 Γ3 : List T} {H H' H1 H2 H3 : Hp} {Z Z' Z1 Z2 Z3 : FzT} {F F' F1 F2 : List Addr} {σ σ' σ1 : L2.St} {δ δ' : List D} {en eb ec er : List T} {et : T} {W W' : Ends}
theorem sha_ints : ∀ {xs : List V} {ds : List D}, ShA K H Z xs ds → ds.all isI = true → ∃ ns : List Int, xs = ns.map V.int ∧ ds = ns.map PyData.int
  | _, _, .nil, _ => ⟨[], rfl, rfl⟩
  | _, _, .cons (d := d) h r, q => by
    rw [List.all_cons, Bool.and_eq_true] at q
    obtain ⟨ns, rfl, rfl⟩ := sha_ints r q.2
    cases d with
    | int i => rw [h.intOf]; exact ⟨i :: ns, rfl, rfl⟩
    | _ => cases q.1
theorem ints_sha : ∀ (ns : List Int), ShA K H Z (ns.map V.int) (ns.map PyData.int)
  | [] => .nil
  | n :: ns => .cons (.int n) (ints_sha ns)
/-- the ints of a tuple -/
def codO : Option HO → List Int
  | some (.tup ys) => ys.map fun y => match y with | .int i => i | _ => 0
  | _ => []
def codV (H : Hp) : V → List Int
  | .ref b => codO (H b)
  | _ => []
theorem codV_int (ns : List Int) : ((ns.map V.int).map fun y => match y with | V.int i => i | _ => 0) = ns := by
  induction ns with
  | nil => rfl
  | cons n ns ih => rw [List.map_cons, List.map_cons, ih]
theorem sha_tups : ∀ {xs : List V} {ds : List D}, ShA K H Z xs ds → ds.all isTI = true → ds = xs.map (fun x => PyData.tuple ((codV H x).map .int)) ∧ ∀ x ∈ xs, ∃ t, x = V.ref t ∧ H t = some (.tup ((codV H x).map V.int)) ∧ codV H x ≠ []
  | _, _, .nil, _ => ⟨rfl, fun _ h => nomatch h⟩
  | _, _, .cons (v := v) (d := d) h r, q => by
    rw [List.all_cons, Bool.and_eq_true] at q
    obtain ⟨i1, i2⟩ := sha_tups r q.2
    have q1 := q.1
    unfold isTI at q1
    split at q1
    · rename_i es
      rw [Bool.and_eq_true] at q1
      cases h with
      | @tup a ys _ ha ra =>
        obtain ⟨ns, rfl, rfl⟩ := sha_ints ra q1.1
        have e : codV H (.ref a) = ns := by
          have : codV H (.ref a) = codO (H a) := rfl
          rw [this, ha]
          exact codV_int ns
        have ne : ns ≠ [] := fun z => by subst z; simp at q1
        refine ⟨by rw [List.map_cons, e, i1], fun x hx => ?_⟩
        rcases List.mem_cons.mp hx with rfl | hx
        · exact ⟨a, rfl, by rw [e]; exact ha, by rw [e]; exact ne⟩
        · exact i2 x hx
    · cases q1
theorem cSorted {e : Expr} {t : T} {f : EF} {x : Str} {p pos : Pos} (hg : Gl X x) (hm : X.mg x = none) (hv : bootBuiltins x = some (.builtin "sorted")) (ht : seqT t = true) (he : PE X e (tP X.K Γ t f)) (hn : x ≠ "__name__" := by decide) (hdb : (x == ("__debug__" : Str)) = false := by decide)
    (hs : starEach [e] X.env = (false, eval e X.env) :: starEach [] X.env := by rfl) :
    PE X (.Call (.Name x p) [e] [] pos) (tC X.K Γ (.ol .sh) (x1 oSorted f)) := (pe_callB (cr_sortedI.or cr_sortedTI) hg hm hv (pa_cons he pa_nil hs) hn hdb hs rfl).imp fun σ H Q ⟨δ, Z, F, d, ok, e, k⟩ => by
  obtain ⟨dl, e1, e2⟩ := Option.bind_eq_some_iff.mp e
  refine ⟨δ, Z, F, dl, ok, e1, fun v H1 Z1 g s1 r => ?_⟩
  cases dl with
  | list ds =>
    replace e2 : (if ds.all isI || ds.all isTI then some (PyData.list (srtD ds)) else none) = some d := e2
    split at e2
    · rename_i hall
      cases e2
      obtain ⟨a, xs, rfl, hq, sa⟩ : ∃ a xs, v = .ref a ∧ SqL X.K H1 a xs ∧ ShA X.K H1 Z1 xs ds := by
        cases r with
        | no => cases ht
        | sh h => cases h with | lst z r => exact ⟨_, _, rfl, z.sql, r⟩
        | @ol u _ _ _ _ h r =>
          cases u with
          | sh => exact ⟨_, _, rfl, SqL.of h, r.shA.1⟩
          | _ => cases ht
      have fin : ∀ (zs : List V) (p : Addr), ShA X.K H1 Z1 zs (srtD ds) → H1 p = none → Q (.ref p) (upd H1 p (.lst zs)) := fun zs p sz hp => k _ _ Z1 [p] (s1.trans (Ext.new hp)) (.ol upd_same (sz.ext (Ext.new hp)).repA) (by simp) fun b h => by
        have eb : b = p := by simpa using h
        subst eb
        exact ⟨Same.free s1.same hp, fun hz => (ok.ext s1).zs b hz hp⟩
      rw [Bool.or_eq_true] at hall
      rcases hall with hI | hT
      · obtain ⟨ns, rfl, rfl⟩ := sha_ints sa hI
        refine .inl ⟨a, ns, rfl, hq, fun ns' p h1 h2 hp => fin _ p ?_ hp⟩
        have e : srtD (ns.map PyData.int) = ns'.map PyData.int := by
          refine SrtO.srt_uniq ltD_swo (srtD_srt _) ?_ ((srtD_perm _).trans (h1.symm.map _)) fun x hx y hy l1 l2 => codD_inj (.inl ⟨?_, ?_⟩) (SrtO.lex_eq _ _ l1 l2)
          · refine List.pairwise_map.mpr (h2.imp fun {a b} h => ?_)
            show HT.lexLt [b] [a] = false
            rw [HT.lexLt_cons]
            split
            · rfl
            · exact decide_eq_false (by omega)
          · have := (srtD_perm _).mem_iff.mp hx
            obtain ⟨i, _, rfl⟩ := List.mem_map.mp this
            rfl
          · have := (srtD_perm _).mem_iff.mp hy
            obtain ⟨i, _, rfl⟩ := List.mem_map.mp this
            rfl
        rw [e]
        exact ints_sha ns'
      · obtain ⟨ed, hx⟩ := sha_tups sa hT
        refine .inr ⟨a, xs, codV H1, rfl, hq, hx, fun zs p h1 h2 hp => fin _ p ?_ hp⟩
        have hmem : ∀ z ∈ zs, ∃ d ∈ ds, Sh X.K H1 Z1 z d ∧ d = PyData.tuple ((codV H1 z).map .int) := fun z hz => by
          obtain ⟨n, hn⟩ := List.mem_iff_getElem?.mp (h2.mem_iff.mp hz)
          have hd : ds[n]? = some (PyData.tuple ((codV H1 z).map .int)) := by rw [ed, List.getElem?_map, hn]; rfl
          obtain ⟨v, e1, e2⟩ := sa.get hd
          rw [hn] at e1
          cases e1
          exact ⟨_, List.mem_of_getElem? hd, e2, rfl⟩
        have e : srtD ds = zs.map (fun x => PyData.tuple ((codV H1 x).map .int)) := by
          have hcod : ∀ z, codD (PyData.tuple ((codV H1 z).map .int)) = codV H1 z := fun z => by
            simp only [codD, List.map_map]
            have : (intD ∘ PyData.int) = id := rfl
            rw [this, List.map_id]
          refine SrtO.srt_uniq ltD_swo (srtD_srt _) ?_ ?_ fun x hx y hy l1 l2 => codD_inj (.inr ⟨?_, ?_⟩) (SrtO.lex_eq _ _ l1 l2)
          · refine List.pairwise_map.mpr (h1.imp fun {a b} h => ?_)
            show HT.lexLt (codD _) (codD _) = false
            rw [hcod, hcod]
            exact h
          · refine (srtD_perm _).trans ?_
            rw [ed]
            exact h2.symm.map _
          · exact List.all_eq_true.mp hT x ((srtD_perm _).mem_iff.mp hx)
          · exact List.all_eq_true.mp hT y ((srtD_perm _).mem_iff.mp hy)
        rw [e]
        have : ∀ (l : List V), (∀ z ∈ l, z ∈ zs) → ShA X.K H1 Z1 l (l.map (fun x => PyData.tuple ((codV H1 x).map .int))) := by
          intro l
          induction l with
          | nil => intro _; exact .nil
          | cons z l ih =>
            intro h
            obtain ⟨d, _, h1, h2⟩ := hmem z (h z List.mem_cons_self)
            rw [h2] at h1
            exact .cons h1 (ih fun y hy => h y (List.mem_cons_of_mem _ hy))
        exact this zs fun _ h => h
    · cases e2
  | _ => cases e2
end
end Pv

set_option Elab.async false
set_option linter.all false
set_option maxRecDepth 100000
/-! Pv17: the bottom of all calls; minus; the law itself. -/
namespace Pv
open PySem PySem.Spec PyProof.Rows L2
def f0 : List D → Option (D × List D) := fun _ => none
theorem fn_zero {P : Program} {w : World} {K : PySem.W.Frag} {mg : Str → Option Value} {base : Heap} {f : Addr} {fd : FuncData} {ps : List Str} {S : FS} {k : Nat} (h : S.f = f0) : FnOk P w K mg base CX0 k f fd ps (spF K S) := by
  refine ⟨fun vs H Q E q => ?_, fun A outer s H args us vs Q E _ _ _ _ q => ?_⟩
  · obtain ⟨ds, Z, F, d, ds', _, e, _⟩ := q
    rw [h] at e
    cases e
  · obtain ⟨ds, Z, F, d, ds', _, e, _⟩ := q
    rw [h] at e
    cases e
def dNeg : D → Option D
  | .int i => some (.int (-i))
  | _ => none
section
variable {K : PySem.W.Frag} {X : Cx} {Γ Γ' Γ1 Γ2 Γ3 : List T} {H H' H1 H2 H3 : Hp} {Z Z' Z1 Z2 Z3 : FzT} {F F' F1 F2 : List Addr} {σ σ' σ1 : L2.St} {δ δ' : List D} {en eb ec er : List T} {et : T} {W W' : Ends}
theorem cNeg {a : Expr} {f : EF} {pos : Pos} (ha : PE X a (tP X.K Γ .sh f)) : PE X (.UnaryOp .USub a pos) (tP X.K Γ .sh (x1 dNeg f)) := (pe_un un_neg ha).imp fun σ H Q ⟨δ, Z, F, d, ok, e, k⟩ => by
  obtain ⟨y, e1, e2⟩ := Option.bind_eq_some_iff.mp e
  unfold dNeg at e2
  split at e2
  · rename_i i
    cases e2
    refine ⟨δ, Z, F, _, ok, e1, fun v H1 Z1 g s1 r => ?_⟩
    exact ⟨_, r.shOf.1.intOf, k _ H1 Z1 [] s1 (.sh (.int _))⟩
  · cases e2
end
/-! ### the law: a list of ints comes in, True is to come out -/
theorem kl_of {K : PySem.W.Frag} {H : Hp} {a : Addr} {xs : List V} (h : SqL K H a xs) : Rd H a (.lst xs) ∨ KL K a xs := h
theorem spF_law {K : PySem.W.Frag} {f : List D → Option (D × List D)} (h : ∀ ns : List Int, ns.length ≤ 63 → ∃ ds', f [.list (ns.map .int)] = some (.bool true, ds')) (H : Hp) (a : Addr) (ns : List Int) (E : XK) (hl : ns.length ≤ 63) (hs : SqL K H a (ns.map V.int)) :
    spF K ⟨[.sh], [.no], .sh, f⟩ [.ref a] H (fun v _ => v = .bl true) E := by
  obtain ⟨ds', e⟩ := h ns hl
  have fin : ∀ Z : FzT, (∀ x, Z x → H x ≠ none) → FzL K H Z a (ns.map V.int) → spF K ⟨[.sh], [.no], .sh, f⟩ [.ref a] H (fun v _ => v = .bl true) E := fun Z hz hf => by
    refine ⟨[.list (ns.map .int)], Z, [], _, ds', ⟨?_, .nil, (fun _ q => nomatch q), hz⟩, e, fun v H' Z' F' g s o r nd dz => ?_⟩
    · exact Env.cons (f := []) (.sh (.lst hf (ints_sha ns))) .nil
    · exact r.shOf.1.blOf
  rcases kl_of hs with hs | hs
  · refine fin (fun x => x = a) (fun x hx => ?_) (.inl ⟨rfl, hs⟩)
    subst hx
    rcases hs with hs | ⟨o, hs⟩ <;> rw [hs] <;> exact fun z => nomatch z
  · exact fin (fun _ => False) (fun _ q => q.elim) (.inr hs)
end Pv

set_option Elab.async false
set_option linter.all false
set_option maxRecDepth 100000
/-! Pv18: odds and ends. -/
namespace Pv
open PySem PySem.Spec PyProof.Rows L2
def xmIoL (i : Nat) (r : LM) : LM := fun δ => (r δ).bind fun q => (q.2[i]?).map fun d => (d :: q.1, q.2)
theorem ro_len {α : Type} (pm : List Nat) (n : Nat) (h : pm.all (fun i => decide (i < n)) = true) : ∀ ds : List α, ds.length = n → (ro pm ds).length = pm.length := fun ds l => by
  induction pm with
  | nil => rfl
  | cons i pm ih =>
    rw [List.all_cons, Bool.and_eq_true] at h
    have hi : i < ds.length := by rw [l]; exact of_decide_eq_true h.1
    unfold ro at ih ⊢
    rw [List.filterMap_cons, List.getElem?_eq_getElem hi, List.length_cons, List.length_cons, ih h.2]
section
variable {K : PySem.W.Frag} {X : Cx} {Γ Γ' Γ1 Γ2 Γ3 : List T} {H H' H1 H2 H3 : Hp} {Z Z' Z1 Z2 Z3 : FzT} {F F' F1 F2 : List Addr} {σ σ' σ1 : L2.St} {δ δ' : List D} {en eb ec er : List T} {et : T} {W W' : Ends}
theorem zNevers {sts : List Stmt} : PSs X sts (tS X.K Γ ⟨en, eb, ec, er, et⟩ sNo) := pss_never.imp fun W σ H ⟨δ, Z, F, out, ok, e, p⟩ => nomatch e
theorem zWkn {n' : List T} {st : List Stmt} {f : SF} (h : PSs X st (tS X.K Γ ⟨n', eb, ec, er, et⟩ f)) (hn : wk n' en = true) : PSs X st (tS X.K Γ ⟨en, eb, ec, er, et⟩ f) :=
  h.imp fun W σ H ⟨δ, Z, F, out, ok, e, p⟩ => by
    refine ⟨δ, Z, F, out, ok, e, ?_⟩
    cases out with
    | nx δ' =>
      intro σ' H' Z' F' s o fx
      obtain ⟨F2, o2, sb⟩ := o.weak hn
      exact p σ' H' Z' F2 (s.sub fun x hx => sb.subset hx) o2 fx
    | bk δ' => exact p
    | ct δ' => exact p
    | rt d δ' => exact p
/-- an argument that is a slot's own list, which the arguments behind it change -/
theorem aMIoL (i : Nat) {x : Str} {pos : Pos} {t : T} {ts : List T} {gb : List (Option Nat)} {r : LM} {es : List Expr} (ht1 : Γ[i]? = some t) (ht : Γ2[i]? = some t) (hn : t ≠ .no) (h : PE X (.Name x pos) (tVar i)) (hr : PA X es (aM X.K Γ Γ2 ts gb r))
    (hs : starEach (.Name x pos :: es) X.env = (false, eval (.Name x pos) X.env) :: starEach es X.env := by rfl) :
    PA X (.Name x pos :: es) (aM X.K Γ (Γ2.set i .no) (t :: ts) (some i :: gb) (xmIoL i r)) := (pa_cons h hr hs).imp fun σ H Q ⟨δ, Z, F, ds, δ', ok, e, k⟩ => by
  obtain ⟨⟨ds', δ2⟩, e3, e4⟩ := Option.bind_eq_some_iff.mp e
  obtain ⟨d, e5, e6⟩ := Option.map_eq_some_iff.mp e4
  cases e6
  have hi : i < Γ.length := (List.getElem?_eq_some_iff.mp ht1).1
  obtain ⟨d0, hd0⟩ : ∃ d, δ[i]? = some d := ⟨δ[i]'(by rw [ok.env.len.2]; exact hi), by simp [ok.env.len.2, hi]⟩
  obtain ⟨v, g0, h1, _⟩ := ok.env.get ht1 hn hd0
  refine ⟨v, h1, δ, Z, F, ds', δ2, ok, e3, fun vs H2 Z2 F2 g2 s2 ok2 r2 nd2 dz2 gv => ?_⟩
  obtain ⟨v', F1, g1, h1', h2', h3', h4', h5'⟩ := ok2.take ht hn e5
  rw [h1] at h1'
  cases h1'
  have nd3 : (F1 ++ (g1 ++ g2)).Nodup := by
    have := nd_set nd2 h4' h5'
    rw [List.append_assoc] at this
    exact this
  refine k (v :: vs) H2 Z2 F1 (g1 ++ g2) (s2.sub fun a ha => ?_) h3' (.cons h2' r2) nd3 (fun a ha => (List.mem_append.mp ha).elim (fun h => ok2.dz a (h5' a (List.mem_append_right _ h))) (dz2 a)) ⟨h1, gv⟩
  simp only [List.mem_append] at ha ⊢
  rcases ha with h | h | h
  · exact .inl (h5' a (List.mem_append_left _ h))
  · exact .inl (h5' a (List.mem_append_right _ h))
  · exact .inr h
theorem mCallB {x : Str} {p pos : Pos} {e : Expr} {es : List Expr} {id : String} {r : List V → Hp → VK → Prop} {ts : List T} {gb : List (Option Nat)} {o : List D → Option D} {f : LM} (hc : CallR X (.builtin id) r) (hs : CalS X.K r ts .sh o) (ht : ts.all (· == .sh) = true) (hg : Gl X x) (hm : X.mg x = none) (hv : bootBuiltins x = some (.builtin id))
    (ha : PA X (e :: es) (aM X.K Γ Γ' ts gb f)) (hn : x ≠ "__name__" := by decide) (hdb : (x == ("__debug__" : Str)) = false := by decide)
    (he : starEach (e :: es) X.env = (false, eval e X.env) :: starEach es X.env := by rfl) (hpl : (backTo pos (starEach es X.env)).any (·.1) = false := by rfl) : PE X (.Call (.Name x p) (e :: es) [] pos) (tM X.K Γ Γ' .sh (xLM o f)) :=
  (pe_callB hc hg hm hv ha hn hdb he hpl).imp fun _ _ _ => pLM hs ht
end
end Pv

set_option Elab.async false
set_option linter.all false
set_option maxRecDepth 100000
/-! Pv19: while; truth; own lists read by a pure part; a dict of one key; list(d), extend, sum, is; pairs with a part of one's own. -/
namespace Pv
open PySem PySem.Spec PyProof.Rows L2
/-! ### while -/
def whileL (c : BF) (b : SF) : Nat → List D → Option Out
  | 0, _ => none
  | n + 1, δ => (c δ).bind fun k => if k then (b δ).bind fun o => match o with
    | .nx δ' => whileL c b n δ'
    | .ct δ' => whileL c b n δ'
    | .bk δ' => some (.nx δ')
    | .rt d δ' => some (.rt d δ') else some (.nx δ)
def fuelD : Nat := 1000000000
def sWhile (c : BF) (b : SF) : SF := whileL c b fuelD
/-! ### truth -/
def truD : D → Option Bool
  | .none => some false
  | .bool b => some b
  | .int i => some (i != 0)
  | .list ds => some (!ds.isEmpty)
  | .tuple ds => some (!ds.isEmpty)
  | _ => none
def bTr (f : EF) : BF := fun δ => (f δ).bind truD
def xFlat (f : EF) : EF := fun δ => (f δ).bind fun d => if flatD d then some d else none
def xDict1 (fk fv : EF) : EF := fun δ => (fk δ).bind fun k => (fv δ).bind fun v => if (ikey k).isSome then some (.dict [(k, v)]) else none
def oLstD : List D → Option D
  | [d] => (dictOf d).bind fun p => if p.1 then none else some (.list (p.2.map Prod.fst))
  | _ => none
def xExt (i : Nat) (f : EM) : EM := fun δ => (f δ).bind fun p => match p.1 with
  | .list ys => (getL p.2 i).bind fun ds => if ds.length + ys.length ≤ sizeLine then some (.none, p.2.set i (.list (ds ++ ys))) else none
  | _ => none
def intsD : List D → Option (List Int)
  | [] => some []
  | .int i :: ds => (intsD ds).map (i :: ·)
  | _ :: _ => none
def oSum : List D → Option D
  | [.list ds] => (intsD ds).map fun ns => .int ns.sum
  | _ => none
def dIsB : D → D → Option D
  | .bool a, .bool b => some (.bool (decide (a = b)))
  | _, _ => none
def dNotB : D → D → Option D
  | .bool a, .bool b => some (.bool (!decide (a = b)))
  | _, _ => none
def mkPr : List D → Option D
  | [a, b] => some (.tuple [a, b])
  | _ => none
def sUnpPr (i j : Nat) (f : EM) : SF := fun δ => (f δ).bind fun p => match p.1 with
  | .tuple [a, b] => some (.nx ((p.2.set i a).set j b))
  | _ => none
section
variable {K : PySem.W.Frag} {X : Cx} {Γ Γ' Γ1 Γ2 Γ3 : List T} {H H' H1 H2 H3 : Hp} {Z Z' Z1 Z2 Z3 : FzT} {F F' F1 F2 : List Addr} {σ σ' σ1 : L2.St} {δ δ' : List D} {en eb ec er : List T} {et : T} {W W' : Ends}
theorem zWhile {c : Expr} {body : List Stmt} {pos : Pos} {cf : BF} {b : SF} (hp : PassesOwn (model X.prog X.w) X.A X.env X.xe) (hc : PT X c (bP X.K Γ cf)) (hb : PSs X body (tS X.K Γ ⟨Γ, Γ, Γ, er, et⟩ b)) :
    PS X (.While c body [] pos) (tS X.K Γ ⟨Γ, eb, ec, er, et⟩ (sWhile cf b)) := (ps_while hp hc hb).imp fun W σ H ⟨δ, Z, F, out, ok, e, p⟩ => by
  refine ⟨fun m σi Hi => ∃ δi Zi Fi, Ok X.K Γ σi δi Hi Zi Fi ∧ whileL cf b m δi = some out ∧ Stp H Z F Hi Zi Fi ∧ Fix er σ σi, ⟨fuelD, δ, Z, F, ok, e, .refl, .refl _ _⟩, fun m σi Hi ⟨δi, Zi, Fi, oki, ei, si, fi⟩ => ?_⟩
  cases m with
  | zero => cases ei
  | succ m =>
    obtain ⟨k, ek, e2⟩ := Option.bind_eq_some_iff.mp ei
    refine ⟨δi, Zi, Fi, k, oki, ek, fun H1 Z1 s1 => ?_⟩
    cases k with
    | true =>
      rw [if_pos rfl] at e2
      rw [if_pos rfl]
      obtain ⟨o, eo, e3⟩ := Option.bind_eq_some_iff.mp e2
      refine ⟨fun σ' H' => ∃ δ' Z' F', Ok X.K Γ σ' δ' H' Z' F' ∧ whileL cf b m δ' = some out ∧ Stp H Z F H' Z' F' ∧ Fix er σ σ', fun σ' H' q => ⟨m, Nat.lt_succ_self m, q⟩, δi, Z1, Fi, o, oki.ext s1, eo, ?_⟩
      have s4 : Stp H Z F H1 Z1 Fi := si.trans s1.stp
      cases o with
      | nx δ' => exact fun σ' H' Z' F' s' o' fx => ⟨δ', Z', F', o', e3, s4.trans s', fi.trans fx⟩
      | ct δ' => exact fun σ' H' Z' F' s' o' fx => ⟨δ', Z', F', o', e3, s4.trans s', fi.trans fx⟩
      | bk δ' => cases e3; exact fun σ' H' Z' F' s' o' fx => p σ' H' Z' F' (s4.trans s') o' (fi.trans fx)
      | rt d δ' => cases e3; exact fun v σ' H' Z' F' g s' o' fx r nd dz => p v σ' H' Z' F' g (s4.trans s') o' (fi.trans fx) r nd dz
    | false =>
      rw [if_neg Bool.false_ne_true] at e2
      rw [if_neg Bool.false_ne_true]
      cases e2
      exact p σi H1 Z1 Fi (si.trans s1.stp) (oki.ext s1) fi
def truT : T → Bool
  | .sh => true
  | .ol .sh => true
  | _ => false
theorem len_empty {α β : Type} {xs : List α} {ds : List β} (h : xs.length = ds.length) : xs.isEmpty = ds.isEmpty := by
  cases xs <;> cases ds <;> simp_all
theorem tru_rep {t : T} {v : V} {d : D} {g : List Addr} {k : Bool} (ht : truT t = true) (r : Rep K H Z t v d g) (e : truD d = some k) : TruV K v H k := by
  have fin : ∀ {d : D}, Sh K H Z v d → truD d = some k → TruV K v H k := fun {d} s e => by
    cases s with
    | non => cases e; exact rfl
    | bl b => cases e; exact rfl
    | int i => cases e; exact rfl
    | lst z r0 => cases e; exact .inl ⟨_, z.sql, by rw [len_empty r0.len]⟩
    | tup h r0 => cases e; exact .inr (.inl ⟨_, SqT.of h, by rw [len_empty r0.len]⟩)
    | _ => cases e
  cases r with
  | no => cases ht
  | sh s => exact fin s e
  | @ol u _ _ _ _ h r => cases e; exact .inl ⟨_, SqL.of h, by rw [len_empty (Rep.len r)]⟩
  | _ => cases ht
theorem qTruth {t : T} {f : EF} {a : Expr} (ht : truT t = true) (ha : PE X a (tP X.K Γ t f)) (he : ∀ whole, isTrue a X.env whole = (do let v ← whole; standAt a.pos; holding [v] (truthy v)) := by intro _; rfl) : PT X a (bP X.K Γ (bTr f)) :=
  (pt_truth ha he).imp fun σ H Q ⟨δ, Z, F, b, ok, e, k⟩ => by
  obtain ⟨d, e1, e2⟩ := Option.bind_eq_some_iff.mp e
  exact ⟨δ, Z, F, d, ok, e1, fun v H1 Z1 g s1 r1 => ⟨b, tru_rep ht r1 e2, k H1 Z1 s1⟩⟩
/-! ### a list of one's own, seen as if it stayed -/
theorem Ok.frzAt {i : Nat} {t : T} (ok : Ok K Γ σ δ H Z F) (ht : Γ[i]? = some t) (hf : t.full = true) : ∃ Z2 F2, Ok K (Γ.set i .sh) σ δ H Z2 F2 := by
  have hn : t ≠ .no := fun z => by rw [z] at hf; cases hf
  have hi : i < Γ.length := (List.getElem?_eq_some_iff.mp ht).1
  obtain ⟨d, hd⟩ : ∃ d, δ[i]? = some d := ⟨δ[i]'(by rw [ok.env.len.2]; exact hi), by simp [ok.env.len.2, hi]⟩
  obtain ⟨v, F', g, h1, h2, h3, h4, h5⟩ := ok.take ht hn hd
  have o1 := h3.freeze h4 h2.mu
  have sh : Sh K H (zu Z g) v d := h2.frz (fun _ => .inl) hf fun _ => .inr
  obtain ⟨F2, o2, sb⟩ := o1.set (i := i) (t := .sh) (v := v) (d := d) (g := []) (by simpa using hi) (.sh sh) (by simpa using o1.nd) (fun _ q => nomatch q)
  rw [set_self h1, set_self hd, List.set_set] at o2
  exact ⟨_, F2, o2⟩
theorem Ext.back (ok : Ok K Γ σ δ H Z F) (s : Ext H Z1 H' Z1') : Ext H Z H' Z :=
  ⟨s.keep, fun _ h => h, (fun _ q => nomatch q), fun _ h => .inl h, s.live, fun _ h => .inl h⟩
theorem qBorrow (i : Nat) {t : T} {f : BF} {c : Expr} (ht : Γ[i]? = some t) (hf : t.full = true) (h : PT X c (bP X.K (Γ.set i .sh) f)) : PT X c (bP X.K Γ f) := h.imp fun σ H Q ⟨δ, Z, F, b, ok, e, k⟩ => by
  obtain ⟨Z2, F2, o2⟩ := ok.frzAt ht hf
  exact ⟨δ, Z2, F2, b, o2, e, fun H' Z' s => k H' Z (s.back ok)⟩
theorem Sh.flat {v : V} {d : D} (h : Sh K H Z v d) (f : flatD d = true) : Sh K H' Z' v d := by
  cases h with
  | non => exact .non
  | bl b => exact .bl b
  | int i => exact .int i
  | str x => exact .str x
  | _ => cases f
theorem cBorrow (i : Nat) {t : T} {f : EF} {c : Expr} (ht : Γ[i]? = some t) (hf : t.full = true) (h : PE X c (tP X.K (Γ.set i .sh) .sh f)) : PE X c (tP X.K Γ .sh (xFlat f)) := h.imp fun σ H Q ⟨δ, Z, F, d, ok, e, k⟩ => by
  obtain ⟨Z2, F2, o2⟩ := ok.frzAt ht hf
  obtain ⟨d', e1, e2⟩ := Option.bind_eq_some_iff.mp e
  split at e2
  · rename_i hfl
    cases e2
    exact ⟨δ, Z2, F2, d, o2, e1, fun v H' Z' g s r => k v H' Z [] (s.back ok) (.sh (r.shOf.1.flat hfl))⟩
  · cases e2
/-! ### {k: v} -/
theorem cDict1 {a b : Expr} {pos : Pos} {fk fv : EF} (ha : PE X a (tP X.K Γ .sh fk)) (hb : PE X b (tP X.K Γ .sh fv)) : PE X (.Dict [some a] [b] pos) (tC X.K Γ (.dk .sh) (xDict1 fk fv)) :=
  (pe_disp (pps_cons ha hb pps_nil) rfl rfl (fun z => nomatch z) (by simp)).imp fun σ H Q ⟨δ, Z, F, d, ok, e, kq⟩ => by
  obtain ⟨x, ex, e⟩ := Option.bind_eq_some_iff.mp e
  obtain ⟨y, ey, e⟩ := Option.bind_eq_some_iff.mp e
  split at e
  · rename_i hk
    cases e
    obtain ⟨ky, hky⟩ := Option.isSome_iff_exists.mp hk
    have ek := ikey_eq hky
    subst ek
    intro p hp
    have s0 : Ext H Z (upd H p (.dK [])) Z := Ext.new hp
    have ok0 := ok.ext s0
    refine ⟨δ, Z, F, kD ky, ok0, ex, fun v H1 Z1 g1 s1 r1 => ⟨δ, Z1, F, y, ok0.ext s1, ey, fun w H2 Z2 g2 s2 r2 => ?_⟩⟩
    obtain ⟨rs, rfl⟩ := r2.shOf
    obtain rfl := r1.shOf.1.keyK
    have s12 : Ext (upd H p (.dK [])) Z H2 Z2 := s1.trans s2
    have hp2 : H2 p = some (.dK []) := s12.keep p _ upd_same (by simp)
    have nz : ¬ Z2 p := fun z => by
      rcases s12.frz p z with h | h | h
      · exact ok.zs p h hp
      · exact nomatch h
      · rw [upd_same] at h; cases h
    have su : Stp H2 Z2 [p] (upd H2 p (.dK [(ky, w)])) Z2 [p] := Stp.upd (by simp)
    have mu : Mu H2 [p] := fun x hx => by simp only [List.mem_singleton] at hx; subst hx; exact ⟨_, hp2, rfl⟩
    have dz : ∀ x ∈ [p], ¬ Z2 x := fun x hx => by simp only [List.mem_singleton] at hx; rw [hx]; exact nz
    have rs' := rs.step su mu dz
    show H2 p = some (.dK []) ∧ _
    refine ⟨hp2, [(ky, w)], rfl, by simp, ?_⟩
    have em : mergeK [] [(ky, w)] = [(ky, w)] := rfl
    rw [em]
    refine kq (.ref p) _ Z2 [p] ((s0.trans s12).updNew hp) (.dk (kvs := [(ky, w)]) upd_same rfl (ShA.repA (.cons rs' .nil))) (by simp) fun a ha => ?_
    have ea : a = p := by simpa using ha
    subst ea
    exact ⟨hp, nz⟩
  · cases e
/-! ### list(d) -/
theorem cLstD {e : Expr} {t : T} {f : LF} {p pos : Pos} (hc : X.calm = true) (hg : Gl X "list") (hm : X.mg "list" = none) (ht : isDct t = true) (ha : PA X [e] (aP X.K Γ [t] f)) (he : starEach [e] X.env = (false, eval e X.env) :: starEach [] X.env := by rfl) :
    PE X (.Call (.Name "list" p) [e] [] pos) (tC X.K Γ (.ol .sh) (xL oLstD f)) :=
  (pe_callTy (call_listD hc) hg hm boot_list ha (by decide) (by decide) he (by rfl)).imp fun σ H Q ⟨δ, Z, F, d, ok, e, k⟩ => by
  obtain ⟨ds, e1, e2⟩ := Option.bind_eq_some_iff.mp e
  refine ⟨δ, Z, F, ds, ok, e1, fun vs H1 Z1 g s1 en => ?_⟩
  unfold oLstD at e2
  split at e2
  · rename_i dx
    obtain ⟨⟨b, kvd⟩, e3, e4⟩ := Option.bind_eq_some_iff.mp e2
    obtain ⟨v, g', rfl, r⟩ := vs1t (fun z => by rw [z] at ht; cases ht) en
    cases b with
    | true => cases e4
    | false =>
      replace e4 : some (PyData.list (kvd.map Prod.fst)) = some d := e4
      cases e4
      have key : ∃ (a : Addr) (kvs : List (Key × V)), v = .ref a ∧ Rd H1 a (.dK kvs) ∧ kvd.map Prod.fst = kvs.map (fun p => kD p.1) := by
        unfold isDct at ht
        split at ht
        · obtain ⟨r', _⟩ := r.shOf
          cases r' with
          | @dk a od kvs kvd' z h ek r' =>
            obtain ⟨_, rfl⟩ := dictOf_dk ek e3
            exact ⟨a, kvs, rfl, .inr ⟨od, h⟩, ek⟩
          | dt z h ek r' => cases e3
          | _ => cases e3
        · cases r with
          | @dk _ a kvs kvd' f h ek r =>
            obtain ⟨_, rfl⟩ := dictOf_dk ek e3
            exact ⟨a, kvs, rfl, .inl h, ek⟩
        · cases r with
          | dt h ek r => cases e3
        · cases ht
      obtain ⟨a, kvs, rfl, hr, ek⟩ := key
      refine ⟨a, kvs, rfl, hr, fun l hl => k (.ref l) _ Z1 [l] (s1.trans (Ext.new hl)) (.ol upd_same ?_) (by simp) fun x hx => ?_⟩
      · rw [ek]
        have e3 : (kvs.map fun kv => kV kv.1) = (kvs.map Prod.fst).map kV := by rw [List.map_map]; rfl
        have e4 : (kvs.map fun kv => kD kv.1) = (kvs.map Prod.fst).map kD := by rw [List.map_map]; rfl
        rw [e3, e4]
        exact sha_kD.repA
      · have ea : x = l := by simpa using hx
        subst ea
        exact ⟨Same.free s1.same hl, fun hz => (ok.ext s1).zs x hz hl⟩
  · cases e2
/-! ### x.extend(ys) -/
theorem mExt (i : Nat) {c : Expr} {f : EM} (h : PE X c (tBM X.K "list" rExtend (tVar i) (tCons (tM X.K Γ Γ' (.ol .sh) f) tNil))) (ht : Γ[i]? = some (.ol .sh)) (ht' : Γ'[i]? = some (.ol .sh)) : PE X c (tM X.K Γ Γ' .sh (xExt i f)) :=
  h.imp fun σ H Q ⟨δ, Z, F, d, δ', ok, e, k⟩ => by
  obtain ⟨⟨y, δ1⟩, e1, e2⟩ := Option.bind_eq_some_iff.mp e
  cases y with
  | list es =>
    obtain ⟨ds, e3, e4⟩ := Option.bind_eq_some_iff.mp e2
    split at e4
    · rename_i hlt
      cases e4
      obtain ⟨a0, xs0, hv, hH⟩ := recv ok ht
      refine ⟨.ref a0, hv, .inl ⟨rfl, xs0, SqL.of hH⟩, δ, Z, F, .list es, δ1, ok, e1, fun v H1 Z1 F1 g1 s1 ok1 r1 nd1 dz1 => ?_⟩
      obtain ⟨a, xs, fs, F2, hv', ha, ra, o2, nd2, sb2⟩ := ok1.opn ht' (getL_eq e3)
      rw [hv] at hv'
      have ea : a0 = a := by simpa using hv'
      subst ea
      obtain ⟨b, zs, ds', gs, rfl, e5, rfl, hb, rb⟩ := ofList r1
      cases e5
      obtain ⟨sa, rfl⟩ := ra.shA
      obtain ⟨sb, rfl⟩ := rb.shA
      have dz4 : ∀ x ∈ [a0], ¬ Z1 x := fun x hx => by simp only [List.mem_singleton] at hx; rw [hx]; exact ok1.dz a0 (sb2 a0 (by simp))
      have su : Stp H1 Z1 [a0] (upd H1 a0 (.lst (xs ++ zs))) Z1 [a0] := Stp.upd (by simp)
      have mu : Mu H1 [a0] := Mu.one ha
      have rN : RepA X.K (upd H1 a0 (.lst (xs ++ zs))) Z1 .sh (xs ++ zs) (ds ++ es) [] := ((sa.app sb).step su mu dz4).repA
      obtain ⟨F3, o3, sb3⟩ := o2.put ht' hv ha nd2 dz4 rN
      refine ⟨a0, b, xs, zs, rfl, rfl, ha, hb, by rw [sa.len, sb.len]; exact hlt, k .non _ Z1 F3 [] ?_ o3 (.sh .non) (by simpa using o3.nd) (fun _ q => nomatch q)⟩
      have h1 : a0 ∈ F1 ++ [b] := List.mem_append_left _ (sb2 a0 (by simp))
      exact (s1.trans (Stp.upd h1)).sub fun x hx => List.mem_append_left _ (sb2 x (sb3 x (by simpa using hx)))
    · cases e4
  | _ => cases e2
/-! ### sum -/
theorem ints_V : ∀ {xs : List V} {ds : List D} {ns : List Int}, ShA K H Z xs ds → intsD ds = some ns → xs = ns.map V.int
  | _, _, _, .nil, e => by cases e; rfl
  | _, _, _, .cons h r, e => by
    unfold intsD at e
    split at e
    · rename_i h0; cases h0
    · rename_i i ds' h0
      cases h0
      obtain ⟨ns', e1, e2⟩ := Option.map_eq_some_iff.mp e
      subst e2
      rw [h.intOf, ints_V r e1]
      rfl
    · cases e
theorem sum_s {t : T} (ht : seqT t = true) : CalS K (rSum K) [t] .sh oSum := by
  intro H Z vs ds d g Q en e k
  unfold oSum at e
  split at e
  · rename_i es
    obtain ⟨ns, e1, e2⟩ := Option.map_eq_some_iff.mp e
    cases e2
    obtain ⟨v, g', rfl, r⟩ := vs1t (fun z => by rw [z] at ht; cases ht) en
    have key : ∃ a xs, v = .ref a ∧ SqL K H a xs ∧ ShA K H Z xs es := by
      cases r with
      | no => cases ht
      | sh h => cases h with | lst z r => exact ⟨_, _, rfl, z.sql, r⟩
      | @ol u _ _ _ _ h r =>
        cases u with
        | sh => exact ⟨_, _, rfl, SqL.of h, r.shA.1⟩
        | _ => cases ht
    obtain ⟨a, xs, rfl, hq, sa⟩ := key
    obtain rfl := ints_V sa e1
    exact ⟨a, ns, rfl, hq, k _ H Z [] .refl (.sh (.int _))⟩
  · cases e
/-! ### is of bools -/
theorem isB_s : OpS K rIsB .sh .sh .sh dIsB := by
  intro H Z x y dx dy d f g Q rx ry e k
  unfold dIsB at e
  split at e
  · rename_i a b
    cases e
    obtain ⟨rfl, _⟩ := toB_sh rx.shOf.1 rfl
    obtain ⟨rfl, _⟩ := toB_sh ry.shOf.1 rfl
    exact ⟨a, b, rfl, rfl, k _ H Z [] .refl (.sh (.bl _))⟩
  · cases e
theorem notB_s : OpS K rNotB .sh .sh .sh dNotB := by
  intro H Z x y dx dy d f g Q rx ry e k
  unfold dNotB at e
  split at e
  · rename_i a b
    cases e
    obtain ⟨rfl, _⟩ := toB_sh rx.shOf.1 rfl
    obtain ⟨rfl, _⟩ := toB_sh ry.shOf.1 rfl
    exact ⟨a, b, rfl, rfl, k _ H Z [] .refl (.sh (.bl _))⟩
  · cases e
/-! ### pairs with a part of one's own -/
theorem mPr {x1} {es : List Expr} {pos : Pos} {s t : T} {gb : List (Option Nat)} {f : LM} (h : PA X es (aM X.K Γ Γ' [s, t] gb f)) (hs : s ≠ .no := by decide) (ht : t ≠ .no := by decide) : PE X (.Tuple es x1 pos) (tM X.K Γ Γ' (.pr s t) (xLM mkPr f)) :=
  (pe_tup h).imp fun σ H Q ⟨δ, Z, F, d, δ', ok, e, k⟩ => by
    obtain ⟨⟨ds, δ1⟩, eds, e⟩ := Option.bind_eq_some_iff.mp e
    obtain ⟨d', e', e''⟩ := Option.map_eq_some_iff.mp e
    cases e''
    replace e' : mkPr ds = some d := e'
    unfold mkPr at e'
    split at e'
    · rename_i da db
      cases e'
      refine ⟨δ, Z, F, _, δ1, ok, eds, fun vs H1 Z1 F1 g s1 ok1 r1 nd1 dz1 gv => ?_⟩
      have l := r1.len.1
      match vs, l, r1 with
      | [v, w], _, r1 =>
        cases r1 with
        | no => exact absurd rfl hs
        | @cons _ _ _ _ _ _ ga gr ra rr =>
          cases rr with
          | no => exact absurd rfl ht
          | @cons _ _ _ _ _ _ gb' gr' rb rr =>
            cases rr
            rw [List.append_nil] at *
            refine ⟨by have : 100000 < sizeLine := by decide
                       show 2 ≤ sizeLine; omega, fun p hp => ?_⟩
            exact k _ _ Z1 F1 (ga ++ gb') (s1.trans (Ext.stp (Ext.new hp))) (ok1.ext (Ext.new hp)) (.pr upd_same (ra.ext (Ext.new hp)) (rb.ext (Ext.new hp))) nd1 dz1
    · cases e'
theorem zUnpPr {i j : Nat} {x y : Str} {px py pt pos : Pos} {kk : Nat} {e : Expr} {s t : T} {f : EM} (hc : X.calm = true) (hN : X.N.Nodup) (hi : X.N[i]? = some x) (hj : X.N[j]? = some y) (hx : Loc X.env.scope x) (hy : Loc X.env.scope y)
    (he : PE X e (tM X.K Γ Γ' (.pr s t) f)) (hli : i < Γ'.length) (hlj : j < Γ'.length) (hr : noIx er [i, j] = true)
    (hfx : X.fn x = true ∨ X.env.scope.names.lookup x = some .local := by first | exact .inl rfl | exact .inr rfl | assumption) (hfy : X.fn y = true ∨ X.env.scope.names.lookup y = some .local := by first | exact .inl rfl | exact .inr rfl | assumption)
    (hs : swapsWithSole [.Tuple [.Name x px, .Name y py] kk pt] e pos.line X.env = pure false := by rfl) (hw : swappedStores [.Tuple [.Name x px, .Name y py] kk pt] e X.env = pure none := by rfl)
    (h1 : (assignEach [.Tuple [.Name x px, .Name y py] kk pt] X.env).map (·.2) = [assign (.Tuple [.Name x px, .Name y py] kk pt) X.env] := by rfl)
    (h2 : (assignEach [.Name x px, .Name y py] X.env).map (·.2) = assign (.Name x px) X.env :: (assignEach [.Name y py] X.env).map (·.2) := by rfl) (h3 : (assignEach [.Name y py] X.env).map (·.2) = assign (.Name y py) X.env :: (assignEach [] X.env).map (·.2) := by rfl)
    (h4 : (assignEach [.Name x px, .Name y py] X.env).length = 2 := by rfl) (h5 : (assignEach [.Name x px, .Name y py] X.env).findIdx? (·.1) = none := by rfl) :
    PS X (.Assign [.Tuple [.Name x px, .Name y py] kk pt] e pos) (tS X.K Γ ⟨(Γ'.set i s).set j t, eb, ec, er, et⟩ (sUnpPr i j f)) :=
  (ps_asg he (pg_tup hc (pgs_cons (pg_name hN hi hx hfx) (pgs_cons (pg_name hN hj hy hfy) pgs_nil h3) h2) h4 h5) hs hw h1).imp fun W σ H ⟨δ, Z, F, out, ok, e, p⟩ => by
  obtain ⟨⟨d, δ'⟩, e1, e2⟩ := Option.bind_eq_some_iff.mp e
  have e3 : ∃ a b, d = .tuple [a, b] ∧ out = .nx ((δ'.set i a).set j b) := by
    dsimp only at e2
    split at e2
    · cases e2; exact ⟨_, _, rfl, rfl⟩
    · cases e2
  obtain ⟨a, b, rfl, rfl⟩ := e3
  · skip
    refine ⟨δ, Z, F, _, δ', ok, e1, fun v H' Z' F' g s o r nd dz => ?_⟩
    cases r with
    | @pr _ _ ad vx vy _ _ ga gb ht ra rb =>
      have nd' : ((F' ++ ga) ++ gb).Nodup := by rw [List.append_assoc]; exact nd
      obtain ⟨F1, o1, sb1⟩ := o.set hli ra (List.nodup_append.mp nd').1 fun a h => dz a (List.mem_append_left _ h)
      have nd2 : (F1 ++ gb).Nodup := nodup_app o1.nd (List.nodup_append.mp nd').2.1 fun a h1 h2 => nd_apart nd' a h1 (sb1 a h2)
      obtain ⟨F2, o2, sb2⟩ := o1.set (by rw [List.length_set]; exact hlj) rb nd2 fun a h => dz a (List.mem_append_right _ h)
      refine ⟨ad, [vx, vy], rfl, SqT.of ht, rfl, vx, [vy], rfl, vy, [], rfl, rfl, p _ H' Z' F2 (s.sub fun a h => ?_) o2 (fix_ix hr fun k hk => ?_)⟩
      · rcases List.mem_append.mp (sb2 a h) with h | h
        · have := sb1 a h
          simp only [List.mem_append] at this ⊢
          rcases this with h | h
          · exact .inl h
          · exact .inr (.inl h)
        · simp only [List.mem_append]
          exact .inr (.inr h)
      · rw [List.getElem?_set_ne (fun z => hk (by simp [z])), List.getElem?_set_ne (fun z => hk (by simp [z]))]
end
end Pv

set_option Elab.async false
set_option linter.all false
set_option maxRecDepth 100000
/-! Pv20: exceptions of own classes with two fields: raise, a def that raises, try .. except X as e, e.f. -/
namespace Pv
open PySem PySem.Spec PyProof.Rows L2
abbrev XD := List (Str × D)
abbrev RF := List D → Option (XD × List D)
/-- what the dict of an exception holds -/
def Xd (K : PySem.W.Frag) (H : Hp) (Z : FzT) (fs : List (Str × V)) (xs : XD) : Prop := ∀ p ∈ xs, ∃ v, fs.lookup p.1 = some v ∧ Sh K H Z v p.2
/-- a statement that raises -/
def rS (K : PySem.W.Frag) (C : Addr) (Γ Γx : List T) (Wx : WX) (f : RF) : TS := fun _ σ H => ∃ δ Z F xs δ', Ok K Γ σ δ H Z F ∧ f δ = some (xs, δ') ∧
  ∀ σ' d H' Z' F' fs, Stp H Z F H' Z' F' → Ok K Γx σ' δ' H' Z' F' → H' d = some (.xd fs) → Z' d → Xd K H' Z' fs xs → Wx (.ref C) (some d) σ' H'
structure RS where
  ps : List T
  f : List D → Option XD
/-- a def that raises -/
def spR (K : PySem.W.Frag) (C : Addr) (S : RS) : Sp := fun vs H _ E => ∃ ds Z F xs, Ok K S.ps (vs.map some) ds H Z F ∧ S.f ds = some xs ∧
  ∀ d H' Z' F' fs, Stp H Z F H' Z' F' → H' d = some (.xd fs) → Z' d → Xd K H' Z' fs xs → E (.ref C) (some d) H'
/-- an own __init__ that keeps its two arguments -/
def spI (C : Addr) (f1 f2 : Str) : Sp := fun vs H Q _ => ∃ a v w, vs = [.ref a, v, w] ∧ H a = some (exo a C none) ∧
  ∀ d, H d = none → d ≠ a → Q .non (upd (upd (upd H d (exd d [(f1, v)])) a (exo a C (some d))) d (exd d ((f2, w) :: [(f1, v)])))
/-! ### the shapes -/
def rfR (f1 f2 : Str) (fa : LF) : RF := fun δ => (fa δ).bind fun ds => match ds with | [d1, d2] => some ([(f1, d1), (f2, d2)], δ) | _ => none
def rfC (f : List D → Option XD) (fa : LF) : RF := fun δ => (fa δ).bind fun ds => (f ds).map (·, δ)
def rfCons (g : SF) (r : RF) : RF := fun δ => (g δ).bind fun o => match o with | .nx δ' => r δ' | _ => none
def rfIf (c : BF) (r s : RF) : RF := fun δ => (c δ).bind fun k => if k then r δ else s δ
def rfNo : RF := fun _ => none
def rfOr (r s : RF) : RF := fun δ => match r δ with | some x => some x | none => s δ
def fnR (nl : Nat) (r : RF) : List D → Option XD := fun ds => (r (ds ++ List.replicate nl .none)).map (·.1)
def sTry (i : Nat) (g : SF) (r : RF) (su : SF) : SF := fun δ => match g δ with
  | some o => some o
  | none => (r δ).bind fun p => (su (p.2.set i (exD p.1))).bind fun o => match o with
    | .nx δ' => some (.nx δ')
    | .rt d δ' => some (.rt d δ')
    | _ => none
def dFld (n : Str) : D → Option D
  | .dict kv => (kv.find? fun p => match p.1 with | .str x => x == n | _ => false).map (·.2)
  | _ => none
section
variable {K : PySem.W.Frag} {X : Cx} {Γ Γ' Γ1 Γ2 Γ3 Γx : List T} {H H' H1 H2 H3 : Hp} {Z Z' Z1 Z2 Z3 : FzT} {F F' F1 F2 : List Addr} {σ σ' σ1 : L2.St} {δ δ' : List D} {en eb ec er : List T} {et : T} {W : WX} {C : Addr}
theorem _root_.L2.PSs.or {st : List Stmt} {t t' : TS} (h : PSs X st t) (h' : PSs X st t') : PSs X st (fun D σ H => t D σ H ∨ t' D σ H) := ⟨fun pins s σ H D I q => q.elim (fun q => h.run pins s σ H D I q) fun q => h'.run pins s σ H D I q⟩
/-! ### __init__ -/
theorem ok_init {P : Program} {w : World} {mg : Str → Option Value} {base : Heap} {x qual s0 p1 p2 f1 f2 : Str} {st : Stmt} {f : Addr} {fd : FuncData} (Fu : Fun K x qual st f fd) (Sc : FnScope [s0, p1, p2] [s0, p1, p2] (defScope st)) (T : OexC K C)
    (n1 : PySem.W.findIn K (.ref C) f1 = some none) (n2 : PySem.W.findIn K (.ref C) f2 = some none)
    (body : ∀ (cdv : Value) (A : Around) (outer : List PySem.Env) (s : Shared) (H : Hp) (E : XK), Room 0 (A.deeper (envOfC qual (defScope st) s.heap.objs.size f cdv)) →
      PSs (cxOf CX0 P w K mg base [s0, p1, p2] qual (defScope st) f cdv A outer s H E).nox (defBody st) (tSeq (tOst K f1 (tVar 0) (tVar 1)) (tOst K f2 (tVar 0) (tVar 2)))) :
    FnOk P w K mg base CX0 1 f fd [s0, p1, p2] (spI C f1 f2) := by
  refine Fu.ok Sc (fun vs H Q E h => ?_) (fun cdv A outer s H vs Q E hr h => ?_)
  · obtain ⟨a, v, w, rfl, _⟩ := h
    rfl
  · obtain ⟨a, v, w, rfl, ha, hq⟩ := h
    refine ⟨_, body cdv A outer s H E hr, ?_⟩
    refine ⟨v, rfl, .ref a, rfl, a, C, rfl, T, n1, .inl ⟨ha, fun dx hd hne => ?_⟩⟩
    exact ⟨w, rfl, .ref a, rfl, a, C, rfl, T, n2, .inr ⟨dx, [(f1, v)], upd_same, by rw [upd_ne hne, upd_same], by simp, hq dx hd hne⟩⟩
/-! ### raise -/
theorem rRaise {x f1 f2 s0 p1 p2 : Str} {k : Nat} {fI : Addr} {fd : FuncData} {e1 e2 : Expr} {p pos pos' : Pos} {fa : LF} (hc : X.calm = true) (tk : Takes X W) (T : OexC X.K C) (iC : PySem.W.findIn X.K (.ref C) "__init__" = some (some (.ref fI))) (tI : PySem.W.typeIn X.K (.ref fI) = some (.type "function"))
    (F1 : FnOk X.prog X.w X.K X.mg X.base CX0 k fI fd [s0, p1, p2] (spI C f1 f2)) (hr : Room (k + 1) X.A) (hb : Binds X.K fd [s0, p1, p2] []) (hg : Gl X x) (hm : X.mg x = some (.ref C)) (ha : PA X [e1, e2] (aP X.K Γ [.sh, .sh] fa)) (hne : (f1 == f2) = false := by decide)
    (hdb : (x == ("__debug__" : Str)) = false := by decide) (he : starEach (e1 :: [e2]) X.env = (false, eval e1 X.env) :: starEach [e2] X.env := by rfl) (hpl : (backTo pos (starEach [e2] X.env)).any (·.1) = false := by rfl) :
    PS X (.Raise (some (.Call (.Name x p) [e1, e2] [] pos)) none pos') (rS X.K C Γ Γ W (rfR f1 f2 fa)) :=
  (ps_raise hc tk (pmk_oex (pos := pos) (p := p) T iC tI F1 hr hb .nil pass0 hg hm ha hdb he hpl)).imp fun D σ H ⟨δ, Z, F, xs, δ', ok, e, k⟩ => by
  obtain ⟨ds, ed, e⟩ := Option.bind_eq_some_iff.mp e
  refine ⟨δ, Z, F, ds, ok, ed, fun vs H1 Z1 g s1 r1 => ?_⟩
  split at e
  · rename_i d1 d2
    cases e
    obtain ⟨v, w, rfl, sv, sw⟩ := vs2 r1
    refine ⟨by simp, fun a ha => ⟨a, v, w, rfl, upd_same, fun d hd hna => ⟨rfl, d, [(f2, w), (f1, v)], by rw [upd_ne (fun z => hna z.symm), upd_same], upd_same, by rw [upd_ne hna] at hd; exact hd, ?_⟩⟩⟩
    rw [upd_ne hna] at hd
    have eh : upd (L2.del (upd (upd (upd (upd H1 a (exo a C none)) d (exd d [(f1, v)])) a (exo a C (some d))) d (exd d [(f2, w), (f1, v)])) a) d (.xd [(f2, w), (f1, v)]) = upd H1 d (.xd [(f2, w), (f1, v)]) := by
      funext b
      by_cases hb : b = d
      · subst hb; rw [upd_same, upd_same]
      · rw [upd_ne hb, upd_ne hb]
        by_cases hba : b = a
        · subst hba; rw [L2.del_same]; exact ha.symm
        · rw [L2.del_ne hba, upd_ne hb, upd_ne hba, upd_ne hb, upd_ne hba]
    rw [eh]
    have s2 : Ext H1 Z1 (upd H1 d (.xd [(f2, w), (f1, v)])) (fun x => Z1 x ∨ x = d) := Ext.newZ hd
    have s3 := s1.trans s2
    refine k σ d _ _ F [(f2, w), (f1, v)] s3.stp (ok.ext s3) upd_same (.inr rfl) fun p hp => ?_
    simp only [List.mem_cons, List.not_mem_nil, or_false] at hp
    rcases hp with rfl | rfl
    · exact ⟨v, by simp [List.lookup, hne], sv.ext s2⟩
    · exact ⟨w, by simp [List.lookup], sw.ext s2⟩
  · cases e
/-! ### blocks -/
theorem rCons {st : Stmt} {rest : List Stmt} {g : SF} {r : RF} (h1 : PS X st (tS X.K Γ ⟨Γ1, [], [], [], .no⟩ g)) (h2 : PSs X rest (rS X.K C Γ1 Γx W r)) : PSs X (st :: rest) (rS X.K C Γ Γx W (rfCons g r)) := (pss_cons h1 h2).imp fun D σ H ⟨δ, Z, F, xs, δ', ok, e, k⟩ => by
  obtain ⟨o, e1, e2⟩ := Option.bind_eq_some_iff.mp e
  cases o with
  | nx δ1 =>
    refine ⟨δ, Z, F, .nx δ1, ok, e1, fun σ' H' Z' F' s o fx => ⟨δ1, Z', F', xs, δ', o, e2, fun σ2 d H2 Z2 F2 fs s2 o2 => k σ2 d H2 Z2 F2 fs (s.trans s2) o2⟩⟩
  | _ => cases e2
theorem rOne {st : Stmt} {rest : List Stmt} {r : RF} (h1 : PS X st (rS X.K C Γ Γx W r)) : PSs X (st :: rest) (rS X.K C Γ Γx W r) := (pss_cons h1 (pss_never (X := X) (sts := rest))).imp fun D σ H h => h
theorem rOneW {st : Stmt} {rest : List Stmt} {r : RF} (h1 : PS X st (rS X.K C Γ Γ1 W r)) (hw : wk Γ1 Γx = true) : PSs X (st :: rest) (rS X.K C Γ Γx W r) := (rOne (rest := rest) h1).imp fun D σ H ⟨δ, Z, F, xs, δ', ok, e, k⟩ =>
  ⟨δ, Z, F, xs, δ', ok, e, fun σ' d H' Z' F' fs s o => by
    obtain ⟨F2, o2, sb⟩ := o.weak hw
    exact k σ' d H' Z' F2 fs (s.sub fun a h => sb.subset h) o2⟩
theorem rOr {sts : List Stmt} {r s : RF} (h1 : PSs X sts (rS X.K C Γ Γx W r)) (h2 : PSs X sts (rS X.K C Γ Γx W s)) : PSs X sts (rS X.K C Γ Γx W (rfOr r s)) := (h1.or h2).imp fun D σ H ⟨δ, Z, F, xs, δ', ok, e, k⟩ => by
  unfold rfOr at e
  split at e
  · rename_i x ex
    cases e
    exact .inl ⟨δ, Z, F, xs, δ', ok, ex, k⟩
  · exact .inr ⟨δ, Z, F, xs, δ', ok, e, k⟩
theorem rIf {c : Expr} {a b : List Stmt} {pos : Pos} {cf : BF} {r s : RF} (hc : PT X c (bP X.K Γ cf)) (ha : PSs X a (rS X.K C Γ Γx W r)) (hb : PSs X b (rS X.K C Γ Γx W s)) : PS X (.If c a b pos) (rS X.K C Γ Γx W (rfIf cf r s)) := (ps_if hc ha hb).imp fun D σ H ⟨δ, Z, F, xs, δ', ok, e, k⟩ => by
  obtain ⟨q, e1, e2⟩ := Option.bind_eq_some_iff.mp e
  refine ⟨δ, Z, F, q, ok, e1, fun H1 Z1 s1 => ?_⟩
  cases q with
  | true => exact ⟨δ, Z1, F, xs, δ', ok.ext s1, e2, fun σ2 d H2 Z2 F2 fs s2 o2 => k σ2 d H2 Z2 F2 fs (s1.stp.trans s2) o2⟩
  | false => exact ⟨δ, Z1, F, xs, δ', ok.ext s1, e2, fun σ2 d H2 Z2 F2 fs s2 o2 => k σ2 d H2 Z2 F2 fs (s1.stp.trans s2) o2⟩
theorem rNever {sts : List Stmt} : PSs X sts (rS X.K C Γ Γx W rfNo) := pss_never.imp fun D σ H ⟨δ, Z, F, xs, δ', ok, e, k⟩ => nomatch e
/-! ### calls that raise -/
theorem rc_of {S : RS} {fa : LF} {Q : VK} (h1 : S.ps.all (· == .sh) = true) {ok : Ok K Γ σ δ H Z F} {ds : List D} {xs : XD} (e : S.f ds = some xs) {vs : List V} {g : List Addr} (s1 : Ext H Z H1 Z1) (r1 : Env K H1 Z1 S.ps (vs.map some) ds g)
    (k : ∀ σ' d H' Z' F' fs, Stp H Z F H' Z' F' → Ok K Γ σ' δ H' Z' F' → H' d = some (.xd fs) → Z' d → Xd K H' Z' fs xs → W (.ref C) (some d) σ' H') : spR K C S vs H1 Q (WE W σ) := by
  have eg := r1.shs h1
  subst eg
  refine ⟨ds, Z1, [], xs, ⟨r1, .nil, (fun _ q => nomatch q), (ok.ext s1).zs⟩, e, fun d H' Z' F' fs s hd hz hx => ?_⟩
  have s2 : Ext H Z H' Z' := s1.trans (s.sub fun _ q => nomatch q)
  exact k σ d H' Z' F fs s2.stp (ok.ext s2) hd hz hx
section
variable {k : Nat} {f : Addr} {fd : FuncData} {ps : List Str} {S : RS} {x : Str} {p pos : Pos} {e : Expr} {es : List Expr} {fa : LF}
theorem pe_callR (Fn : FnOk X.prog X.w X.K X.mg X.base (L2.CX X.prog X.w) k f fd ps (spR X.K C S)) (hr : Room k X.A) (hg : Gl X x) (hm : X.mg x = some (.ref f)) (hk : PySem.W.keepIn X.K (.ref f) = true) (hb : Binds X.K fd ps []) (tk : Takes X W)
    (ha : PA X (e :: es) (aP X.K Γ S.ps fa)) (hdb : (x == ("__debug__" : Str)) = false := by decide) (he : starEach (e :: es) X.env = (false, eval e X.env) :: starEach es X.env := by rfl) (hpl : (backTo pos (starEach es X.env)).any (·.1) = false := by rfl) :
    PE X (.Call (.Name x p) (e :: es) [] pos) (tCallS (spR X.K C S) (WE W) (aP X.K Γ S.ps fa)) := pe_callS Fn hr hg hm hk hb (fun σ => passAt tk σ) ha hdb he hpl
theorem rc_ts {t : TE} {Q : VK} (h1 : S.ps.all (· == .sh) = true) (h : ∃ δ Z F xs δ', Ok K Γ σ δ H Z F ∧ rfC S.f fa δ = some (xs, δ') ∧
    ∀ σ' d H' Z' F' fs, Stp H Z F H' Z' F' → Ok K Γ σ' δ' H' Z' F' → H' d = some (.xd fs) → Z' d → Xd K H' Z' fs xs → W (.ref C) (some d) σ' H') : tCallS (spR K C S) (WE W) (aP K Γ S.ps fa) σ H Q := by
  obtain ⟨δ, Z, F, xs, δ', ok, e, k⟩ := h
  obtain ⟨ds, e1, e2⟩ := Option.bind_eq_some_iff.mp e
  obtain ⟨xs', e3, e4⟩ := Option.map_eq_some_iff.mp e2
  cases e4
  exact ⟨δ, Z, F, ds, ok, e1, fun vs H1 Z1 g s1 r1 => rc_of (ok := ok) (fa := fa) h1 e3 s1 r1 k⟩
/-- f(..) -/
theorem rExpr {c : Expr} {pos' : Pos} (h1 : S.ps.all (· == .sh) = true) (hc : PE X c (tCallS (spR X.K C S) (WE W) (aP X.K Γ S.ps fa))) (hs : swapsWith c none pos'.line X.env = pure false := by rfl) : PS X (.Expr c pos') (rS X.K C Γ Γ W (rfC S.f fa)) :=
  (ps_expr hc hs).imp fun D σ H h => rc_ts (t := fun _ _ _ => False) h1 h
/-- y = f(..) -/
theorem rSet {i : Nat} {y : Str} {c : Expr} {pos1 pos2 : Pos} (hN : X.N.Nodup) (hi : X.N[i]? = some y) (hx : Loc X.env.scope y) (h1 : S.ps.all (· == .sh) = true) (hc : PE X c (tCallS (spR X.K C S) (WE W) (aP X.K Γ S.ps fa)))
    (hs : swapsWith c (some (.Name y pos2)) pos1.line X.env = pure false := by rfl) (hf : X.fn y = true ∨ X.env.scope.names.lookup y = some .local := by first | exact .inl rfl | exact .inr rfl | assumption) :
    PS X (.Assign [.Name y pos2] c pos1) (rS X.K C Γ Γ W (rfC S.f fa)) := (ps_set hN hi hx hc hs hf).imp fun D σ H h => rc_ts (t := fun _ _ _ => False) h1 h
/-- return f(..) -/
theorem rRet {c : Expr} {pos' : Pos} (h1 : S.ps.all (· == .sh) = true) (hc : PE X c (tCallS (spR X.K C S) (WE W) (aP X.K Γ S.ps fa))) : PS X (.Return (some c) pos') (rS X.K C Γ Γ W (rfC S.f fa)) := (ps_ret hc).imp fun D σ H h => rc_ts (t := fun _ _ _ => False) h1 h
end
/-- THE RULE for a def that raises -/
theorem fn_raise {P : Program} {w : World} {mg : Str → Option Value} {base : Heap} {x qual : Str} {st : Stmt} {f : Addr} {fd : FuncData} {N ps : List Str} {k nl : Nat} {S : RS} {g : RF}
    (Fu : Fun K x qual st f fd) (Sc : FnScope N ps (defScope st)) (hp : S.ps.length = ps.length) (hN : N.length = ps.length + nl) (hf : S.f = fnR nl g)
    (body : ∀ (cdv : Value) (A : Around) (outer : List PySem.Env) (s : Shared) (H : Hp) (E : XK), Room k (A.deeper (envOfC qual (defScope st) s.heap.objs.size f cdv)) → Takes (cxOf (L2.CX P w) P w K mg base N qual (defScope st) f cdv A outer s H E) (fun cls d _ H => E cls d H) →
      PSs (cxOf (L2.CX P w) P w K mg base N qual (defScope st) f cdv A outer s H E) (defBody st) (rS K C (S.ps ++ List.replicate nl .no) Γx (fun cls d _ H => E cls d H) g)) :
    FnOk P w K mg base (L2.CX P w) (k + 1) f fd ps (spR K C S) := by
  refine Fu.okX Sc (fun vs H Q E h => ?_) (fun cdv A outer s H vs Q E hr h => ?_)
  · obtain ⟨ds, Z, F, xs, ok, _⟩ := h
    have := ok.env.len.1
    rw [List.length_map] at this
    omega
  · obtain ⟨ds, Z, F, xs, ok, e, k⟩ := h
    have lv : vs.length = ps.length := by
      have := ok.env.len.1
      rw [List.length_map] at this
      omega
    rw [hf] at e
    obtain ⟨⟨xs', δ'⟩, e1, e2⟩ := Option.map_eq_some_iff.mp e
    cases e2
    refine ⟨_, body cdv A outer s H E hr (takes_of rfl rfl rfl rfl), ds ++ List.replicate nl .none, Z, F, xs', δ', ⟨?_, ok.nd, ok.dz, ok.zs⟩, e1, fun σ' d H' Z' F' fs s o hd hz hx => k d H' Z' F' fs s hd hz hx⟩
    have hs : L2.start N vs = vs.map some ++ List.replicate nl none := by
      unfold L2.start
      rw [show N.length - vs.length = nl by omega]
    rw [hs]
    exact ok.env.pad nl
/-! ### try .. except X as e -/
theorem Ok.gone {i : Nat} (o : Ok K Γ σ δ H Z F) (hi : Γ[i]? = some .no) : Ok K Γ (σ.set i none) δ H Z F := o.agree (by simp) fun j t h n => by
  by_cases e : i = j
  · subst e
    rw [hi] at h
    cases h
    exact absurd rfl n
  · rw [List.getElem?_set_ne e]
theorem fix_no (h : er.all (· == .no) = true) : Fix er σ σ' := fun i t hi n => by
  have := List.all_eq_true.mp h t (List.mem_of_getElem? hi)
  exact absurd (by simpa using this) n
/-- within the suite of a caught exception -/
def CaughtC (Y : Cx) (C a dd : Addr) : Prop := ∃ (X : Cx) (oe : Obj) (pn : List (Addr × Obj)), Y = X.suite a ((a, oe) :: pn) ∧ Zc (.ref C) (some dd) oe ∧ ∃ vs, oe.data = .fields vs
theorem zTryAs {i : Nat} {x n : Str} {body suite : List Stmt} {b₀ : Stmt} {np pos pos' : Pos} {g su : SF} {r : RF} (hs : X.stack = X.env :: X.outer) (hf : X.env.frame = some X.env.locals) (hN : X.N.Nodup) (hi : X.N[i]? = some n) (hln : X.env.kindOf n = some .local) (hc : Names X x (.ref C))
    (he : PySem.W.exmOne X.K (.ref C) (.ref C) = some true) (hl : i < Γ.length) (hno : Γ1[i]? = some .no) (hr : er.all (· == .no) = true)
    (hb : ∀ (pn : List (Addr × Obj)) (xe : Value → Shared → Prop), PassesOwn (model X.prog X.w) X.A X.env xe → PSs (X.tr pn xe) body (tS X.K Γ ⟨Γ1, eb, ec, er, et⟩ g))
    (hb2 : ∀ (W : WX) (pn : List (Addr × Obj)) (xe : Value → Shared → Prop), Takes (X.tr pn xe) W → PassesOwn (model X.prog X.w) X.A X.env xe → PSs (X.tr pn xe) body (rS X.K C Γ Γ W r))
    (hsu : ∀ (a dd : Addr) (oe : Obj) (pn : List (Addr × Obj)), CaughtC (X.suite a ((a, oe) :: pn)) C a dd → PSs (X.suite a ((a, oe) :: pn)) (b₀ :: suite) (tS X.K (Γ.set i (.ex a dd)) ⟨Γ1, eb, ec, er, et⟩ su)) :
    PS X (.Try body [.ExceptHandler (some (.Name x np)) (some n) (b₀ :: suite) pos'] [] [] pos) (tS X.K Γ ⟨Γ1, eb, ec, er, et⟩ (sTry i g r su)) :=
  (ps_try_as (tb := fun W D σ H => tS X.K Γ ⟨Γ1, eb, ec, er, et⟩ g D σ H ∨ rS X.K C Γ Γ W r D σ H) (ts := fun a cls d D σ H => ∃ dd, cls = .ref C ∧ d = some dd ∧ tS X.K (Γ.set i (.ex a dd)) ⟨Γ1, eb, ec, er, et⟩ su D σ H) (Wout := fun _ _ _ _ => False) hs hf hN hi hln hc takes0
    (fun W pn xe tk hp => (hb pn xe hp).or (hb2 W pn xe tk hp)) (fun a oe cls d pn hz hv => ⟨fun pins s σ H D I ⟨dd, e1, e2, h⟩ => by subst e1; subst e2; exact (hsu a dd oe pn ⟨X, oe, pn, rfl, hz, hv⟩).run pins s σ H D I h⟩)).imp fun D σ H ⟨δ, Z, F, out, ok, e, p⟩ => by
  unfold sTry at e
  split at e
  · rename_i o eg
    cases e
    exact .inl ⟨δ, Z, F, _, ok, eg, p⟩
  · obtain ⟨⟨xs, δ'⟩, e1, e2⟩ := Option.bind_eq_some_iff.mp e
    obtain ⟨o, e3, e4⟩ := Option.bind_eq_some_iff.mp e2
    refine .inr ⟨δ, Z, F, xs, δ', ok, e1, fun σ' d H' Z' F' fs s o' hd hz hx => ⟨true, he, fun _ a ha => ?_, fun z => nomatch z⟩⟩
    obtain ⟨F2, o2, sb⟩ := o'.set (i := i) (t := .ex a d) (v := .ref a) (d := exD xs) (g := []) hl (.ex hz hd hx) (by simpa using o'.nd) (fun _ q => nomatch q)
    refine ⟨d, rfl, rfl, δ'.set i (exD xs), Z', F2, o, o2, e3, ?_⟩
    have s2 : Stp H Z F H' Z' F2 := s.sub fun a h => by simpa using sb a h
    cases o with
    | nx δ1 => cases e4; exact fun σ3 H3 Z3 F3 s3 o3 fx => p (σ3.set i none) H3 Z3 F3 (s2.trans s3) (o3.gone hno) (fix_no hr)
    | rt d1 δ1 => cases e4; exact fun v σ3 H3 Z3 F3 g3 s3 o3 fx r3 nd dz => p v σ3 H3 Z3 F3 g3 (s2.trans s3) o3 (fix_no hr) r3 nd dz
    | _ => cases e4
/-- e.f, in the suite -/
theorem cXf {Y : Cx} {a dd : Addr} {i : Nat} {n nm : Str} {p0 pos : Pos} (T : XfC Y.K C) (hno : PySem.W.findIn Y.K (.ref C) n = some none) (hz : CaughtC Y C a dd)
    (hv : PE Y (.Name nm p0) (tVar i)) (ht : Γ[i]? = some (.ex a dd)) (hb : attributeBase (.Name nm p0) n Y.env (eval (.Name nm p0) Y.env) = eval (.Name nm p0) Y.env := by rfl) :
    PE Y (.Attribute (.Name nm p0) n pos) (tP Y.K Γ .sh (x1 (dFld n) (xV i))) := by
  obtain ⟨X, oe, pn, rfl, hz, hf⟩ := hz
  refine (pe_xf T hno hz hf hv hb).imp fun σ H Q ⟨δ, Z, F, d, ok, e, k⟩ => ?_
  obtain ⟨y, e1, e2⟩ := Option.bind_eq_some_iff.mp e
  obtain ⟨v, g, h1, h2, _⟩ := ok.env.get ht (fun z => nomatch z) e1
  cases h2 with
  | @ex _ _ fs xs z h kx =>
    refine ⟨.ref a, h1, rfl, rfl, dd, fs, ?_⟩
    replace e2 : ((xs.map fun p => ((PyData.str p.1, p.2) : D × D)).find? fun p => match p.1 with | .str x => x == n | _ => false).map (·.2) = some d := e2
    obtain ⟨q, q1, q2⟩ := Option.map_eq_some_iff.mp e2
    have q3 := List.find?_some q1
    obtain ⟨p, hp, rfl⟩ := List.mem_map.mp (List.mem_of_find?_eq_some q1)
    have en : p.1 = n := by simpa using q3
    obtain ⟨u, hu, su⟩ := kx p hp
    rw [en] at hu
    cases q2
    exact ⟨u, rfl, h, hu, k u H Z [] .refl (.sh su)⟩
end
end Pv

set_option Elab.async false
set_option linter.all false
set_option maxRecDepth 100000
/-! Pv21: t + u, t[a:b], x += e, dicts by a comprehension, min, len of a dict, is None, xs.index. -/
namespace Pv
open PySem PySem.Spec PyProof.Rows L2
/-! ### the shapes -/
def dPlus : D → D → Option D
  | .tuple a, .tuple b => if a.length + b.length ≤ sizeLine then some (.tuple (a ++ b)) else none
  | x, y => dAdd x y
def dAddI : D → D → Option D
  | .int i, .int j => some (.int (i + j))
  | _, _ => none
def cutD (ds : List D) (lo hi : Option Int) : List D := (ds.drop (HT.sIx ds.length 0 lo)).take (HT.sIx ds.length ds.length hi - HT.sIx ds.length 0 lo)
abbrev OF := List D → Option (Option Int)
def oNo : OF := fun _ => some none
def oInt1 (f : EF) : OF := fun δ => (f δ).bind fun d => match d with | .int i => some (some i) | _ => none
def xSlT (f : EF) (lo hi : OF) : EF := fun δ => (f δ).bind fun d => match d with
  | .tuple ds => (lo δ).bind fun l => (hi δ).bind fun h => some (.tuple (cutD ds l h))
  | _ => none
def dcL (tg : D → List D → Option (List D)) (kf vf : EF) (δ : List D) : List D → List (D × D) → Option (List (D × D))
  | [], acc => some acc
  | d :: ds, acc => (tg d δ).bind fun δ1 => (kf δ1).bind fun k => (vf δ1).bind fun v => if (ikey k).isSome && decide (acc.length < sizeLine) then dcL tg kf vf δ ds (putD acc k v) else none
def xDc (src : LF) (tg : D → List D → Option (List D)) (kf vf : EF) : EF := fun δ => (src δ).bind fun ds => (dcL tg kf vf δ ds []).map .dict
def minI : List Int → Option Int
  | [] => none
  | [n] => some n
  | n :: ns => (minI ns).map fun m => if n ≤ m then n else m
def oMin : List D → Option D
  | [.list ds] => (intsD ds).bind fun ns => (minI ns).map .int
  | _ => none
def oMin2 : List D → Option D
  | [.int i, .int j] => some (.int (if j < i then j else i))
  | _ => none
def oLenD : List D → Option D
  | [d] => (dictOf d).bind fun p => if p.1 then none else some (.int p.2.length)
  | _ => none
def isNoneD : D → Bool
  | .none => true
  | _ => false
def dIsN : D → D → Option D
  | x, .none => some (.bool (isNoneD x))
  | _, _ => none
def dNotN : D → D → Option D
  | x, .none => some (.bool (!isNoneD x))
  | _, _ => none
def dIndex : D → D → Option D
  | .list ds, y => if flatD y && ds.all flatD then (ds.findIdx? fun z => PyData.eqv z y).map fun (n : Nat) => .int n else none
  | _, _ => none
def xMth (o : D → D → Option D) (f g : EF) : EF := x2 o f g
section
variable {K : PySem.W.Frag} {X : Cx} {Γ Γ' Γ1 Γ2 Γ3 : List T} {H H' H1 H2 H3 : Hp} {Z Z' Z1 Z2 Z3 : FzT} {F F' F1 F2 : List Addr} {σ σ' σ1 : L2.St} {δ δ' : List D} {en eb ec er : List T} {et : T}
/-! ### t + u -/
theorem op_plus : OpR X (binaryOp .Add) (fun x y H Q => rCatA X.K x y H Q ∨ rAdd' x y H Q) := op_catA.or op_add'
theorem plus_s : OpS K (fun x y H Q => rCatA K x y H Q ∨ rAdd' x y H Q) .sh .sh .sh dPlus := by
  intro H Z x y dx dy d f g Q rx ry e k
  unfold dPlus at e
  split at e
  · rename_i as bs
    split at e
    · rename_i hz
      cases e
      obtain ⟨qx, _⟩ := rx.shOf
      obtain ⟨qy, _⟩ := ry.shOf
      cases qx with
      | @tup a xs _ hx ra =>
        cases qy with
        | @tup b ys _ hy rb =>
          refine .inl ⟨a, b, xs, ys, rfl, rfl, SqT.of hx, SqT.of hy, by rw [ra.len, rb.len]; exact hz, fun e => ?_, fun _ e => ?_, fun _ _ p hp => ?_⟩
          · have : as = [] := List.length_eq_zero_iff.mp (by rw [← ra.len, e]; rfl)
            subst this
            exact k _ H Z [] .refl (.sh (.tup hy rb))
          · have : bs = [] := List.length_eq_zero_iff.mp (by rw [← rb.len, e]; rfl)
            subst this
            rw [List.append_nil] at k
            exact k _ H Z [] .refl (.sh (.tup hx ra))
          · exact k _ _ Z [] (Ext.new hp) (.sh (.tup upd_same ((ra.app rb).ext (Ext.new hp))))
    · cases e
  · exact .inr (add_s H Z x y dx dy d f g Q rx ry e k)
/-! ### slices of tuples -/
def oP (K : PySem.W.Frag) (Γ : List T) (f : OF) : TO := fun σ H Q => ∃ δ Z F o, Ok K Γ σ δ H Z F ∧ f δ = some o ∧ ∀ H' Z', Ext H Z H' Z' → Q o H'
theorem _root_.L2.PO.imp {e : Option Expr} {t t' : TO} (h : PO X e t) (i : ∀ σ H Q, t' σ H Q → t σ H Q) : PO X e t' := ⟨fun pins s σ H Q I q => h.run pins s σ H Q I (i _ _ _ q)⟩
theorem oNone : PO X none (oP X.K Γ oNo) := po_none.imp fun σ H Q ⟨δ, Z, F, o, ok, e, k⟩ => by cases e; exact k H Z .refl
theorem oSome {e : Expr} {f : EF} (h : PE X e (tP X.K Γ .sh f)) : PO X (some e) (oP X.K Γ (oInt1 f)) := (po_some h).imp fun σ H Q ⟨δ, Z, F, o, ok, e, k⟩ => by
  obtain ⟨d, e1, e2⟩ := Option.bind_eq_some_iff.mp e
  refine ⟨δ, Z, F, d, ok, e1, fun v H1 Z1 g s1 r1 => ?_⟩
  split at e2
  · rename_i i
    cases e2
    exact ⟨i, r1.shOf.1.intOf, k H1 Z1 s1⟩
  · cases e2
theorem sha_cut {xs : List V} {ds : List D} (lo hi : Option Int) (r : ShA K H Z xs ds) : ShA K H Z (cutV xs lo hi) (cutD ds lo hi) := by
  have dr : ∀ {xs : List V} {ds : List D} (n : Nat), ShA K H Z xs ds → ShA K H Z (xs.drop n) (ds.drop n) := by
    intro xs ds n r
    induction n generalizing xs ds with
    | zero => exact r
    | succ n ih => cases r with | nil => exact .nil | cons h r => exact ih r
  have tk : ∀ {xs : List V} {ds : List D} (n : Nat), ShA K H Z xs ds → ShA K H Z (xs.take n) (ds.take n) := by
    intro xs ds n r
    induction n generalizing xs ds with
    | zero => exact .nil
    | succ n ih => cases r with | nil => exact .nil | cons h r => exact .cons h (ih r)
  unfold cutV cutD
  rw [r.len]
  exact tk _ (dr _ r)
theorem cSl {e : Expr} {lo hi : Option Expr} {f : EF} {fl fh : OF} {p2 pos : Pos} (he : PE X e (tP X.K Γ .sh f)) (hl : PO X lo (oP X.K Γ fl)) (hh : PO X hi (oP X.K Γ fh)) : PE X (.Subscript e (.Slice lo hi none p2) pos) (tP X.K Γ .sh (xSlT f fl fh)) :=
  (pe_slice sl_tupA he hl hh).imp fun σ H Q ⟨δ, Z, F, d, ok, e, k⟩ => by
  obtain ⟨dx, e1, e2⟩ := Option.bind_eq_some_iff.mp e
  split at e2
  · rename_i ds
    obtain ⟨l, e3, e4⟩ := Option.bind_eq_some_iff.mp e2
    obtain ⟨h, e5, e6⟩ := Option.bind_eq_some_iff.mp e4
    cases e6
    refine ⟨δ, Z, F, .tuple ds, ok, e1, fun v H1 Z1 g1 s1 r1 => ⟨δ, Z1, F, l, ok.ext s1, e3, fun H2 Z2 s2 => ⟨δ, Z2, F, h, (ok.ext s1).ext s2, e5, fun H3 Z3 s3 => ?_⟩⟩⟩
    obtain ⟨r, _⟩ := (r1.ext (s2.trans s3)).shOf
    have s13 := s1.trans (s2.trans s3)
    cases r with
    | @tup a xs _ hx ra =>
      refine ⟨a, xs, rfl, SqT.of hx, fun hw => ?_, fun hw p hp => ?_⟩
      · have ec : cutD ds l h = ds := by
          unfold cutD
          rw [← ra.len, hw.1, hw.2, Nat.sub_zero, List.drop_zero, ra.len, List.take_length]
        rw [ec] at k
        exact k _ H3 Z3 [] s13 (.sh (.tup hx ra))
      · exact k _ _ Z3 [] (s13.trans (Ext.new hp)) (.sh (.tup upd_same ((sha_cut l h ra).ext (Ext.new hp))))
  · cases e2
/-! ### x += e -/
theorem zAug {i : Nat} {x : Str} {e : Expr} {f : EF} {pos' pos : Pos} (hN : X.N.Nodup) (hi : X.N[i]? = some x) (hx : Loc X.env.scope x) (ht : Γ[i]? = some .sh) (he : PE X e (tP X.K Γ .sh f)) (hr : isNo er i = true)
    (hf : X.fn x = true ∨ X.env.scope.names.lookup x = some .local := by first | exact .inl rfl | exact .inr rfl | assumption) : PS X (.AugAssign (.Name x pos') .Add e pos) (tS X.K Γ ⟨Γ, eb, ec, er, et⟩ (sSet i (x2 dAddI (xV i) f))) :=
  (ps_aug hN hi hx he ip_add hf).imp fun W σ H ⟨δ, Z, F, out, ok, e, p⟩ => by
  obtain ⟨d, e1, e2⟩ := Option.bind_eq_some_iff.mp e
  cases e2
  obtain ⟨y, e3, e4⟩ := Option.bind_eq_some_iff.mp e1
  obtain ⟨z, e5, e6⟩ := Option.bind_eq_some_iff.mp e4
  obtain ⟨v, g, h1, h2, _⟩ := ok.env.get ht (fun q => nomatch q) e3
  refine ⟨v, h1, δ, Z, F, z, ok, e5, fun w H1 Z1 g1 s1 r1 => ?_⟩
  obtain ⟨i', j', rfl, rfl, rfl⟩ : ∃ i' j', y = .int i' ∧ z = .int j' ∧ d = .int (i' + j') := by
    cases y <;> cases z <;> first | (cases e6; exact ⟨_, _, rfl, rfl, rfl⟩) | cases e6
  refine ⟨i', j', h2.shOf.1.intOf, r1.shOf.1.intOf, ?_⟩
  obtain ⟨F2, o2, sb⟩ := (ok.ext s1).set (i := i) (t := .sh) (v := .int (i' + j')) (d := .int (i' + j')) (g := []) (List.getElem?_eq_some_iff.mp ht).1 (.sh (.int _)) (by simpa using ok.nd) (fun _ q => nomatch q)
  have eΓ : Γ.set i .sh = Γ := set_self ht
  rw [eΓ] at o2
  exact p _ H1 Z1 F2 (s1.stp.sub fun a h => by simpa using sb a h) o2 (Fix.set hr)
/-! ### dicts by a comprehension -/
theorem dcC {vs : List Nat} {src : LF} {tgf : D → List D → Option (List D)} {kf vf : EF} (hno : noIx Γ vs = true) : ∀ (σ : L2.St) (H : Hp) (Q : VK), tC K Γ (.dk .sh) (xDc src tgf kf vf) σ H Q → tDc (tIP K Γ src) (tG K Γ Γ1 vs tgf) (bP K Γ1 bYes) (tP K Γ1 .sh kf) (tP K Γ1 .sh vf) vs σ H Q := fun σ H Q ⟨δ, Z, F, d, ok, e, k⟩ => by
  obtain ⟨ds, e1, e2⟩ := Option.bind_eq_some_iff.mp e
  obtain ⟨fin, e3, e4⟩ := Option.map_eq_some_iff.mp e2
  cases e4
  refine ⟨δ, Z, F, ds, ok, e1, fun J H0 Z0 s0 wk D hD => ?_⟩
  obtain ⟨G, Y, walk, hG, hY⟩ := wk
  have ok0 := ok.ext s0
  refine ⟨fun i m Hi => m = ds.length - i ∧ i ≤ ds.length ∧ ∃ Zi acc accD, Ext H0 Z0 Hi Zi ∧ Hi D = some (.dK acc) ∧ accD.map Prod.fst = acc.map (fun p => kD p.1) ∧ ShA K Hi Zi (acc.map Prod.snd) (accD.map Prod.snd) ∧ ¬ Zi D ∧ dcL tgf kf vf δ (ds.drop i) accD = some fin,
    ⟨ds.length, by simp, Nat.zero_le _, Z0, [], [], Ext.new hD, upd_same, rfl, .nil, fun hz => ok0.zs D hz hD, e3⟩, ?_⟩
  rintro i m Hi ⟨rfl, hi, Zi, acc, accD, si, hDi, ek, sa, dz, er⟩
  have gi := hG Hi Zi ⟨[], [], si, Mu.nil, (fun _ q => nomatch q)⟩
  by_cases hlt : i < ds.length
  · refine .inr ⟨walk.goes i Hi hlt gi, fun Hn => ∃ Zi acc accD, Ext H0 Z0 Hn Zi ∧ Hn D = some (.dK acc) ∧ accD.map Prod.fst = acc.map (fun p => kD p.1) ∧ ShA K Hn Zi (acc.map Prod.snd) (accD.map Prod.snd) ∧ ¬ Zi D ∧ dcL tgf kf vf δ (ds.drop (i + 1)) accD = some fin,
      fun H' p' => ⟨ds.length - (i + 1), by omega, rfl, hlt, p'⟩, fun x H3 y => ?_⟩
    obtain ⟨d, hd⟩ : ∃ d, ds[i]? = some d := ⟨ds[i], by simp [hlt]⟩
    obtain ⟨Z3, s3, sx⟩ := hY i Hi Zi x H3 d ⟨[], [], si, Mu.nil, (fun _ q => nomatch q)⟩ (walk.yields i Hi x H3 hlt gi y) hd
    have hdr : ds.drop i = d :: ds.drop (i + 1) := by
      rw [List.drop_eq_getElem_cons hlt]
      have : ds[i] = d := by simpa [hlt] using hd
      rw [this]
    rw [hdr] at er
    obtain ⟨δ1, e5, e6⟩ := Option.bind_eq_some_iff.mp er
    obtain ⟨kd, e7, e8⟩ := Option.bind_eq_some_iff.mp e6
    obtain ⟨vd, e9, e10⟩ := Option.bind_eq_some_iff.mp e8
    split at e10
    · rename_i hc
      rw [Bool.and_eq_true] at hc
      obtain ⟨ky, hky⟩ := Option.isSome_iff_exists.mp hc.1
      have ekd := ikey_eq hky
      subst ekd
      have okw : Ok K Γ (wipe σ vs) δ H3 Z3 F := (ok0.ext (si.trans s3)).agree (wipe_length _ _) fun i t hi n => wipe_out (no_at hno hi n)
      refine ⟨δ, Z3, F, d, δ1, okw, sx, e5, fun σ1 F1 ok1 sb1 l1 j1 => ⟨wipe_eq (l1.trans (wipe_length _ _)) j1, δ1, Z3, F1, true, ok1, rfl, fun H4 Z4 s4 => ?_⟩⟩
      refine (if_pos rfl).mpr ?_
      refine ⟨δ1, Z4, F1, kD ky, ok1.ext s4, e7, fun v H5 Z5 g5 s5 r5 => ⟨δ1, Z5, F1, vd, (ok1.ext s4).ext s5, e9, fun w H6 Z6 g6 s6 r6 => ?_⟩⟩
      have s36 : Ext Hi Zi H6 Z6 := s3.trans (s4.trans (s5.trans s6))
      have hD6 : H6 D = some (.dK acc) := s36.keep D _ hDi (by simp)
      have nDz : ¬ Z6 D := fun hz => by
        rcases s36.frz D hz with q | q | q
        · exact dz q
        · cases q
        · rw [hDi] at q; cases q
      have su : Stp H6 Z6 [D] (upd H6 D (.dK (putK acc ky w))) Z6 [D] := Stp.upd (by simp)
      have mu : Mu H6 [D] := fun x hx => by simp only [List.mem_singleton] at hx; subst hx; exact ⟨_, hD6, rfl⟩
      have dz6 : ∀ x ∈ [D], ¬ Z6 x := fun x hx => by simp only [List.mem_singleton] at hx; rw [hx]; exact nDz
      obtain ⟨p1, p2⟩ := put_rel (k := ky) eqv_kD ek ((sa.ext s36).step su mu dz6) (r6.shOf.1.step su mu dz6)
      have hzl : acc.length < sizeLine := by
        have l1 := congrArg List.length ek
        rw [List.length_map, List.length_map] at l1
        rw [← l1]
        exact of_decide_eq_true hc.2
      exact ⟨acc, ky, r5.shOf.1.keyK, hD6, hzl, Z6, putK acc ky w, putD accD (kD ky) vd, (si.trans s36).updNew hD, upd_same, p1, p2, nDz, e10⟩
    · cases e10
  · have ei : i = ds.length := by omega
    subst ei
    rw [List.drop_length] at er
    cases er
    refine .inl ⟨walk.stops Hi gi, k (.ref D) Hi Zi [D] (s0.trans si) (.dk hDi ek sa.repA) (by simp) fun a ha => ?_⟩
    have ea : a = D := by simpa using ha
    subst ea
    exact ⟨Same.free s0.same hD, dz⟩
theorem cDc {kx vx tg iter : Expr} {scope : Scope} {own : List (Str × Nat)} {pos : Pos} {src : LF} {tgf : D → List D → Option (List D)} {kf vf : EF} (hc : X.calm = true) (hN : X.N.Nodup) (hi : PI X tg iter (tIP X.K Γ src)) (ok : BlkOk X.N X.env.scope scope own)
    (hg : ∀ (s : Shared) (H : Hp) (C : Addr) (cl : List (Str × Addr)) (fp : List Addr), PG (X.blk s H scope (compEnvC scope cl C X.env) fp) tg (tG X.K Γ Γ1 (own.map (·.2)) tgf)) (ht : ∀ (s : Shared) (H : Hp) (C : Addr) (cl : List (Str × Addr)) (fp : List Addr), PTs (X.blk s H scope (compEnvC scope cl C X.env) fp) [] (bP X.K Γ1 bYes))
    (hk : ∀ (s : Shared) (H : Hp) (C : Addr) (cl : List (Str × Addr)) (fp : List Addr), PE (X.blk s H scope (compEnvC scope cl C X.env) fp) kx (tP X.K Γ1 .sh kf)) (he : ∀ (s : Shared) (H : Hp) (C : Addr) (cl : List (Str × Addr)) (fp : List Addr), PE (X.blk s H scope (compEnvC scope cl C X.env) fp) vx (tP X.K Γ1 .sh vf))
    (hno : noIx Γ (own.map (·.2)) = true) (hs : ∀ x, foldedSetIterable iter X.env x = pure x := by intro _; rfl) :
    PE X (.DictComp kx vx [⟨tg, iter, [], 0⟩] scope pos) (tC X.K Γ (.dk .sh) (xDc src tgf kf vf)) := (pe_dc hc hN hi ok hg ht hk he hs).imp (dcC hno)
/-- name = {..} on one line, the name a local -/
theorem ps_setDc {i : Nat} {y : Str} {py : Pos} {kx vx tg iter : Expr} {ifs : List Expr} {scope : Scope} {own : List (Str × Nat)} {pos spos : Pos} {wi : TI} {g : TG} {tt : TT} {tk tv : TE} (hc : X.calm = true) (hN : X.N.Nodup) (hy : X.N[i]? = some y) (hyl : X.env.scope.names.lookup y = some .local)
    (hsw : swapsWith (.DictComp kx vx [⟨tg, iter, ifs, 0⟩] scope pos) (some (.Name y py)) spos.line X.env = pure true) (hi : PI X tg iter wi) (ok : BlkOk X.N X.env.scope scope own)
    (hg : ∀ (s : Shared) (H : Hp) (C : Addr) (cl : List (Str × Addr)) (fp : List Addr), PG (X.blk s H scope (compEnvC scope cl C X.env) fp) tg g) (ht : ∀ (s : Shared) (H : Hp) (C : Addr) (cl : List (Str × Addr)) (fp : List Addr), PTs (X.blk s H scope (compEnvC scope cl C X.env) fp) ifs tt)
    (hk : ∀ (s : Shared) (H : Hp) (C : Addr) (cl : List (Str × Addr)) (fp : List Addr), PE (X.blk s H scope (compEnvC scope cl C X.env) fp) kx tk)
    (he : ∀ (s : Shared) (H : Hp) (C : Addr) (cl : List (Str × Addr)) (fp : List Addr), PE (X.blk s H scope (compEnvC scope cl C X.env) fp) vx tv) (hs : ∀ x, foldedSetIterable iter X.env x = pure x := by intro _; rfl) :
    PS X (.Assign [.Name y py] (.DictComp kx vx [⟨tg, iter, ifs, 0⟩] scope pos) spos) (tAsg (tDc wi g tt tk tv (own.map (·.2))) (gName i)) := by
  refine ⟨fun pins s σ H D I h => ?_⟩
  rw [exec_Assign_Name_used _ _ _ _ hsw]
  refine wpAny_bind (wpAny_standAt (wpAny_bind ?_))
  show wpAny _ X.A (do let _ ← comprehension (.DictComp kx vx [⟨tg, iter, ifs, 0⟩] scope pos) scope X.env (firstIterPos [⟨tg, iter, ifs, 0⟩] pos) newDict false (eval iter X.env) (some (assign (.Name y py) X.env))) _ _ s
  have h : tDc wi g tt tk tv (own.map (·.2)) σ H (fun x H1 => gName i x σ H1 D.nx) := h
  refine wpAny_bind (thn (dc_core (Qf := fun _ s' => SP X pins D .next s') hc hN I hi ok hg ht hk he hs h fun L C s' m H' I' q hn f => ?_) fun _ s' hq => wpAny_pure (wpAny_pure hq))
  show wpAny _ _ (assign (.Name y py) X.env (.ref L)) _ _ _
  refine wpAny_assign_Name (store_ok2 (v := V.ref L) I' hN hy (.inl hyl) rfl (fun s2 I2 ⟨a, sb, ha⟩ => ?_) (.inr hyl))
  obtain ⟨f0, f1, f2, f3, f4, f5⟩ := f
  have haC : C ≠ a := by
    rcases ha with z | z
    · rw [z]; exact f1
    · exact fun e => f4 y a z e.symm
  refine ⟨m, hn.sameBut sb haC, fun h3 sb3 => ?_⟩
  exact ⟨_, H', I2.turned (t' := s2.toks) (fun b o hb e => (sb3.2 b hb).trans e) f0 f1 f3 f4 f5, q⟩
theorem zSetDc {i : Nat} {y : Str} {py : Pos} {kx vx tg iter : Expr} {scope : Scope} {own : List (Str × Nat)} {pos spos : Pos} {src : LF} {tgf : D → List D → Option (List D)} {kf vf : EF} (hc : X.calm = true) (hN : X.N.Nodup) (hy : X.N[i]? = some y) (hyl : X.env.scope.names.lookup y = some .local)
    (hsw : swapsWith (.DictComp kx vx [⟨tg, iter, [], 0⟩] scope pos) (some (.Name y py)) spos.line X.env = pure true) (hi : PI X tg iter (tIP X.K Γ src)) (ok : BlkOk X.N X.env.scope scope own)
    (hg : ∀ (s : Shared) (H : Hp) (C : Addr) (cl : List (Str × Addr)) (fp : List Addr), PG (X.blk s H scope (compEnvC scope cl C X.env) fp) tg (tG X.K Γ Γ1 (own.map (·.2)) tgf)) (ht : ∀ (s : Shared) (H : Hp) (C : Addr) (cl : List (Str × Addr)) (fp : List Addr), PTs (X.blk s H scope (compEnvC scope cl C X.env) fp) [] (bP X.K Γ1 bYes))
    (hk : ∀ (s : Shared) (H : Hp) (C : Addr) (cl : List (Str × Addr)) (fp : List Addr), PE (X.blk s H scope (compEnvC scope cl C X.env) fp) kx (tP X.K Γ1 .sh kf)) (he : ∀ (s : Shared) (H : Hp) (C : Addr) (cl : List (Str × Addr)) (fp : List Addr), PE (X.blk s H scope (compEnvC scope cl C X.env) fp) vx (tP X.K Γ1 .sh vf))
    (hno : noIx Γ (own.map (·.2)) = true) (hl : i < Γ.length) (hr : isNo er i = true) (hs : ∀ x, foldedSetIterable iter X.env x = pure x := by intro _; rfl) :
    PS X (.Assign [.Name y py] (.DictComp kx vx [⟨tg, iter, [], 0⟩] scope pos) spos) (tS X.K Γ ⟨Γ.set i (.dk .sh), eb, ec, er, et⟩ (sSet i (xDc src tgf kf vf))) := by
  rw [sSet_eq]
  refine (ps_setDc hc hN hy hyl hsw hi ok hg ht hk he hs).imp fun W σ H h => post_set (Γ' := Γ) (eb := eb) (ec := ec) (et := et) hl hr (fun Q q => dcC hno σ H Q ?_) h
  obtain ⟨δ, Z, F, d, δ', o, e, k⟩ := q
  unfold mOf at e
  cases q' : xDc src tgf kf vf δ with
  | none => rw [q'] at e; cases e
  | some d' =>
    rw [q'] at e; cases e
    refine ⟨δ, Z, F, d, o, q', fun v H' Z' g s r nd hz => k v H' Z' F g ?_ (o.ext s) r (nodup_app o.nd nd fun a ha hf => o.live hf (hz a ha).1) fun a ha => (hz a ha).2⟩
    exact ⟨s.stp.keep, s.mono, fun a ha => (List.mem_append.mp ha).imp id fun z => (hz a z).1, s.stp.frz, s.live, s.zs⟩
/-- the names of a block, told by one test -/
def blkB (N : List Str) (sc scope : Scope) (own : List (Str × Nat)) : Bool := decide (scope.kind = .function) && (decide (∀ y ∈ scope.names, scope.names.lookup y.1 = some y.2) && (decide (∀ p ∈ own, N[p.2]? = some p.1) &&
  (decide (∀ y ∈ scope.names, y.2 = .free → sc.names.lookup y.1 = some .cell ∨ sc.names.lookup y.1 = some .free) && decide (∀ y ∈ scope.names, y.2 = .local ∨ y.2 = .cell → y.1 ∈ own.map (·.1) ∨ y.1 ∉ N))))
theorem blk_ok {N : List Str} {sc scope : Scope} {own : List (Str × Nat)} (h : blkB N sc scope own = true) : BlkOk N sc scope own := by
  unfold blkB at h
  simp only [Bool.and_eq_true, decide_eq_true_eq] at h
  exact ⟨h.1, h.2.1, h.2.2.1, h.2.2.2.1, h.2.2.2.2⟩
/-- what "except S" takes, at an error of S itself -/
theorem exm_own {K : PySem.W.Frag} {S : Addr} (h1 : PySem.W.subIn K (.ref S) (.type "BaseException") = some true) (h2 : PySem.W.isClsIn K S = true) (h3 : PySem.W.typeIn K (.ref S) = some (.type "type")) (h4 : PySem.W.subIn K (.ref S) (.ref S) = some true) :
    PySem.W.exmOne K (.ref S) (.ref S) = some true := by
  have e1 : (PySem.W.subIn K (.ref S) (.type "BaseException") == some true) = true := by rw [h1] <;> rfl
  have e2 : ((PySem.W.clsIn K S).isSome && PySem.W.typeIn K (.ref S) == some (.type "type")) = true := by
    rw [show (PySem.W.clsIn K S).isSome = true from h2, h3] <;> rfl
  show (if (PySem.W.subIn K (.ref S) (.type "BaseException") == some true) = true then (if ((PySem.W.clsIn K S).isSome && PySem.W.typeIn K (.ref S) == some (.type "type")) = true then PySem.W.subIn K (.ref S) (.ref S) else none) else none) = some true
  rw [if_pos e1, if_pos e2]
  exact h4
/-! ### min -/
theorem minI_mem : ∀ {ns : List Int} {m : Int}, minI ns = some m → m ∈ ns ∧ ∀ y ∈ ns, m ≤ y
  | [n], m, h => by cases h; exact ⟨List.mem_cons_self, fun y hy => by have : y = n := (by simpa using hy); omega⟩
  | n :: n2 :: ns, m, h => by
    have h' : (minI (n2 :: ns)).map (fun m => if n ≤ m then n else m) = some m := h
    obtain ⟨q, q1, q2⟩ := Option.map_eq_some_iff.mp h'
    obtain ⟨h1, h2⟩ := minI_mem q1
    by_cases c : n ≤ q
    · rw [if_pos c] at q2
      subst q2
      refine ⟨List.mem_cons_self, fun y hy => ?_⟩
      rcases List.mem_cons.mp hy with e | e
      · omega
      · have := h2 y e; omega
    · rw [if_neg c] at q2
      subst q2
      refine ⟨List.mem_cons_of_mem _ h1, fun y hy => ?_⟩
      rcases List.mem_cons.mp hy with e | e
      · omega
      · exact h2 y e
theorem min_s {t : T} (ht : seqT t = true) : CalS K (rMin K) [t] .sh oMin := by
  intro H Z vs ds d g Q en e k
  unfold oMin at e
  split at e
  · rename_i es
    obtain ⟨ns, e1, e2⟩ := Option.bind_eq_some_iff.mp e
    obtain ⟨m, e3, e4⟩ := Option.map_eq_some_iff.mp e2
    cases e4
    obtain ⟨v, g', rfl, r⟩ := vs1t (fun z => by rw [z] at ht; cases ht) en
    have key : ∃ a xs, v = .ref a ∧ SqL K H a xs ∧ ShA K H Z xs es := by
      cases r with
      | no => cases ht
      | sh h => cases h with | lst z r => exact ⟨_, _, rfl, z.sql, r⟩
      | @ol u _ _ _ _ h r =>
        cases u with
        | sh => exact ⟨_, _, rfl, SqL.of h, r.shA.1⟩
        | _ => cases ht
    obtain ⟨a, xs, rfl, hq, sa⟩ := key
    obtain rfl := ints_V sa e1
    obtain ⟨m1, m2⟩ := minI_mem e3
    refine ⟨a, ns, rfl, hq, List.length_pos_of_mem m1, fun q q1 q2 => ?_⟩
    have : q = m := by have := q2 m m1; have := m2 q q1; omega
    subst this
    exact k _ H Z [] .refl (.sh (.int _))
  · cases e
theorem min2_s : CalS K (fun xs H Q => ∃ i j, xs = [V.int i, V.int j] ∧ Q (.int (if j < i then j else i)) H) [.sh, .sh] .sh oMin2 := by
  intro H Z vs ds d g Q en e k
  unfold oMin2 at e
  split at e
  · rename_i i j
    cases e
    obtain ⟨v, w, rfl, sv, sw⟩ := vs2 en
    obtain rfl := sv.intOf
    obtain rfl := sw.intOf
    exact ⟨i, j, rfl, k _ H Z [] .refl (.sh (.int _))⟩
  · cases e
/-! ### len of a dict -/
def rLenR : List V → Hp → VK → Prop := fun xs H Q => ∃ (a : Addr) (kvs : List (Key × V)), xs = [.ref a] ∧ Rd H a (.dK kvs) ∧ Q (.int kvs.length) H
theorem cr_lenR : CallR X (.builtin "len") rLenR := by
  intro pins s σ H xs us Q I r h
  obtain ⟨a, kvs, rfl, hd, q⟩ := h
  obtain ⟨u, rfl, ru⟩ := vals1 r
  obtain rfl : u = Value.ref a := ru
  exact d_len I hd fun t s' I' => ⟨.int kvs.length, H, I', ⟨t, rfl⟩, q⟩
theorem lenR_s {t : T} (ht : isDct t = true) : CalS K rLenR [t] .sh oLenD := by
  intro H Z vs ds d g Q en e k
  unfold oLenD at e
  split at e
  · rename_i dx
    obtain ⟨⟨b, kvd⟩, e3, e4⟩ := Option.bind_eq_some_iff.mp e
    obtain ⟨v, g', rfl, r⟩ := vs1t (fun z => by rw [z] at ht; cases ht) en
    cases b with
    | true => cases e4
    | false =>
      replace e4 : some (PyData.int kvd.length) = some d := e4
      cases e4
      have key : ∃ (a : Addr) (kvs : List (Key × V)), v = .ref a ∧ Rd H a (.dK kvs) ∧ kvd.map Prod.fst = kvs.map (fun p => kD p.1) := by
        unfold isDct at ht
        split at ht
        · obtain ⟨r', _⟩ := r.shOf
          cases r' with
          | @dk a od kvs kvd' z h ek r' =>
            obtain ⟨_, rfl⟩ := dictOf_dk ek e3
            exact ⟨a, kvs, rfl, .inr ⟨od, h⟩, ek⟩
          | dt z h ek r' => cases e3
          | _ => cases e3
        · cases r with
          | @dk _ a kvs kvd' f h ek r =>
            obtain ⟨_, rfl⟩ := dictOf_dk ek e3
            exact ⟨a, kvs, rfl, .inl h, ek⟩
        · cases r with
          | dt h ek r => cases e3
        · cases ht
      obtain ⟨a, kvs, rfl, hr, ek⟩ := key
      have l : kvd.length = kvs.length := by
        have := congrArg List.length ek
        rwa [List.length_map, List.length_map] at this
      refine ⟨a, kvs, rfl, hr, ?_⟩
      rw [← l]
      exact k _ H Z [] .refl (.sh (.int _))
  · cases e
/-! ### is None -/
theorem isNone_V {v : V} {d : D} (h : Sh K H Z v d) : decide (v = .non) = isNoneD d := by cases h <;> rfl
theorem isN_s : OpS K (fun x y H Q => y = .non ∧ Q (.bl (decide (x = .non))) H) .sh .sh .sh dIsN := by
  intro H Z x y dx dy d f g Q rx ry e k
  unfold dIsN at e
  split at e
  · cases e
    obtain ⟨ry, _⟩ := ry.shOf
    cases ry
    refine ⟨rfl, ?_⟩
    rw [isNone_V rx.shOf.1]
    exact k _ H Z [] .refl (.sh (.bl _))
  · cases e
theorem notN_s : OpS K (fun x y H Q => y = .non ∧ Q (.bl (!decide (x = .non))) H) .sh .sh .sh dNotN := by
  intro H Z x y dx dy d f g Q rx ry e k
  unfold dNotN at e
  split at e
  · cases e
    obtain ⟨ry, _⟩ := ry.shOf
    cases ry
    refine ⟨rfl, ?_⟩
    rw [isNone_V rx.shOf.1]
    exact k _ H Z [] .refl (.sh (.bl _))
  · cases e
/-! ### xs.index(y) -/
theorem cIndex {c : Expr} {t : T} {f g : EF} (ht : seqT t = true) (h : PE X c (tBM X.K "list" (rIndex X.K) (tP X.K Γ t f) (tCons (tP X.K Γ .sh g) tNil))) : PE X c (tP X.K Γ .sh (x2 dIndex f g)) := h.imp fun σ H Q ⟨δ, Z, F, d, ok, e, k⟩ => by
  obtain ⟨dl, e1, e2⟩ := Option.bind_eq_some_iff.mp e
  obtain ⟨dy, e3, e4⟩ := Option.bind_eq_some_iff.mp e2
  refine ⟨δ, Z, F, dl, ok, e1, fun v H1 Z1 g1 s1 r1 => ?_⟩
  unfold dIndex at e4
  split at e4
  · rename_i ds
    split at e4
    · rename_i hf
      obtain ⟨n, e5, e6⟩ := Option.map_eq_some_iff.mp e4
      cases e6
      rw [Bool.and_eq_true] at hf
      have key : ∀ {H Z}, Rep X.K H Z t v (.list ds) g1 → ∃ a xs, v = .ref a ∧ SqL X.K H a xs ∧ ShA X.K H Z xs ds := fun {H Z} r => by
        cases r with
        | no => cases ht
        | sh h0 => cases h0 with | lst z r => exact ⟨_, _, rfl, z.sql, r⟩
        | @ol u _ _ _ _ h0 r =>
          cases u with
          | sh => exact ⟨_, _, rfl, SqL.of h0, r.shA.1⟩
          | _ => cases ht
      obtain ⟨a, xs, rfl, hq, _⟩ := key r1
      refine ⟨.inl ⟨rfl, xs, hq⟩, δ, Z1, F, dy, ok.ext s1, e3, fun w H2 Z2 g2 s2 r2 => ?_⟩
      obtain ⟨a', xs', ea, hq', sa⟩ := key (r1.ext s2)
      cases ea
      obtain ⟨sw, _⟩ := r2.shOf
      obtain ⟨hn, hp, hmin⟩ := List.findIdx?_eq_some_iff_getElem.mp e5
      have hl := sa.len
      obtain ⟨z, hz, sz⟩ := sa.get (List.getElem?_eq_getElem hn)
      have fl := List.all_eq_true.mp hf.2
      refine ⟨a, xs', w, n, z, rfl, rfl, hq', flat_V sw hf.1, all_flatV sa hf.2, hz, ?_, fun m z' hm hz' => ?_, k _ H2 Z2 [] (s1.trans s2) (.sh (.int _))⟩
      · rw [eqv_flat sz sw (fl _ (List.getElem_mem hn)) hf.1]
        exact hp
      · have hm' : m < ds.length := by omega
        obtain ⟨z2, hz2, sz2⟩ := sa.get (List.getElem?_eq_getElem hm')
        rw [hz'] at hz2
        cases hz2
        rw [eqv_flat sz2 sw (fl _ (List.getElem_mem hm')) hf.1]
        have := hmin m hm
        simpa using this
    · cases e4
  · cases e4
end
end Pv

set_option Elab.async false
set_option linter.all false
set_option maxRecDepth 100000
set_option maxHeartbeats 4000000
/-! Pv22: sorted of a tuple of ints. -/
namespace SrtO
open PySem PyProof.Rows Srt
section
variable {prog : Program} {w : World} {A : Around} {E : Value → Shared → Prop} {s : Shared}
theorem collect_tup {l : Addr} {vs : List Value} {Q : List Value → Shared → Prop} (hl : s.heap.IsTuple l vs.toArray)
    (h : Q vs { s with heap := (s.heap.push (seqObj "list" #[] 0)).update s.heap.objs.size (Obj.mapSeq (· ++ vs.toArray)) }) (hsz : vs.length ≤ sizeLine) :
    wpAny (model prog w) A (collect (.ref l)) Q E s := by
  obtain ⟨o, ho, hc, n, hd⟩ := id hl
  unfold collect
  refine wpAny_bind (wpAny_runValue (codeAny_builtin entry_proto_collect' ?_))
  show wpAny _ _ (do again (.builtin "list.__iadd__" ⟨[← newList [], .ref l], []⟩)) _ _ s
  refine wpAny_bind (wpAny_newList (wpAny_pure ⟨Code.quiet_builtin _ (by decide +kernel), codeAny_builtin entry_list_iadd' ?_⟩))
  show wpAny _ _ (Builtin.List.listExtendWith (.ref s.heap.objs.size) (.ref l) (.ref s.heap.objs.size)) _ _ { s with heap := s.heap.push (seqObj "list" #[] 0) }
  unfold Builtin.List.listExtendWith
  have ho' : (s.heap.push (seqObj "list" #[] 0)).get? l = some o := Heap.get?_push_of_some _ ho
  refine wpAny_bind (wpAny_typeOf (T := "tuple") ⟨o, ho', hc⟩ ?_)
  have ht : (Value.type "tuple" == Value.type "tuple") = true := by rfl
  rw [if_pos (by rw [ht]; simp)]
  refine wpAny_bind (listItems_at ho' hd ?_)
  refine wpAny_bind (listItems_at (xs := #[]) (n := 0) (Heap.get?_push_size _ rfl) rfl ?_)
  rw [if_neg (by simp)]
  refine wpAny_bind (listUpdate_at (xs := #[]) (n := 0) (Heap.get?_push_size _ rfl) rfl ?_ (Nat.zero_le _) (by show (#[] ++ vs.toArray).size ≤ sizeLine + 1; simp only [Array.size_append, List.size_toArray, List.length_nil]; omega))
  refine wpAny_pure ?_
  show wpAny (model prog w) A (do
      let o ← load s.heap.objs.size
      match o.data with
      | .seq xs _ => pure xs.toList
      | _ => unsupported "internal:collect") Q E { s with heap := (s.heap.push (seqObj "list" #[] 0)).update s.heap.objs.size (Obj.mapSeq (· ++ vs.toArray)) }
  refine wpAny_bind (wpAny_load (get?_update_seq (Heap.get?_push_size _ rfl) _) ?_)
  show wpAny _ _ (pure ((#[] : Array Value) ++ vs.toArray).toList) Q E _
  rw [show ((#[] : Array Value) ++ vs.toArray).toList = vs by simp]
  exact wpAny_pure h
theorem sorted_ordT {l : Addr} {vs : List Value} {ltv : Value → Value → Bool} {Q : Value → Shared → Prop} (O : Swo ltv) (hl : s.heap.IsTuple l vs.toArray) (hz : vs.length ≤ sizeLine)
    (hS : 2 ≤ vs.length → ∀ (h₁ : Heap) (a : Addr), h₁.get? a = some (seqObj "list" vs.toArray 0) → (∀ b o, s.heap.get? b = some o → b ≠ a ∧ h₁.get? b = some o) → SortableO prog w A.in1.in1 { s with heap := h₁ } a vs ltv)
    (h : ∀ out : List Value, Srtd ltv out → Stb ltv out vs → Q (.ref (s.heap.objs.size + 1)) { s with heap := sortedAll s.heap vs out.toArray }) :
    wpAny (model prog w) A (call (.builtin "sorted") [.ref l]) Q E s := by
  refine Calls.call_function_entry kind_sorted plain_sorted entry_sorted (args_sorted1 _) ?_
  unfold Builtin.«sorted»
  refine wpAny_bind (m := checkCount "sorted" 1 1 _) (wpAny_pure ?_)
  refine wpAny_bind (collect_tup hl ?_ hz)
  refine wpAny_bind (wpAny_newList ?_ hz)
  have hsz : ((s.heap.push (seqObj "list" #[] 0)).update s.heap.objs.size (Obj.mapSeq (· ++ vs.toArray))).objs.size = s.heap.objs.size + 1 := by
    rw [Heap.size_update, size_push']
  have hoL : (((s.heap.push (seqObj "list" #[] 0)).update s.heap.objs.size (Obj.mapSeq (· ++ vs.toArray))).push (seqObj "list" vs.toArray 0)).get? (s.heap.objs.size + 1) = some (seqObj "list" vs.toArray 0) := by
    rw [← hsz]; exact Heap.get?_push_size _ rfl
  have keep : ∀ b o, s.heap.get? b = some o → b ≠ s.heap.objs.size + 1 ∧ (((s.heap.push (seqObj "list" #[] 0)).update s.heap.objs.size (Obj.mapSeq (· ++ vs.toArray))).push (seqObj "list" vs.toArray 0)).get? b = some o := fun b o q => by
    have hlt : b < s.heap.objs.size := Heap.lt_size q
    refine ⟨Nat.ne_of_lt (Nat.lt_succ_of_lt hlt), Heap.get?_push_of_some _ ?_⟩
    rw [Heap.get?_update_ne _ _ _ _ (Nat.ne_of_lt hlt)]
    exact Heap.get?_push_of_some _ q
  show wpAny _ _ _ _ _ { s with heap := ((s.heap.push (seqObj "list" #[] 0)).update s.heap.objs.size (Obj.mapSeq (· ++ vs.toArray))).push (seqObj "list" vs.toArray 0) }
  rw [hsz]
  refine wpAny_bind (wpAny_holding (wpAny_call_entry slot_list_sort ⟨_, hoL, rfl⟩ entry_list_sort (list_sort_ord O hoL hz (fun h2 => hS h2 _ _ hoL keep) fun out hs hb => ⟨_, rfl, ?_⟩) (args_list_sort _)))
  exact wpAny_pure ⟨_, rfl, h out hs hb⟩
end
end SrtO
namespace Pv
open PySem PySem.Spec PyProof.Rows L2
def rSortedTp (K : PySem.W.Frag) : List V → Hp → VK → Prop := fun vs H Q => ∃ (a : Addr) (ns : List Int), vs = [V.ref a] ∧ SqT K H a (ns.map V.int) ∧
  ∀ (ns' : List Int) (p : Addr), ns'.Perm ns → ns'.Pairwise (· ≤ ·) → H p = none → Q (.ref p) (upd H p (.lst (ns'.map V.int)))
def oSortT : D → Option D
  | .tuple ds => if ds.all isI then some (.list (srtD ds)) else none
  | _ => none
/-- sorted, of a list or of a tuple -/
def oSortA : D → Option D
  | .tuple ds => oSortT (.tuple ds)
  | d => oSorted d
section
variable {X : Cx} {Γ : List T}
theorem cr_sortedTp : CallR X (.builtin "sorted") (rSortedTp X.K) := by
  intro pins s σ H vs us Q I r h
  obtain ⟨a, ns, rfl, hs, q⟩ := h
  obtain ⟨its, rv, hl, hz⟩ := I.tuple hs
  rw [Vals.ref1 r]
  have hi := rv.ints
  refine SrtO.sorted_ordT SrtO.swo_int hl (by rw [← rv.length]; exact hz) (fun h2 h₁ a' _ _ => SrtO.ints_sortable hi h2) fun out h1 h2 => ?_
  obtain ⟨k1, k2, k3⟩ := SrtO.ints_out hi h1 h2
  obtain ⟨ep, he'⟩ := PyProof.Rows.sortedAll_at s.heap its out.toArray
  have hlen : ((out.map SrtO.iv).map V.int).length ≤ sizeLine := by
    rw [List.length_map, k2.length_eq]
    rw [List.length_map] at hz
    exact hz
  exact ⟨.ref _, upd H (s.heap.objs.size + 1) (.lst ((out.map SrtO.iv).map V.int)), I.laid (t' := s.toks) (fun _ _ => PyProof.Rows.sortedAll_old) (Nat.le_succ _) ⟨hlen, out, ep, vals_of_ints k1, he'⟩, rfl, q _ _ k2 k3 (I.hok.fresh (Nat.le_succ _))⟩
theorem cSortedT {e : Expr} {f : EF} {x : Str} {p pos : Pos} (hg : Gl X x) (hm : X.mg x = none) (hv : bootBuiltins x = some (.builtin "sorted")) (he : PE X e (tP X.K Γ .sh f)) (hn : x ≠ "__name__" := by decide) (hdb : (x == ("__debug__" : Str)) = false := by decide)
    (hs : starEach [e] X.env = (false, eval e X.env) :: starEach [] X.env := by rfl) :
    PE X (.Call (.Name x p) [e] [] pos) (tC X.K Γ (.ol .sh) (x1 oSortT f)) := (pe_callB cr_sortedTp hg hm hv (pa_cons he pa_nil hs) hn hdb hs rfl).imp fun σ H Q ⟨δ, Z, F, d, ok, e, k⟩ => by
  obtain ⟨dl, e1, e2⟩ := Option.bind_eq_some_iff.mp e
  refine ⟨δ, Z, F, dl, ok, e1, fun v H1 Z1 g s1 r => ?_⟩
  cases dl with
  | tuple ds =>
    replace e2 : (if ds.all isI then some (PyData.list (srtD ds)) else none) = some d := e2
    split at e2
    · rename_i hI
      cases e2
      obtain ⟨r, _⟩ := r.shOf
      cases r with
      | @tup a xs _ hx sa =>
        have fin : ∀ (zs : List V) (p : Addr), ShA X.K H1 Z1 zs (srtD ds) → H1 p = none → Q (.ref p) (upd H1 p (.lst zs)) := fun zs p sz hp => k _ _ Z1 [p] (s1.trans (Ext.new hp)) (.ol upd_same (sz.ext (Ext.new hp)).repA) (by simp) fun b h => by
          have eb : b = p := by simpa using h
          subst eb
          exact ⟨Same.free s1.same hp, fun hz => (ok.ext s1).zs b hz hp⟩
        obtain ⟨ns, rfl, rfl⟩ := sha_ints sa hI
        refine ⟨a, ns, rfl, SqT.of hx, fun ns' p h1 h2 hp => fin _ p ?_ hp⟩
        have e : srtD (ns.map PyData.int) = ns'.map PyData.int := by
          refine SrtO.srt_uniq ltD_swo (srtD_srt _) ?_ ((srtD_perm _).trans (h1.symm.map _)) fun x hx y hy l1 l2 => codD_inj (.inl ⟨?_, ?_⟩) (SrtO.lex_eq _ _ l1 l2)
          · refine List.pairwise_map.mpr (h2.imp fun {a b} h => ?_)
            show HT.lexLt [b] [a] = false
            rw [HT.lexLt_cons]
            split
            · rfl
            · exact decide_eq_false (by omega)
          · have := (srtD_perm _).mem_iff.mp hx
            obtain ⟨i, _, rfl⟩ := List.mem_map.mp this
            rfl
          · have := (srtD_perm _).mem_iff.mp hy
            obtain ⟨i, _, rfl⟩ := List.mem_map.mp this
            rfl
        rw [e]
        exact ints_sha ns'
    · cases e2
  | _ => cases e2
theorem cSortedA {e : Expr} {f : EF} {x : Str} {p pos : Pos} (hg : Gl X x) (hm : X.mg x = none) (hv : bootBuiltins x = some (.builtin "sorted")) (he : PE X e (tP X.K Γ .sh f)) (hn : x ≠ "__name__" := by decide) (hdb : (x == ("__debug__" : Str)) = false := by decide)
    (hs : starEach [e] X.env = (false, eval e X.env) :: starEach [] X.env := by rfl) :
    PE X (.Call (.Name x p) [e] [] pos) (tC X.K Γ (.ol .sh) (x1 oSortA f)) := (PE.or (cSorted hg hm hv rfl he hn hdb hs) (cSortedT hg hm hv he hn hdb hs)).imp fun σ H Q ⟨δ, Z, F, d, ok, e, k⟩ => by
  obtain ⟨dl, e1, e2⟩ := Option.bind_eq_some_iff.mp e
  cases dl with
  | tuple ds => exact .inr ⟨δ, Z, F, d, ok, Option.bind_eq_some_iff.mpr ⟨_, e1, e2⟩, k⟩
  | list ds => exact .inl ⟨δ, Z, F, d, ok, Option.bind_eq_some_iff.mpr ⟨_, e1, e2⟩, k⟩
  | _ => cases e2
end
end Pv

set_option linter.all false
/-! Pq: the shapes computed. -/
namespace Pv
open PySem
section
variable {δ : List D} {i j k n : Nat} {d x y : D} {a b f g : EF} {m m' : EM} {r : LF} {q : LM} {c c' : BF}
@[simp] theorem xV_e : xV i δ = δ[i]? := rfl
@[simp] theorem xK_e : xK d δ = some d := rfl
@[simp] theorem x1_e {o : D → Option D} : x1 o a δ = (a δ).bind o := rfl
@[simp] theorem x2_e {o : D → D → Option D} : x2 o a b δ = (a δ).bind fun x => (b δ).bind fun y => o x y := rfl
@[simp] theorem xNil_e : xNil δ = some [] := rfl
@[simp] theorem xCons_e : xCons a r δ = (a δ).bind fun x => (r δ).bind fun xs => some (x :: xs) := rfl
@[simp] theorem xL_e {o : List D → Option D} : xL o r δ = (r δ).bind o := rfl
@[simp] theorem bE_e : bE f δ = (f δ).bind toB := rfl
@[simp] theorem bNot_e : bNot c δ = (c δ).bind fun b => some (!b) := rfl
@[simp] theorem bAnd_e : bAnd c c' δ = (c δ).bind fun b => if b then c' δ else some false := rfl
@[simp] theorem bOr_e : bOr c c' δ = (c δ).bind fun b => if b then some true else c' δ := rfl
@[simp] theorem xAnd_e : xAnd a b δ = (a δ).bind fun x => (toB x).bind fun k => if k then b δ else some (.bool false) := rfl
@[simp] theorem xOr_e : xOr a b δ = (a δ).bind fun x => (toB x).bind fun k => if k then some (.bool true) else b δ := rfl
@[simp] theorem xNot_e : xNot a δ = (a δ).bind fun x => (toB x).bind fun k => some (.bool (!k)) := rfl
@[simp] theorem toB_e {b : Bool} : toB (.bool b) = some b := rfl
@[simp] theorem xCall_e {h : List D → Option (D × List D)} : xCall h r δ = (r δ).bind fun ds => (h ds).map (·.1) := rfl
@[simp] theorem xRo_e {pm : List Nat} : xRo pm r δ = (r δ).map (ro pm) := rfl
@[simp] theorem ro_nil {α : Type} {xs : List α} : ro [] xs = [] := rfl
theorem ro_cons {α : Type} {xs : List α} {i : Nat} {pm : List Nat} {a : α} (h : xs[i]? = some a) : ro (i :: pm) xs = a :: ro pm xs := by
  unfold ro
  rw [List.filterMap_cons, h]
@[simp] theorem mOf_e : mOf f δ = (f δ).map (·, δ) := rfl
@[simp] theorem xMov_e : xMov i δ = (δ[i]?).map (·, δ) := rfl
@[simp] theorem xmNil_e : xmNil δ = some ([], δ) := rfl
@[simp] theorem xmCons_e : xmCons m q δ = (m δ).bind fun p => (q p.2).bind fun s => some (p.1 :: s.1, s.2) := rfl
@[simp] theorem xmIoL_e : xmIoL i q δ = (q δ).bind fun s => (s.2[i]?).map fun d => (d :: s.1, s.2) := rfl
@[simp] theorem xLM_e {o : List D → Option D} : xLM o q δ = (q δ).bind fun p => (o p.1).map (·, p.2) := rfl
@[simp] theorem x2M_e {o : D → D → Option D} : x2M o m m' δ = (m δ).bind fun p => (m' p.2).bind fun s => (o p.1 s.1).map (·, s.2) := rfl
@[simp] theorem xCallM_e {gb : List (Option Nat)} {h : List D → Option (D × List D)} : xCallM gb h q δ = (q δ).bind fun p => (h p.1).map fun s => (s.1, giveD gb s.2 p.2) := rfl
@[simp] theorem giveD_some {gb : List (Option Nat)} {ds : List D} : giveD (some i :: gb) (d :: ds) δ = giveD gb ds (δ.set i d) := rfl
@[simp] theorem giveD_none {gb : List (Option Nat)} {ds : List D} : giveD (none :: gb) (d :: ds) δ = giveD gb ds δ := rfl
@[simp] theorem giveD_nil {ds : List D} : giveD [] ds δ = δ := by cases ds <;> rfl
@[simp] theorem bME_e : bME m δ = (m δ).bind fun p => (toB p.1).map (·, p.2) := rfl
@[simp] theorem bMOf_e : bMOf c δ = (c δ).map (·, δ) := rfl
@[simp] theorem bYes_e : bYes δ = some true := rfl
@[simp] theorem sNil_e : sNil δ = some (.nx δ) := rfl
@[simp] theorem sNo_e : sNo δ = none := rfl
@[simp] theorem sSet_e : sSet i f δ = (f δ).bind fun d => some (.nx (δ.set i d)) := rfl
@[simp] theorem sSetM_e : sSetM i m δ = (m δ).bind fun p => some (.nx (p.2.set i p.1)) := rfl
@[simp] theorem sDrop_e : sDrop m δ = (m δ).bind fun p => some (.nx p.2) := rfl
@[simp] theorem sRet_e : sRet f δ = (f δ).bind fun d => some (.rt d δ) := rfl
@[simp] theorem sRetM_e : sRetM m δ = (m δ).bind fun p => some (.rt p.1 p.2) := rfl
@[simp] theorem sIf_e {s t : SF} : sIf c s t δ = (c δ).bind fun b => if b then s δ else t δ := rfl
@[simp] theorem sIfM_e {c : BM} {s t : SF} : sIfM c s t δ = (c δ).bind fun p => if p.1 then s p.2 else t p.2 := rfl
theorem sSeq_nx {s t : SF} {δ' : List D} (h : s δ = some (.nx δ')) : sSeq s t δ = t δ' := by unfold sSeq; rw [h]; rfl
theorem sSeq_rt {s t : SF} {δ' : List D} {d : D} (h : s δ = some (.rt d δ')) : sSeq s t δ = some (.rt d δ') := by unfold sSeq; rw [h]; rfl
@[simp] theorem sSeq_e {s t : SF} : sSeq s t δ = (s δ).bind fun o => match o with | .nx δ' => t δ' | o => some o := rfl
@[simp] theorem fnF_e {nl : Nat} {fo : Bool} {h : SF} : fnF nl fo h δ = (h (δ ++ List.replicate nl .none)).bind (outF δ.length fo) := rfl
@[simp] theorem outF_rt {fo : Bool} : outF n fo (.rt d δ) = some (d, δ.take n) := rfl
@[simp] theorem gSet_e : gSet i d δ = some (δ.set i d) := rfl
@[simp] theorem gTupD_e {is : List Nat} {ds : List D} : gTupD is (.tuple ds) δ = gSets is ds δ := rfl
@[simp] theorem gSets_nil : gSets [] [] δ = some δ := rfl
@[simp] theorem gSets_cons {is : List Nat} {ds : List D} : gSets (i :: is) (d :: ds) δ = gSets is ds (δ.set i d) := rfl
@[simp] theorem sFor_e {src : LF} {tg : D → List D → Option (List D)} {b : SF} : sFor src tg b δ = (src δ).bind fun ds => forL tg b ds δ := rfl
@[simp] theorem sUnp_e {tg : D → List D → Option (List D)} : sUnp f tg δ = (f δ).bind fun d => (tg d δ).bind fun δ1 => some (.nx δ1) := rfl
@[simp] theorem xCmp_e {src : LF} {tg : D → List D → Option (List D)} : xCmp src tg c f δ = (src δ).bind fun ds => if ds.length ≤ sizeLine then (cmpP tg c f δ ds).map .list else none := rfl
@[simp] theorem xCmpM_e {src : LM} {tg : D → List D → Option (List D)} {c : BM} : xCmpM src tg c m δ = (src δ).bind fun p => if p.1.length ≤ sizeLine then (cmpM tg c m p.1 p.2).map fun r => (.list r.1, r.2) else none := rfl
@[simp] theorem lmOf_e {src : LF} : lmOf src δ = (src δ).map (·, δ) := rfl
@[simp] theorem lOf_e {o : List D → Option (List D)} : lOf o r δ = (r δ).bind o := rfl
@[simp] theorem lOfM_e {o : List D → Option (List D)} : lOfM o q δ = (q δ).bind fun p => (o p.1).map (·, p.2) := rfl
@[simp] theorem lSeq_e : lSeq f δ = (f δ).bind asSeq := rfl
@[simp] theorem lIt_e : lIt f δ = (f δ).bind asIt := rfl
@[simp] theorem asSeq_t {ds : List D} : asSeq (.tuple ds) = some ds := rfl
@[simp] theorem asSeq_l {ds : List D} : asSeq (.list ds) = some ds := rfl
@[simp] theorem xIf_e : xIf c a b δ = (c δ).bind fun k => if k then a δ else b δ := rfl
end
section
variable {i j : Int} {x y : D} {ds : List D}
@[simp] theorem dAdd_e : dAdd (.int i) (.int j) = some (.int (i + j)) := rfl
@[simp] theorem dSub_e : dSub (.int i) (.int j) = some (.int (i - j)) := rfl
@[simp] theorem dNeg_e : dNeg (.int i) = some (.int (-i)) := rfl
@[simp] theorem dLt_e : dLt (.int i) (.int j) = some (.bool (decide (i < j))) := rfl
@[simp] theorem dLe_e : dLe (.int i) (.int j) = some (.bool (decide (i ≤ j))) := rfl
@[simp] theorem dGt_e : dGt (.int i) (.int j) = some (.bool (decide (j < i))) := rfl
@[simp] theorem dGe_e : dGe (.int i) (.int j) = some (.bool (decide (j ≤ i))) := rfl
theorem dMul_e (h : mulOk i j = true) : dMul (.int i) (.int j) = some (.int (i * j)) := by show (if mulOk i j then some (PyData.int (i * j)) else none) = _; rw [if_pos h]
theorem dMd_e (h : 0 < j) : dMd (.int i) (.int j) = some (.int (i % j)) := by show (if 0 < j then some (PyData.int (i % j)) else none) = _; rw [if_pos h]
theorem dFd_e (h : 0 < j) (h2 : j.natAbs.log2 < 9000) : dFd (.int i) (.int j) = some (.int (i / j)) := by show (if 0 < j ∧ j.natAbs.log2 < 9000 then some (PyData.int (i / j)) else none) = _; rw [if_pos ⟨h, h2⟩]
@[simp] theorem eqv_int : PyData.eqv (.int i) (.int j) = (i == j) := by rw [PyData.eqv]
@[simp] theorem dEq_e : dEq (.int i) (.int j) = some (.bool (i == j)) := by
  show (if SeqAt.shaped (PyData.int i) && SeqAt.shaped (PyData.int j) then some (PyData.bool (PyData.eqv (.int i) (.int j))) else none) = _
  rw [eqv_int]; rfl
@[simp] theorem dNe_e : dNe (.int i) (.int j) = some (.bool (!(i == j))) := by
  show (if SeqAt.shaped (PyData.int i) && SeqAt.shaped (PyData.int j) then some (PyData.bool (!PyData.eqv (.int i) (.int j))) else none) = _
  rw [eqv_int]; rfl
@[simp] theorem dIx_t : dIx (.tuple ds) (.int j) = L2.atI ds j := rfl
@[simp] theorem dIx_l : dIx (.list ds) (.int j) = L2.atI ds j := rfl
@[simp] theorem oLen_l : oLen [.list ds] = some (.int ds.length) := rfl
@[simp] theorem oLen_t : oLen [.tuple ds] = some (.int ds.length) := rfl
@[simp] theorem oInt_i : oInt [.int i] = some (.int i) := rfl
@[simp] theorem oInt_b {b : Bool} : oInt [.bool b] = some (.int (if b then 1 else 0)) := rfl
@[simp] theorem oAbs_i : oAbs [.int i] = some (.int (if i < 0 then -i else i)) := rfl
@[simp] theorem oTup_l : oTup [.list ds] = some (.tuple ds) := rfl
@[simp] theorem oTup_t : oTup [.tuple ds] = some (.tuple ds) := rfl
@[simp] theorem oLst_l : oLst [.list ds] = some (.list ds) := rfl
@[simp] theorem oLst_t : oLst [.tuple ds] = some (.list ds) := rfl
@[simp] theorem oRev_l : oRev (.list ds) = some (.list ds.reverse) := rfl
@[simp] theorem isi_i {T : String} : dIsi T (.int i) = some (.bool (isiT "int" T)) := rfl
@[simp] theorem isi_t {T : String} : dIsi T (.tuple ds) = some (.bool (isiT "tuple" T)) := rfl
@[simp] theorem isi_l {T : String} : dIsi T (.list ds) = some (.bool (isiT "list" T)) := rfl
@[simp] theorem isi_b {T : String} {b : Bool} : dIsi T (.bool b) = some (.bool (isiT "bool" T)) := rfl
theorem atI_nat {α : Type} {l : List α} {n : Nat} (h : n < l.length) : L2.atI l (n : Int) = l[n]? := by
  unfold L2.atI
  have : L2.ixN l.length (n : Int) = some n := by
    unfold L2.ixN
    simp [h]
  rw [this]
  rfl
theorem mkTup_e (h : ds.length ≤ sizeLine) : mkTup ds = some (.tuple ds) := if_pos h
theorem mkLst_e (h : ds.length ≤ sizeLine) : mkLst ds = some (.list ds) := if_pos h
end
end Pv

set_option Elab.async false
set_option linter.all false
set_option maxRecDepth 100000
/-! unsewn_k04_whole_turns_and_makings: the defs as functions of data (printed by pvgen.py) -/
namespace LawK04
open PySem PySem.Spec PyProof.Rows L2 Pv
def g_word_bonds : SF :=
  (sSeq (sSet 1 xDict0) (sSeq (sFor (lSeq (xV 0)) (gTupD [2, 3]) (sSeq (sDrop (xSdK 1 (xV 2) (xV 3))) (sDrop (xSdK 1 (xV 3) (xV 2))))) (sRet (xV 1))))
def f_word_bonds : List D → Option (D × List D) := fnF 3 false g_word_bonds
def S_word_bonds : FS := ⟨[.sh], [.no], .sh, f_word_bonds⟩
def g_piece_by : SF :=
  (sSeq (sSet 2 (xDict1 (xV 1) (xK (.bool true)))) (sSeq (sSet 3 (xL mkLst (xCons (xV 1) xNil))) (sSeq (sWhile (bTr (xV 3)) (sSeq (sSetM 4 (xPop 3)) (sFor (lSeq (xDGet2 (xV 0) (xV 4) (xK (.list [])))) (gSet 5) (sIf (bE (x2 dDNotIn (xV 5) (xV 2))) (sSeq (sPutK 2 (mOf (xK (.bool true))) (xV 5)) (sDrop (xApp 3 (mOf (xV 5))))) sNil)))) (sRet (xL oTup (xCons (x1 oSorted (xL oLstD (xCons (xV 2) xNil))) xNil))))))
def f_piece_by : List D → Option (D × List D) := fnF 4 false g_piece_by
def S_piece_by : FS := ⟨[.sh, .sh], [.no, .no], .sh, f_piece_by⟩
def g_least_uneven : SF :=
  (sSeq (sSet 1 xDict0) (sSeq (sFor (lSeq (xV 0)) (gTupD [2, 3]) (sSeq (sPutK 1 (mOf (x2 dSub (xDGet2 (xV 1) (xV 2) (xK (.int 0))) (xK (.int 1)))) (xV 2)) (sPutK 1 (mOf (x2 dAdd (xDGet2 (xV 1) (xV 3) (xK (.int 0))) (xK (.int 1)))) (xV 3)))) (sSeq (sSet 4 (xCmp (lIt (xV 1)) (gSet 5) (bE (x2 dNe (x2 dDGet (xV 1) (xV 5)) (xK (.int 0)))) (xV 5))) (sSeq (sIf (bNot (bTr (xV 4))) (sRet (xK .none)) sNil) (sRet (xL oMin (xCons (xV 4) xNil)))))))
def f_least_uneven : List D → Option (D × List D) := fnF 5 false g_least_uneven
def S_least_uneven : FS := ⟨[.sh], [.no], .sh, f_least_uneven⟩
def g_least_bare : SF :=
  (sSeq (sSet 2 (xDc (lSeq (xV 1)) (gTupD [3, 4]) (xV 3) (xK (.bool true)))) (sSeq (sIf (bE (x2 dEq (xL oLenD (xCons (xV 2) xNil)) (xV 0))) (sRet (xK .none)) sNil) (sSeq (sSet 5 (xK (.int 0))) (sSeq (sWhile (bE (x2 dDIn (xV 5) (xV 2))) (sSet 5 (x2 dAddI (xV 5) (xK (.int 1))))) (sRet (xV 5))))))
def f_least_bare : List D → Option (D × List D) := fnF 4 false g_least_bare
def S_least_bare : FS := ⟨[.sh, .sh], [.no, .no], .sh, f_least_bare⟩
def g_is_integer : SF :=
  (sRet (xAnd (x1 (dIsi "int") (xV 0)) (xNot (x1 (dIsi "bool") (xV 0)))))
def f_is_integer : List D → Option (D × List D) := fnF 0 false g_is_integer
def S_is_integer : FS := ⟨[.sh], [.no], .sh, f_is_integer⟩
def g__moved : SF :=
  (sSeq (sIf (bE (x2 dEq (xV 1) (xK (.int 0)))) (sRet (xK (.int 0))) sNil) (sRet (x2 dSub (x2 dAdd (xV 0) (xV 1)) (xK (.int 1)))))
def f__moved : List D → Option (D × List D) := fnF 0 false g__moved
def S__moved : FS := ⟨[.sh, .sh], [.no, .no], .sh, f__moved⟩
def g_backwards : SF :=
  (sSeq (sUnp (xV 0) (gTupD [1, 2])) (sRet (xL mkTup (xCons (xV 1) (xCons (xL oTup (xCons (xCmp (lSeq (xV 2)) (gTupD [3, 4]) bYes (xL mkTup (xCons (xV 4) (xCons (xV 3) xNil)))) xNil)) xNil)))))
def f_backwards : List D → Option (D × List D) := fnF 4 false g_backwards
def S_backwards : FS := ⟨[.sh], [.no], .sh, f_backwards⟩
def g__law_mix : SF :=
  (sSeq (sSet 2 (x2 dMd (xL oInt (xCons (x2 dAdd (x2 dAdd (x2 dMul (xV 0) (xK (.int 44111))) (x2 dMul (xV 1) (xK (.int 12007)))) (xK (.int 3643))) xNil)) (xK (.int 1000081)))) (sSeq (sSet 3 (x2 dMd (xL oInt (xCons (x2 dAdd (x2 dAdd (x2 dMul (xV 2) (xV 2)) (x2 dMul (xK (.int 23029)) (xV 2))) (xV 1)) xNil)) (xK (.int 999999797)))) (sRet (x2 dMd (xL oInt (xCons (x2 dAdd (x2 dFd (xV 3) (xK (.int 8))) (xV 2)) xNil)) (xK (.int 5040))))))
def f__law_mix : List D → Option (D × List D) := fnF 2 false g__law_mix
def S__law_mix : FS := ⟨[.sh, .sh], [.no, .no], .sh, f__law_mix⟩
def g__law_pick : SF :=
  (sSeq (sIf (bE (x2 dEq (xL oLen (xCons (xV 0) xNil)) (xK (.int 0)))) (sRet (xK (.int 0))) sNil) (sRetM (x2M dMd (xLM oInt (xmCons (xPop 0) xmNil)) (mOf (xV 1)))))
def f__law_pick : List D → Option (D × List D) := fnF 0 false g__law_pick
def S__law_pick : FS := ⟨[(.ol .sh), .sh], [(.ol .sh), .no], .sh, f__law_pick⟩
def g__law_opposite : SF :=
  (sSeq (sSet 1 (xCmp (lOf rng1 (xCons (xL oLen (xCons (xV 0) xNil)) xNil)) (gSet 2) bYes (xK (.int 0)))) (sSeq (sFor (lOf rng1 (xCons (xL oLen (xCons (xV 0) xNil)) xNil)) (gSet 2) (sSetIx 1 (mOf (xV 2)) (x2 dIx (xV 0) (xV 2)))) (sRet (xL oTup (xCons (xV 1) xNil)))))
def f__law_opposite : List D → Option (D × List D) := fnF 2 false g__law_opposite
def S__law_opposite : FS := ⟨[.sh], [.no], .sh, f__law_opposite⟩
def g__law_without_loops : SF :=
  (sRet (xL mkTup (xCons (x2 dIx (xV 0) (xK (.int 0))) (xCons (xL oTup (xCons (xCmp (lSeq (x2 dIx (xV 0) (xK (.int 1)))) (gSet 2) (bE (x2 dNe (xV 2) (xL mkTup (xCons (xV 1) (xCons (xV 1) xNil))))) (xV 2)) xNil)) xNil))))
def f__law_without_loops : List D → Option (D × List D) := fnF 1 false g__law_without_loops
def S__law_without_loops : FS := ⟨[.sh, .sh], [.no, .no], .sh, f__law_without_loops⟩
def g__law_home : SF :=
  (sSeq (sSet 2 (xCmp (lOf rng1 (xCons (xV 0) xNil)) (gSet 3) (bOr (bE (x2 dNotIn (xV 3) (xV 1))) (bE (x2 dEq (xV 3) (x2 dIx (xV 1) (xK (.int 0)))))) (xV 3))) (sSeq (sSet 4 (xK (.list []))) (sSeq (sFor (lOf rng1 (xCons (xV 0) xNil)) (gSet 3) (sIf (bE (x2 dIn (xV 3) (xV 1))) (sDrop (xApp 4 (mOf (x2 dIndex (xV 2) (x2 dIx (xV 1) (xK (.int 0))))))) (sDrop (xApp 4 (mOf (x2 dIndex (xV 2) (xV 3))))))) (sRet (xL oTup (xCons (xV 4) xNil))))))
def f__law_home : List D → Option (D × List D) := fnF 3 false g__law_home
def S__law_home : FS := ⟨[.sh, .sh], [.no, .no], .sh, f__law_home⟩
def g_first_fault : SF :=
  (sSeq (sSet 2 (xCall f_least_uneven (xCons (xV 1) xNil))) (sSeq (sIf (bE (x2 dNotN (xV 2) (xK .none))) (sRet (xL mkTup (xCons (xK (.str "uneven")) (xCons (xV 2) xNil)))) sNil) (sSeq (sSet 3 (xCall f_least_bare (xCons (xV 0) (xCons (xV 1) xNil)))) (sSeq (sIf (bE (x2 dNotN (xV 3) (xK .none))) (sRet (xL mkTup (xCons (xK (.str "bare")) (xCons (xV 3) xNil)))) sNil) (sSeq (sSet 4 (xCall f_piece_by (xCons (xCall f_word_bonds (xCons (xV 1) xNil)) (xCons (xK (.int 0)) xNil)))) (sSeq (sIf (bE (x2 dLt (xL oLen (xCons (xV 4) xNil)) (xV 0))) (sRet (xL mkTup (xCons (xK (.str "apart")) (xCons (xV 4) xNil)))) sNil) (sRet (xK .none))))))))
def f_first_fault : List D → Option (D × List D) := fnF 3 false g_first_fault
def S_first_fault : FS := ⟨[.sh, .sh], [.no, .no], .sh, f_first_fault⟩
def g_is_number : SF :=
  (sRet (xAnd (xCall f_is_integer (xCons (xV 0) xNil)) (x2 dGe (xV 0) (xK (.int 0)))))
def f_is_number : List D → Option (D × List D) := fnF 0 false g_is_number
def S_is_number : FS := ⟨[.sh], [.no], .sh, f_is_number⟩
def g__law_cells : SF :=
  (sSeq (sSet 2 (xK (.list []))) (sSeq (sSet 3 (x2 dAdd (xK (.int 131)) (x2 dMul (xK (.int 31)) (xL oLen (xCons (xV 0) xNil))))) (sSeq (sFor (lSeq (xV 0)) (gSet 4) (sSeq (sSet 5 (xL oAbs (xCons (xL oInt (xCons (xV 4) xNil)) xNil))) (sSeq (sSet 3 (x2 dMd (xL oInt (xCons (x2 dAdd (x2 dMul (xV 3) (xK (.int 1039))) (xV 4)) xNil)) (xK (.int 1000081)))) (sIf (bE (x2 dGe (xV 5) (x2 dPow (xK (.int 10)) (xK (.int 18))))) (sFor (lOf rng1 (xCons (xK (.int 60)) xNil)) (gSet 6) (sIf (bE (x2 dGt (xV 5) (xK (.int 0)))) (sSeq (sDrop (xApp 2 (mOf (x2 dMd (xL oInt (xCons (xV 5) xNil)) (xK (.int 5040)))))) (sSet 5 (x2 dFd (xV 5) (xK (.int 5040))))) sNil)) (sDrop (xApp 2 (mOf (xCall f__law_mix (xCons (xL oInt (xCons (xV 4) xNil)) (xCons (xL oLen (xCons (xV 2) xNil)) xNil)))))))))) (sSeq (sFor (lOf rng1 (xCons (xV 1) xNil)) (gSet 6) (sDrop (xApp 2 (mOf (xCall f__law_mix (xCons (xV 3) (xCons (x2 dAdd (xK (.int 131)) (xV 6)) xNil))))))) (sRet (x1 oRev (xV 2)))))))
def f__law_cells : List D → Option (D × List D) := fnF 5 false g__law_cells
def S__law_cells : FS := ⟨[.sh, .sh], [.no, .no], (.ol .sh), f__law_cells⟩
def g__law_dealt : SF :=
  (sSeq (sSet 2 (xL oLst (xCons (xV 1) xNil))) (sSeq (sSet 3 (xK (.list []))) (sSeq (sFor (lOf rng1 (xCons (xL oLen (xCons (xV 1) xNil)) xNil)) (gSet 4) (sDrop (xApp 3 (xPopAt 2 (xCallM [some 0, none] f__law_pick (xmCons (xMov 0) (xmCons (mOf (xL oLen (xCons (xV 2) xNil))) xmNil))))))) (sRet (xV 3)))))
def f__law_dealt : List D → Option (D × List D) := fnF 3 false g__law_dealt
def S__law_dealt : FS := ⟨[(.ol .sh), .sh], [(.ol .sh), .no], .sh, f__law_dealt⟩
def g__law_put : SF :=
  (sSeq (sSet 2 (xCall f__law_home (xCons (x2 dIx (xV 0) (xK (.int 0))) (xCons (xV 1) xNil)))) (sSeq (sSet 3 (xCmp (lSeq (x2 dIx (xV 0) (xK (.int 1)))) (gSet 4) (bOr (bE (x2 dNotIn (x2 dIx (xV 4) (xK (.int 0))) (xV 1))) (bE (x2 dNotIn (x2 dIx (xV 4) (xK (.int 1))) (xV 1)))) (xV 4))) (sRet (xL mkTup (xCons (x2 dAdd (x2 dSub (x2 dIx (xV 0) (xK (.int 0))) (xL oLen (xCons (xV 1) xNil))) (xK (.int 1))) (xCons (xL oTup (xCons (xCmp (lSeq (xV 3)) (gSet 4) bYes (xL mkTup (xCons (x2 dIx (xV 2) (x2 dIx (xV 4) (xK (.int 0)))) (xCons (x2 dIx (xV 2) (x2 dIx (xV 4) (xK (.int 1)))) xNil)))) xNil)) xNil))))))
def f__law_put : List D → Option (D × List D) := fnF 3 false g__law_put
def S__law_put : FS := ⟨[.sh, .sh], [.no, .no], .sh, f__law_put⟩
def g_is_heap : SF :=
  (sSeq (sIf (bOr (bNot (bE (x1 (dIsi "tuple") (xV 0)))) (bE (x2 dNe (xL oLen (xCons (xV 0) xNil)) (xK (.int 2))))) (sRet (xK (.bool false))) sNil) (sSeq (sUnp (xV 0) (gTupD [1, 2])) (sSeq (sIf (bOr (bNot (bE (xCall f_is_number (xCons (xV 1) xNil)))) (bOr (bE (x2 dLt (xV 1) (xK (.int 1)))) (bNot (bE (x1 (dIsi "tuple") (xV 2)))))) (sRet (xK (.bool false))) sNil) (sSeq (sFor (lSeq (xV 2)) (gSet 3) (sSeq (sIf (bOr (bNot (bE (x1 (dIsi "tuple") (xV 3)))) (bE (x2 dNe (xL oLen (xCons (xV 3) xNil)) (xK (.int 2))))) (sRet (xK (.bool false))) sNil) (sFor (lSeq (xV 3)) (gSet 4) (sIf (bOr (bNot (bE (xCall f_is_number (xCons (xV 4) xNil)))) (bE (x2 dGe (xV 4) (xV 1)))) (sRet (xK (.bool false))) sNil)))) (sRet (xK (.bool true)))))))
def f_is_heap : List D → Option (D × List D) := fnF 4 false g_is_heap
def S_is_heap : FS := ⟨[.sh], [.no], .sh, f_is_heap⟩
def g_is_word : SF :=
  (sRet (xAnd (xCall f_is_number (xCons (xV 1) xNil)) (x2 dLt (xV 1) (x2 dIx (xV 0) (xK (.int 0))))))
def f_is_word : List D → Option (D × List D) := fnF 0 false g_is_word
def S_is_word : FS := ⟨[.sh, .sh], [.no, .no], .sh, f_is_word⟩
def g_is_leaf : SF :=
  (sRet (xAnd (xCall f_is_number (xCons (xV 1) xNil)) (x2 dLt (xV 1) (xL oLen (xCons (x2 dIx (xV 0) (xK (.int 1))) xNil)))))
def f_is_leaf : List D → Option (D × List D) := fnF 0 false g_is_leaf
def S_is_leaf : FS := ⟨[.sh, .sh], [.no, .no], .sh, f_is_leaf⟩
def g_is_order : SF :=
  (sSeq (sIf (bNot (bE (xCall f_is_number (xCons (xV 0) xNil)))) sNo sNil) (sSeq (sIf (bOr (bNot (bE (x1 (dIsi "tuple") (xV 1)))) (bE (x2 dNe (xL oLen (xCons (xV 1) xNil)) (xV 0)))) (sRet (xK (.bool false))) sNil) (sSeq (sFor (lSeq (xV 1)) (gSet 2) (sIf (bNot (bE (xCall f_is_number (xCons (xV 2) xNil)))) (sRet (xK (.bool false))) sNil)) (sRet (x2 dEq (x1 oSortA (xV 1)) (x1 oLstRng (xV 0)))))))
def f_is_order : List D → Option (D × List D) := fnF 1 false g_is_order
def S_is_order : FS := ⟨[.sh, .sh], [.no, .no], .sh, f_is_order⟩
def g__law_ring : SF :=
  (sSeq (sSetM 3 (xCmpM (lmOf (lOf rng1 (xCons (xV 2) xNil))) (gSet 4) (bMOf bYes) (xCallM [some 0, none] f__law_pick (xmCons (xMov 0) (xmCons (mOf (xV 1)) xmNil))))) (sSeq (sFor (lOf rng1 (xCons (xV 1) xNil)) (gSet 5) (sIf (bE (x2 dNotIn (xV 5) (xV 3))) (sDrop (xIns 3 (xCallM [some 0, none] f__law_pick (xmCons (xMov 0) (xmCons (mOf (x2 dAdd (xL oLen (xCons (xV 3) xNil)) (xK (.int 1)))) xmNil))) (xV 5))) sNil)) (sSeq (sSet 6 (xCmp (lOf rng1 (xCons (xL oLen (xCons (xV 3) xNil)) xNil)) (gSet 4) bYes (xL mkTup (xCons (x2 dIx (xV 3) (xV 4)) (xCons (x2 dIx (xV 3) (x2 dMd (xL oInt (xCons (x2 dAdd (xV 4) (xK (.int 1))) xNil)) (xL oLen (xCons (xV 3) xNil)))) xNil))))) (sRetM (xCallM [some 0, none] f__law_dealt (xmCons (xMov 0) (xmCons (mOf (xV 6)) xmNil)))))))
def f__law_ring : List D → Option (D × List D) := fnF 4 false g__law_ring
def S__law_ring : FS := ⟨[(.ol .sh), .sh, .sh], [(.ol .sh), .no, .no], .sh, f__law_ring⟩
def g_is_book : SF :=
  (sSeq (sIf (bNot (bE (xCall f_is_heap (xCons (xV 0) xNil)))) (sRet (xK (.bool false))) sNil) (sSeq (sUnp (xV 0) (gTupD [1, 2])) (sRet (x2 dIsN (xCall f_first_fault (xCons (xV 1) (xCons (xV 2) xNil))) (xK .none)))))
def f_is_book : List D → Option (D × List D) := fnF 2 false g_is_book
def S_is_book : FS := ⟨[.sh], [.no], .sh, f_is_book⟩
def g_is_lot : SF :=
  (sSeq (sIf (bNot (bE (x1 (dIsi "tuple") (xV 1)))) (sRet (xK (.bool false))) sNil) (sSeq (sSet 2 (x1 dNeg (xK (.int 1)))) (sSeq (sFor (lSeq (xV 1)) (gSet 3) (sSeq (sIf (bOr (bNot (bE (xCall f_is_word (xCons (xV 0) (xCons (xV 3) xNil))))) (bE (x2 dLe (xV 3) (xV 2)))) (sRet (xK (.bool false))) sNil) (sSet 2 (xV 3)))) (sRet (xK (.bool true))))))
def f_is_lot : List D → Option (D × List D) := fnF 2 false g_is_lot
def S_is_lot : FS := ⟨[.sh, .sh], [.no, .no], .sh, f_is_lot⟩
def g_hung : SF :=
  (sSeq (sIf (bNot (bE (xCall f_is_word (xCons (xV 0) (xCons (xV 1) xNil))))) sNo sNil) (sSeq (sUnp (xV 0) (gTupD [2, 3])) (sRet (xL mkTup (xCons (xV 2) (xCons (x2 dPlus (xV 3) (xL mkTup (xCons (xL mkTup (xCons (xV 1) (xCons (xV 1) xNil))) xNil))) xNil))))))
def f_hung : List D → Option (D × List D) := fnF 2 false g_hung
def S_hung : FS := ⟨[.sh, .sh], [.no, .no], .sh, f_hung⟩
def g_parted : SF :=
  (sSeq (sIf (bNot (bE (xCall f_is_leaf (xCons (xV 0) (xCons (xV 1) xNil))))) sNo sNil) (sSeq (sUnp (xV 0) (gTupD [2, 3])) (sSeq (sUnp (x2 dIx (xV 3) (xV 1)) (gTupD [4, 5])) (sRet (xL mkTup (xCons (x2 dAdd (xV 2) (xK (.int 1))) (xCons (x2 dPlus (x2 dPlus (x2 dPlus (xSlT (xV 3) oNo (oInt1 (xV 1))) (xL mkTup (xCons (xL mkTup (xCons (xV 4) (xCons (xV 2) xNil))) xNil))) (xSlT (xV 3) (oInt1 (x2 dAdd (xV 1) (xK (.int 1)))) oNo)) (xL mkTup (xCons (xL mkTup (xCons (xV 2) (xCons (xV 5) xNil))) xNil))) xNil)))))))
def f_parted : List D → Option (D × List D) := fnF 4 false g_parted
def S_parted : FS := ⟨[.sh, .sh], [.no, .no], .sh, f_parted⟩
def g_joined : SF :=
  (sSeq (sIf (bNot (bE (xCall f_is_heap (xCons (xV 1) xNil)))) sNo sNil) (sSeq (sUnp (xV 0) (gTupD [2, 3])) (sSeq (sSet 4 (xL oLst (xCons (xV 3) xNil))) (sSeq (sFor (lSeq (x2 dIx (xV 1) (xK (.int 1)))) (gTupD [5, 6]) (sDrop (xApp 4 (mOf (xL mkTup (xCons (xCall f__moved (xCons (xV 2) (xCons (xV 5) xNil))) (xCons (xCall f__moved (xCons (xV 2) (xCons (xV 6) xNil))) xNil))))))) (sRet (xL mkTup (xCons (x2 dSub (x2 dAdd (xV 2) (x2 dIx (xV 1) (xK (.int 0)))) (xK (.int 1))) (xCons (xL oTup (xCons (xV 4) xNil)) xNil))))))))
def f_joined : List D → Option (D × List D) := fnF 5 false g_joined
def S_joined : FS := ⟨[.sh, .sh], [.no, .no], .sh, f_joined⟩
def g_renamed : SF :=
  (sSeq (sUnp (xV 0) (gTupD [2, 3])) (sSeq (sIf (bNot (bE (xCall f_is_order (xCons (xV 2) (xCons (xV 1) xNil))))) sNo sNil) (sRet (xL mkTup (xCons (xV 2) (xCons (xL oTup (xCons (xCmp (lSeq (xV 3)) (gTupD [4, 5]) bYes (xL mkTup (xCons (x2 dIx (xV 1) (xV 4)) (xCons (x2 dIx (xV 1) (xV 5)) xNil)))) xNil)) xNil))))))
def f_renamed : List D → Option (D × List D) := fnF 4 false g_renamed
def S_renamed : FS := ⟨[.sh, .sh], [.no, .no], .sh, f_renamed⟩
def g_dealt : SF :=
  (sSeq (sUnp (xV 0) (gTupD [2, 3])) (sSeq (sIf (bNot (bE (xCall f_is_order (xCons (xL oLen (xCons (xV 3) xNil)) (xCons (xV 1) xNil))))) sNo sNil) (sRet (xL mkTup (xCons (xV 2) (xCons (xL oTup (xCons (xCmp (lSeq (xV 1)) (gSet 4) bYes (x2 dIx (xV 3) (xV 4))) xNil)) xNil))))))
def f_dealt : List D → Option (D × List D) := fnF 3 false g_dealt
def S_dealt : FS := ⟨[.sh, .sh], [.no, .no], .sh, f_dealt⟩
def g__law_heap : SF :=
  (sSeq (sSetM 3 (xCallM [some 0, none] f__law_pick (xmCons (xMov 0) (xmCons (mOf (xK (.int 6))) xmNil)))) (sSeq (sIf (bE (x2 dEq (xV 1) (xK (.int 0)))) (sSeq (sSetM 4 (x2M dAdd (xCallM [some 0, none] f__law_pick (xmCons (xMov 0) (xmCons (mOf (xK (.int 9))) xmNil))) (mOf (xV 3)))) (sRetM (xLM mkTup (xmCons (mOf (xV 2)) (xmCons (xLM oTup (xmCons (xCmpM (lmOf (lOf rng1 (xCons (xV 4) xNil))) (gSet 5) (bMOf bYes) (xLM mkTup (xmCons (xCallM [some 0, none] f__law_pick (xmCons (xMov 0) (xmCons (mOf (xV 2)) xmNil))) (xmCons (xCallM [some 0, none] f__law_pick (xmCons (xMov 0) (xmCons (mOf (xV 2)) xmNil))) xmNil)))) xmNil)) xmNil))))) sNil) (sRetM (xLM mkTup (xmCons (mOf (xV 2)) (xmCons (xLM oTup (xmCons (xCallM [some 0, none, none] f__law_ring (xmCons (xMov 0) (xmCons (mOf (xV 2)) (xmCons (mOf (xV 3)) xmNil)))) xmNil)) xmNil))))))
def f__law_heap : List D → Option (D × List D) := fnF 3 false g__law_heap
def S__law_heap : FS := ⟨[(.ol .sh), .sh, .sh], [(.ol .sh), .no, .no], .sh, f__law_heap⟩
def g_home_of : SF :=
  (sSeq (sIf (bOr (bNot (bE (xCall f_is_lot (xCons (xV 0) (xCons (xV 1) xNil))))) (bOr (bE (x2 dEq (xL oLen (xCons (xV 1) xNil)) (xK (.int 0)))) (bE (x2 dEq (xL oLen (xCons (xV 1) xNil)) (x2 dIx (xV 0) (xK (.int 0))))))) sNo sNil) (sSeq (sSet 2 (xK (.list []))) (sSeq (sSet 3 (xK (.int 0))) (sSeq (sFor (lOf rng1 (xCons (x2 dIx (xV 0) (xK (.int 0))) xNil)) (gSet 4) (sIf (bAnd (bE (x2 dIn (xV 4) (xV 1))) (bE (x2 dNe (xV 4) (x2 dIx (xV 1) (xK (.int 0)))))) (sDrop (xApp 2 (mOf (x2 dIx (xV 2) (x2 dIx (xV 1) (xK (.int 0))))))) (sSeq (sDrop (xApp 2 (mOf (xV 3)))) (sSet 3 (x2 dAddI (xV 3) (xK (.int 1))))))) (sRet (xL oTup (xCons (xV 2) xNil)))))))
def f_home_of : List D → Option (D × List D) := fnF 3 false g_home_of
def S_home_of : FS := ⟨[.sh, .sh], [.no, .no], .sh, f_home_of⟩
def rg_home_of : RF :=
  (rfIf (bOr (bNot (bE (xCall f_is_lot (xCons (xV 0) (xCons (xV 1) xNil))))) (bOr (bE (x2 dEq (xL oLen (xCons (xV 1) xNil)) (xK (.int 0)))) (bE (x2 dEq (xL oLen (xCons (xV 1) xNil)) (x2 dIx (xV 0) (xK (.int 0))))))) (rfR "word" "at" (xCons (xK (.str "lot")) (xCons (x1 dNeg (xK (.int 1))) xNil))) rfNo)
def r_home_of : List D → Option XD := fnR 3 rg_home_of
def R_home_of : RS := ⟨[.sh, .sh], r_home_of⟩
def g_leaving : SF :=
  (sSeq (sIf (bNot (bE (xCall f_is_lot (xCons (xV 0) (xCons (xV 1) xNil))))) sNo sNil) (sRet (xL oTup (xCons (xCmp (lEnum (xCons (x2 dIx (xV 0) (xK (.int 1))) xNil)) (gTupD [2, 3]) (bAnd (bE (x2 dIn (x2 dIx (xV 3) (xK (.int 0))) (xV 1))) (bE (x2 dNotIn (x2 dIx (xV 3) (xK (.int 1))) (xV 1)))) (xV 2)) xNil))))
def f_leaving : List D → Option (D × List D) := fnF 2 false g_leaving
def S_leaving : FS := ⟨[.sh, .sh], [.no, .no], .sh, f_leaving⟩
def g_put_together : SF :=
  (sSeq (sSet 2 (xCall f_home_of (xCons (xV 0) (xCons (xV 1) xNil)))) (sSeq (sSet 3 (xK (.list []))) (sSeq (sFor (lSeq (x2 dIx (xV 0) (xK (.int 1)))) (gTupD [4, 5]) (sIf (bOr (bE (x2 dNotIn (xV 4) (xV 1))) (bE (x2 dNotIn (xV 5) (xV 1)))) (sDrop (xApp 3 (mOf (xL mkTup (xCons (x2 dIx (xV 2) (xV 4)) (xCons (x2 dIx (xV 2) (xV 5)) xNil)))))) sNil)) (sRet (xL mkTup (xCons (x2 dAdd (x2 dSub (x2 dIx (xV 0) (xK (.int 0))) (xL oLen (xCons (xV 1) xNil))) (xK (.int 1))) (xCons (xL oTup (xCons (xV 3) xNil)) xNil)))))))
def f_put_together : List D → Option (D × List D) := fnF 4 false g_put_together
def S_put_together : FS := ⟨[.sh, .sh], [.no, .no], .sh, f_put_together⟩
def rg_put_together : RF :=
  (rfC r_home_of (xCons (xV 0) (xCons (xV 1) xNil)))
def r_put_together : List D → Option XD := fnR 4 rg_put_together
def R_put_together : RS := ⟨[.sh, .sh], r_put_together⟩
def g_gates_of : SF :=
  (sRet (xL oLen (xCons (xCall f_leaving (xCons (xV 0) (xCons (xV 1) xNil))) xNil)))
def f_gates_of : List D → Option (D × List D) := fnF 0 false g_gates_of
def S_gates_of : FS := ⟨[.sh, .sh], [.no, .no], .sh, f_gates_of⟩
def g__law_same (rc : List D → Option (D × List D)) : SF :=
  (sSeq (sIf (bE (x1 (dIsi "tuple") (xV 1))) (sSeq (sIf (bOr (bNot (bE (x1 (dIsi "tuple") (xV 0)))) (bE (x2 dNe (xL oLen (xCons (xV 0) xNil)) (xL oLen (xCons (xV 1) xNil))))) (sRet (xK (.bool false))) sNil) (sRet (xL oAll (xCons (xCmp (lOf rng1 (xCons (xL oLen (xCons (xV 1) xNil)) xNil)) (gSet 2) bYes (xCall rc (xCons (x2 dIx (xV 0) (xV 2)) (xCons (x2 dIx (xV 1) (xV 2)) xNil)))) xNil)))) sNil) (sRet (xAnd (x1 (dIsi "int") (xV 0)) (xAnd (xNot (x1 (dIsi "bool") (xV 0))) (x2 dEq (xV 0) (xV 1))))))
def f__law_same : Nat → List D → Option (D × List D)
  | 0 => f0
  | k + 1 => fnF 1 false (g__law_same (f__law_same k))
def S__law_same (k : Nat) : FS := ⟨[.sh, .sh], [.no, .no], .sh, f__law_same k⟩
def g__law_turns : SF :=
  (sSeq (sUnp (xV 0) (gTupD [5, 6])) (sSeq (sSet 7 (xL mkTup (xCons (xV 5) (xCons (xL oTup (xCons (xCmp (lSeq (xV 6)) (gSet 8) bYes (xL mkTup (xCons (x2 dIx (xV 8) (xK (.int 1))) (xCons (x2 dIx (xV 8) (xK (.int 0))) xNil)))) xNil)) xNil)))) (sSeq (sIf (bOr (bNot (bE (xCall (f__law_same 6) (xCons (xCall f_backwards (xRo [0] (xCons (xV 0) xNil))) (xCons (xV 7) xNil))))) (bNot (bE (xCall (f__law_same 6) (xCons (xCall f_backwards (xCons (xV 7) xNil)) (xCons (xV 0) xNil)))))) (sRet (xK (.bool false))) sNil) (sSeq (sSet 9 (xL mkTup (xCons (xV 5) (xCons (xL oTup (xCons (xCmp (lSeq (xV 6)) (gSet 8) bYes (xL mkTup (xCons (x2 dIx (xV 1) (x2 dIx (xV 8) (xK (.int 0)))) (xCons (x2 dIx (xV 1) (x2 dIx (xV 8) (xK (.int 1)))) xNil)))) xNil)) xNil)))) (sSeq (sIf (bNot (bE (xCall (f__law_same 6) (xCons (xCall f_renamed (xRo [1, 0] (xCons (xV 1) (xCons (xV 0) xNil)))) (xCons (xV 9) xNil))))) (sRet (xK (.bool false))) sNil) (sSeq (sIf (bNot (bE (xCall (f__law_same 6) (xCons (xCall f_renamed (xCons (xV 9) (xCons (xCall f__law_opposite (xCons (xV 1) xNil)) xNil))) (xCons (xV 0) xNil))))) (sRet (xK (.bool false))) sNil) (sSeq (sSet 10 (xL oTup (xCons (xCmp (lSeq (xV 1)) (gSet 11) bYes (x2 dIx (xV 2) (xV 11))) xNil))) (sSeq (sIf (bNot (bE (xCall (f__law_same 6) (xCons (xCall f_renamed (xCons (xV 9) (xCons (xV 2) xNil))) (xCons (xCall f_renamed (xCons (xV 0) (xCons (xV 10) xNil))) xNil))))) (sRet (xK (.bool false))) sNil) (sSeq (sSet 12 (xL mkTup (xCons (xV 5) (xCons (xL oTup (xCons (xCmp (lSeq (xV 3)) (gSet 13) bYes (x2 dIx (xV 6) (xV 13))) xNil)) xNil)))) (sSeq (sIf (bOr (bNot (bE (xCall (f__law_same 6) (xCons (xCall f_dealt (xCons (xV 0) (xCons (xV 3) xNil))) (xCons (xV 12) xNil))))) (bNot (bE (xCall (f__law_same 6) (xCons (xCall f_dealt (xCons (xV 12) (xCons (xCall f__law_opposite (xCons (xV 3) xNil)) xNil))) (xCons (xV 0) xNil)))))) (sRet (xK (.bool false))) sNil) (sSeq (sIf (bNot (bE (xCall (f__law_same 6) (xCons (xCall f_dealt (xRo [0, 1] (xCons (xV 12) (xCons (xV 4) xNil)))) (xCons (xCall f_dealt (xCons (xV 0) (xCons (xL oTup (xCons (xCmp (lSeq (xV 4)) (gSet 13) bYes (x2 dIx (xV 3) (xV 13))) xNil)) xNil))) xNil))))) (sRet (xK (.bool false))) sNil) (sSeq (sIf (bNot (bE (xCall (f__law_same 6) (xCons (xCall f_dealt (xCons (xV 9) (xCons (xV 3) xNil))) (xCons (xCall f_renamed (xCons (xV 12) (xCons (xV 1) xNil))) xNil))))) (sRet (xK (.bool false))) sNil) (sRet (xCall (f__law_same 6) (xCons (xCall f_backwards (xCons (xCall f_dealt (xCons (xV 9) (xCons (xV 3) xNil))) xNil)) (xCons (xCall f_dealt (xCons (xCall f_renamed (xCons (xV 7) (xCons (xV 1) xNil))) (xCons (xV 3) xNil))) xNil))))))))))))))))
def f__law_turns : List D → Option (D × List D) := fnF 9 false g__law_turns
def S__law_turns : FS := ⟨[.sh, .sh, .sh, .sh, .sh], [.no, .no, .no, .no, .no], .sh, f__law_turns⟩
def g__law_longer : SF :=
  (sSeq (sUnp (xV 0) (gTupD [2, 3])) (sSeq (sIf (bNot (bE (xCall (f__law_same 6) (xCons (xCall f_hung (xRo [1, 0] (xCons (xV 1) (xCons (xV 0) xNil)))) (xCons (xL mkTup (xCons (xV 2) (xCons (x2 dPlus (xV 3) (xL mkTup (xCons (xL mkTup (xCons (xV 1) (xCons (xV 1) xNil))) xNil))) xNil))) xNil))))) (sRet (xK (.bool false))) sNil) (sSeq (sFor (lOf rng1 (xCons (xL oLen (xCons (xV 3) xNil)) xNil)) (gSet 4) (sSeq (sUnp (x2 dIx (xV 3) (xV 4)) (gTupD [5, 6])) (sSeq (sSet 7 (xL mkTup (xCons (x2 dAdd (xV 2) (xK (.int 1))) (xCons (x2 dPlus (x2 dPlus (x2 dPlus (xSlT (xV 3) oNo (oInt1 (xV 4))) (xL mkTup (xCons (xL mkTup (xCons (xV 5) (xCons (xV 2) xNil))) xNil))) (xSlT (xV 3) (oInt1 (x2 dAdd (xV 4) (xK (.int 1)))) oNo)) (xL mkTup (xCons (xL mkTup (xCons (xV 2) (xCons (xV 6) xNil))) xNil))) xNil)))) (sSeq (sIf (bNot (bE (xCall (f__law_same 6) (xCons (xCall f_parted (xCons (xV 0) (xCons (xV 4) xNil))) (xCons (xV 7) xNil))))) (sRet (xK (.bool false))) sNil) (sIf (bAnd (bE (x2 dGt (xV 2) (xK (.int 1)))) (bNot (bE (xCall (f__law_same 6) (xCons (xCall f_put_together (xCons (xV 7) (xCons (xL mkTup (xCons (xV 6) (xCons (xV 2) xNil))) xNil))) (xCons (xCall f__law_without_loops (xCons (xV 0) (xCons (xV 6) xNil))) xNil)))))) (sRet (xK (.bool false))) sNil))))) (sRet (xK (.bool true))))))
def f__law_longer : List D → Option (D × List D) := fnF 6 false g__law_longer
def S__law_longer : FS := ⟨[.sh, .sh], [.no, .no], .sh, f__law_longer⟩
def g__law_both : SF :=
  (sSeq (sSet 2 (x2 dIx (xV 0) (xK (.int 0)))) (sSeq (sSet 3 (xL mkLst (xCons (xK (.int 0)) xNil))) (sSeq (sFor (lOf rng2 (xCons (xK (.int 1)) (xCons (x2 dIx (xV 1) (xK (.int 0))) xNil))) (gSet 4) (sDrop (xApp 3 (mOf (x2 dSub (x2 dAdd (xV 2) (xV 4)) (xK (.int 1))))))) (sSeq (sSet 5 (x2 dPlus (x2 dIx (xV 0) (xK (.int 1))) (xL oTup (xCons (xCmp (lSeq (x2 dIx (xV 1) (xK (.int 1)))) (gSet 6) bYes (xL mkTup (xCons (x2 dIx (xV 3) (x2 dIx (xV 6) (xK (.int 0)))) (xCons (x2 dIx (xV 3) (x2 dIx (xV 6) (xK (.int 1)))) xNil)))) xNil)))) (sSeq (sSet 7 (xL mkTup (xCons (x2 dSub (x2 dAdd (xV 2) (x2 dIx (xV 1) (xK (.int 0)))) (xK (.int 1))) (xCons (xV 5) xNil)))) (sSeq (sIf (bNot (bE (xCall (f__law_same 6) (xCons (xCall f_joined (xRo [1, 0] (xCons (xV 1) (xCons (xV 0) xNil)))) (xCons (xV 7) xNil))))) (sRet (xK (.bool false))) sNil) (sSeq (sIf (bE (x2 dGt (x2 dIx (xV 1) (xK (.int 0))) (xK (.int 1)))) (sIf (bNot (bE (xCall (f__law_same 6) (xCons (xCall f_put_together (xCons (xV 7) (xCons (xL oTup (xCons (x1 oLstRng (xV 2)) xNil)) xNil))) (xCons (xCall f__law_without_loops (xCons (xV 1) (xCons (xK (.int 0)) xNil))) xNil))))) (sRet (xK (.bool false))) sNil) sNil) (sSeq (sIf (bE (x2 dGt (xV 2) (xK (.int 1)))) (sIf (bNot (bE (xCall (f__law_same 6) (xCons (xCall f_put_together (xCons (xV 7) (xCons (xL oTup (xCons (xV 3) xNil)) xNil))) (xCons (xCall f__law_without_loops (xCons (xV 0) (xCons (xK (.int 0)) xNil))) xNil))))) (sRet (xK (.bool false))) sNil) sNil) (sRet (xK (.bool true)))))))))))
def f__law_both : List D → Option (D × List D) := fnF 6 false g__law_both
def S__law_both : FS := ⟨[.sh, .sh], [.no, .no], .sh, f__law_both⟩
def g__law_refused : SF :=
  (sSeq (sSet 2 (xK (.int 0))) (sSeq (sTry 3 (sDrop (mOf (xCall f_put_together (xCons (xV 0) (xCons (xV 1) xNil))))) (rfC r_put_together (xCons (xV 0) (xCons (xV 1) xNil))) (sSet 2 (x2 dAdd (xV 2) (xL oInt (xCons (xAnd (x2 dEq (x1 (dFld "word") (xV 3)) (xK (.str "lot"))) (x2 dEq (x1 (dFld "at") (xV 3)) (x1 dNeg (xK (.int 1))))) xNil))))) (sSeq (sTry 3 (sDrop (mOf (xCall f_home_of (xCons (xV 0) (xCons (xV 1) xNil))))) (rfC r_home_of (xCons (xV 0) (xCons (xV 1) xNil))) (sSet 2 (x2 dAdd (xV 2) (xL oInt (xCons (xAnd (x2 dEq (x1 (dFld "word") (xV 3)) (xK (.str "lot"))) (x2 dEq (x1 (dFld "at") (xV 3)) (x1 dNeg (xK (.int 1))))) xNil))))) (sRet (x2 dEq (xV 2) (xK (.int 2)))))))
def f__law_refused : List D → Option (D × List D) := fnF 2 false g__law_refused
def S__law_refused : FS := ⟨[.sh, .sh], [.no, .no], .sh, f__law_refused⟩
def g__law_books : SF :=
  (sSeq (sSet 4 (xL mkLst (xCons (xCall f_backwards (xCons (xV 0) xNil)) (xCons (xCall f_hung (xCons (xV 0) (xCons (xV 2) xNil))) (xCons (xCall f_joined (xCons (xV 0) (xCons (xV 1) xNil))) (xCons (xCall f_dealt (xCons (xV 0) (xCons (xL oTup (xCons (x1 oLstRng (xL oLen (xCons (x2 dIx (xV 0) (xK (.int 1))) xNil))) xNil)) xNil))) xNil)))))) (sSeq (sFor (lOf rng1 (xCons (xL oLen (xCons (x2 dIx (xV 0) (xK (.int 1))) xNil)) xNil)) (gSet 5) (sDrop (xApp 4 (mOf (xCall f_parted (xCons (xV 0) (xCons (xV 5) xNil))))))) (sSeq (sIf (bAnd (bE (x2 dGt (xL oLen (xCons (xV 3) xNil)) (xK (.int 0)))) (bE (x2 dLt (xL oLen (xCons (xV 3) xNil)) (x2 dIx (xV 0) (xK (.int 0)))))) (sDrop (xApp 4 (mOf (xCall f_put_together (xCons (xV 0) (xCons (xV 3) xNil)))))) sNil) (sSeq (sFor (lSeq (xV 4)) (gSet 6) (sIf (bOr (bE (x2 dNotB (xCall f_is_heap (xCons (xV 6) xNil)) (xK (.bool true)))) (bE (x2 dNotB (xCall f_is_book (xCons (xV 6) xNil)) (xK (.bool true))))) (sRet (xK (.bool false))) sNil)) (sRet (xK (.bool true)))))))
def f__law_books : List D → Option (D × List D) := fnF 3 false g__law_books
def S__law_books : FS := ⟨[.sh, .sh, .sh, .sh], [.no, .no, .no, .no], .sh, f__law_books⟩
def g__law_lots : SF :=
  (sSeq (sSet 3 (x2 dIx (xV 0) (xK (.int 0)))) (sSeq (sSet 4 (xL oTup (xCons (x1 oLstRng (xV 3)) xNil))) (sSeq (sIf (bOr (bNot (bE (xCall f__law_refused (xCons (xV 0) (xCons (xL mkTup xNil) xNil))))) (bNot (bE (xCall f__law_refused (xCons (xV 0) (xCons (xV 4) xNil)))))) (sRet (xK (.bool false))) sNil) (sSeq (sSet 5 (xL oTup (xCons (xCmp (lOf rng1 (xCons (xV 3) xNil)) (gSet 6) (bOr (bE (x2 dIn (xV 6) (xV 1))) (bE (x2 dIn (xV 6) (xV 2)))) (xV 6)) xNil))) (sSeq (sFor (lSeq (xL mkLst (xCons (xV 1) (xCons (xV 5) xNil)))) (gSet 7) (sIf (bAnd (bE (x2 dGt (xL oLen (xCons (xV 7) xNil)) (xK (.int 0)))) (bE (x2 dLt (xL oLen (xCons (xV 7) xNil)) (xV 3)))) (sSeq (sIf (bNot (bE (xCall (f__law_same 6) (xCons (xCall f_home_of (xRo [1, 0] (xCons (xV 7) (xCons (xV 0) xNil)))) (xCons (xCall f__law_home (xCons (xV 3) (xCons (xV 7) xNil))) xNil))))) (sRet (xK (.bool false))) sNil) (sIf (bNot (bE (xCall (f__law_same 6) (xCons (xCall f_put_together (xRo [1, 0] (xCons (xV 7) (xCons (xV 0) xNil)))) (xCons (xCall f__law_put (xCons (xV 0) (xCons (xV 7) xNil))) xNil))))) (sRet (xK (.bool false))) sNil)) sNil)) (sSeq (sIf (bOr (bE (x2 dEq (xL oLen (xCons (xV 1) xNil)) (xK (.int 0)))) (bE (x2 dEq (xL oLen (xCons (xV 5) xNil)) (xV 3)))) (sRet (xK (.bool true))) sNil) (sSeq (sSet 8 (xCall f_home_of (xCons (xV 0) (xCons (xV 1) xNil)))) (sSeq (sSet 9 (xL oTup (xCons (xCmp (lOf rng1 (xCons (x2 dAdd (x2 dSub (xV 3) (xL oLen (xCons (xV 1) xNil))) (xK (.int 1))) xNil)) (gSet 6) (bE (x2 dIn (xV 6) (xCmp (lSeq (xV 5)) (gSet 10) bYes (x2 dIx (xV 8) (xV 10))))) (xV 6)) xNil))) (sSeq (sSet 11 (xCall f_put_together (xCons (xV 0) (xCons (xV 1) xNil)))) (sSeq (sIf (bNot (bE (xCall (f__law_same 6) (xCons (xCall f_put_together (xCons (xV 11) (xCons (xV 9) xNil))) (xCons (xCall f_put_together (xCons (xV 0) (xCons (xV 5) xNil))) xNil))))) (sRet (xK (.bool false))) sNil) (sSeq (sSet 12 (xCall f_home_of (xCons (xV 11) (xCons (xV 9) xNil)))) (sSeq (sIf (bNot (bE (xCall (f__law_same 6) (xCons (xL oTup (xCons (xCmp (lSeq (xV 8)) (gSet 6) bYes (x2 dIx (xV 12) (xV 6))) xNil)) (xCons (xCall f_home_of (xCons (xV 0) (xCons (xV 5) xNil))) xNil))))) (sRet (xK (.bool false))) sNil) (sSeq (sSet 13 (xL oLen (xCons (xCmp (lSeq (x2 dIx (xV 0) (xK (.int 1)))) (gSet 14) (bAnd (bE (x2 dIn (x2 dIx (xV 14) (xK (.int 0))) (xV 5))) (bE (x2 dNotIn (x2 dIx (xV 14) (xK (.int 1))) (xV 5)))) (xV 14)) xNil))) (sRet (xAnd (xCall (f__law_same 6) (xCons (xCall f_gates_of (xCons (xV 11) (xCons (xV 9) xNil))) (xCons (xV 13) xNil))) (xCall (f__law_same 6) (xCons (xCall f_gates_of (xCons (xCall f_put_together (xCons (xV 0) (xCons (xV 5) xNil))) (xCons (xL mkTup (xCons (x2 dIx (xV 12) (x2 dIx (xV 8) (x2 dIx (xV 5) (xK (.int 0))))) xNil)) xNil))) (xCons (xV 13) xNil))))))))))))))))))
def f__law_lots : List D → Option (D × List D) := fnF 12 false g__law_lots
def S__law_lots : FS := ⟨[.sh, .sh, .sh], [.no, .no, .no], .sh, f__law_lots⟩
def g_law : SF :=
  (sSeq (sSet 1 (xCall f__law_cells (xCons (xV 0) (xCons (xK (.int 180)) xNil)))) (sSeq (sSetM 2 (x2M dAdd (mOf (xK (.int 1))) (xCallM [some 1, none] f__law_pick (xmCons (xMov 1) (xmCons (mOf (xK (.int 5))) xmNil))))) (sSeq (sIfM (bME (x2M dEq (xCallM [some 1, none] f__law_pick (xmCons (xMov 1) (xmCons (mOf (xK (.int 8))) xmNil))) (mOf (xK (.int 3))))) (sSetM 2 (x2M dAdd (mOf (xK (.int 6))) (xCallM [some 1, none] f__law_pick (xmCons (xMov 1) (xmCons (mOf (xK (.int 4))) xmNil))))) sNil) (sSeq (sSetM 3 (xCallM [some 1, none] f__law_pick (xmCons (xMov 1) (xmCons (mOf (xK (.int 3))) xmNil)))) (sSeq (sSetM 4 (xCallM [some 1, none, none] f__law_heap (xmCons (xMov 1) (xmCons (mOf (xV 3)) (xmCons (mOf (xV 2)) xmNil))))) (sSeq (sSetM 5 (xCallM [some 1, none, none] f__law_heap (xmIoL 1 (xmCons (mOf (xV 3)) (xmCons (x2M dAdd (mOf (xK (.int 1))) (xCallM [some 1, none] f__law_pick (xmCons (xMov 1) (xmCons (mOf (xL oMin2 (xCons (xV 2) (xCons (x2 dSub (xK (.int 11)) (xV 2)) xNil)))) xmNil)))) xmNil))))) (sSeq (sSetM 6 (xLM oTup (xmCons (xCallM [some 1, none] f__law_dealt (xmCons (xMov 1) (xmCons (mOf (x1 oLstRng (xV 2))) xmNil))) xmNil))) (sSeq (sSetM 7 (xLM oTup (xmCons (xCallM [some 1, none] f__law_dealt (xmCons (xMov 1) (xmCons (mOf (x1 oLstRng (xV 2))) xmNil))) xmNil))) (sSeq (sSetM 8 (xLM oTup (xmCons (xCallM [some 1, none] f__law_dealt (xmCons (xMov 1) (xmCons (mOf (x1 oLstRng (xL oLen (xCons (x2 dIx (xV 4) (xK (.int 1))) xNil)))) xmNil))) xmNil))) (sSeq (sSetM 9 (xLM oTup (xmCons (xCallM [some 1, none] f__law_dealt (xmCons (xMov 1) (xmCons (mOf (x1 oLstRng (xL oLen (xCons (x2 dIx (xV 4) (xK (.int 1))) xNil)))) xmNil))) xmNil))) (sSeq (sSetM 10 (xCallM [some 1, none] f__law_pick (xmCons (xMov 1) (xmCons (mOf (xV 2)) xmNil)))) (sSeq (sSetM 11 (xLM oTup (xmCons (xCmpM (lmOf (lOf rng1 (xCons (xV 2) xNil))) (gSet 12) (bME (x2M dGt (xCallM [some 1, none] f__law_pick (xmCons (xMov 1) (xmCons (mOf (xK (.int 5))) xmNil))) (mOf (xK (.int 2))))) (mOf (xV 12))) xmNil))) (sSeq (sSetM 13 (xLM oTup (xmCons (xCmpM (lmOf (lOf rng1 (xCons (xV 2) xNil))) (gSet 12) (bME (x2M dGt (xCallM [some 1, none] f__law_pick (xmCons (xMov 1) (xmCons (mOf (xK (.int 5))) xmNil))) (mOf (xK (.int 3))))) (mOf (xV 12))) xmNil))) (sSeq (sIf (bOr (bNot (bE (xCall f__law_turns (xCons (xV 4) (xCons (xV 6) (xCons (xV 7) (xCons (xV 8) (xCons (xV 9) xNil)))))))) (bNot (bE (xCall f__law_longer (xCons (xV 4) (xCons (xV 10) xNil)))))) (sRet (xK (.bool false))) sNil) (sSeq (sIf (bOr (bNot (bE (xCall f__law_both (xCons (xV 4) (xCons (xV 5) xNil))))) (bNot (bE (xCall f__law_lots (xCons (xV 4) (xCons (xV 11) (xCons (xV 13) xNil))))))) (sRet (xK (.bool false))) sNil) (sRet (xOr (x2 dEq (xV 3) (xK (.int 0))) (xCall f__law_books (xCons (xV 4) (xCons (xV 5) (xCons (xV 10) (xCons (xV 11) xNil))))))))))))))))))))))
def f_law : List D → Option (D × List D) := fnF 13 false g_law
def S_law : FS := ⟨[.sh], [.no], .sh, f_law⟩
end LawK04

set_option linter.all false
set_option maxRecDepth 10000
namespace LawK04
open PySem Pv
/-! k04: from below -/
theorem f_int (i : Int) : f_is_integer [.int i] = some (.bool true, [.int i]) := by
  simp [f_is_integer, g_is_integer, isiT]
theorem f_num (i : Int) : f_is_number [.int i] = some (.bool (decide (0 ≤ i)), [.int i]) := by
  simp [f_is_number, g_is_number, f_int]
/-- a leaf, a heap, a lot by data -/
def leafD (p : Int × Int) : D := .tuple [.int p.1, .int p.2]
def leavesD (ls : List (Int × Int)) : D := .tuple (ls.map leafD)
def pileD (n : Int) (ls : List (Int × Int)) : D := .tuple [.int n, leavesD ls]
def lotD (ws : List Int) : D := .tuple (ws.map .int)
theorem at0 {α : Type} (a : α) (l : List α) : L2.atI (a :: l) 0 = some a := by
  have := atI_nat (l := a :: l) (n := 0) (by simp)
  simpa using this
theorem at1 {α : Type} (a b : α) (l : List α) : L2.atI (a :: b :: l) 1 = some b := by
  have := atI_nat (l := a :: b :: l) (n := 1) (by simp)
  simpa using this
theorem f_word (n : Int) (ls : List (Int × Int)) (i : Int) : f_is_word [pileD n ls, .int i] = some (.bool (decide (0 ≤ i) && decide (i < n)), [pileD n ls, .int i]) := by
  simp [f_is_word, g_is_word, f_num, pileD, at0]
  by_cases h : 0 ≤ i <;> simp [h]
/-- the numbers of the leaves that p takes -/
def sel (p : Int × Int → Bool) : Nat → List (Int × Int) → List D
  | _, [] => []
  | k, l :: ls => if p l then .int k :: sel p (k + 1) ls else sel p (k + 1) ls
theorem sel_app (p : Int × Int → Bool) : ∀ (k : Nat) (xs : List (Int × Int)) (l : Int × Int), sel p k (xs ++ [l]) = sel p k xs ++ (if p l then [.int ((k + xs.length : Nat) : Int)] else [])
  | k, [], l => by
    simp only [List.nil_append, sel, List.length_nil, Nat.add_zero]
  | k, x :: xs, l => by
    simp only [List.cons_append, sel, sel_app p (k + 1) xs l, List.length_cons]
    rw [show k + 1 + xs.length = k + (xs.length + 1) by omega]
    by_cases h : p x
    · simp only [h, if_true, List.cons_append]
    · simp only [h, if_false, Bool.false_eq_true]
theorem sel_len (p : Int × Int → Bool) : ∀ (k : Nat) (xs : List (Int × Int)), (sel p k xs).length ≤ xs.length
  | _, [] => Nat.le_refl _
  | k, x :: xs => by
    have := sel_len p (k + 1) xs
    simp only [sel]
    split <;> simp only [List.length_cons] <;> omega
theorem cmpP_sel {i j : Nat} {c : BF} {δ : List D} {p : Int × Int → Bool} (hc : ∀ (k : Nat) (l : Int × Int), c ((δ.set i (.int k)).set j (leafD l)) = some (p l)) (hi : ∀ a b : D, ((δ.set i a).set j b)[i]? = some a) :
    ∀ (k : Nat) (ls : List (Int × Int)), cmpP (gTupD [i, j]) c (xV i) δ (enumD k (ls.map leafD)) = some (sel p k ls)
  | k, [] => rfl
  | k, l :: ls => by
    have ih := cmpP_sel hc hi (k + 1) ls
    rw [List.map_cons, enumD, cmpP, ih]
    have e : gTupD [i, j] (.tuple [.int k, leafD l]) δ = some ((δ.set i (.int k)).set j (leafD l)) := rfl
    rw [e, Option.bind_some, hc, Option.bind_some, sel]
    cases p l with
    | true => simp only [if_true, xV_e, hi, Option.bind_some]
    | false => simp only [Bool.false_eq_true, if_false]
theorem enum_len (k : Nat) (ls : List (Int × Int)) : (enumD k (ls.map leafD)).length = ls.length := by rw [enumD_len, List.length_map]
theorem lEnum_e (n : Int) (ls : List (Int × Int)) (δ : List D) (f : EF) (h : f δ = some (leavesD ls)) : lEnum (xCons f xNil) δ = some (enumD 0 (ls.map leafD)) := by
  simp [lEnum, h, leavesD]
theorem at_pile1 (n : Int) (ls : List (Int × Int)) : L2.atI [PyData.int n, leavesD ls] 1 = some (leavesD ls) := at1 _ _ _
theorem at_pile0 (n : Int) (ls : List (Int × Int)) : L2.atI [PyData.int n, leavesD ls] 0 = some (.int n) := at0 _ _
theorem at_leaf0 (l : Int × Int) : dIx (leafD l) (.int 0) = some (.int l.1) := at0 _ _
theorem at_leaf1 (l : Int × Int) : dIx (leafD l) (.int 1) = some (.int l.2) := at1 _ _ _
theorem dIx_pile1 (n : Int) (ls : List (Int × Int)) : dIx (pileD n ls) (.int 1) = some (leavesD ls) := at1 _ _ _
theorem dIx_pile0 (n : Int) (ls : List (Int × Int)) : dIx (pileD n ls) (.int 0) = some (.int n) := at0 _ _
theorem eqv_leaf (l m : Int × Int) : dEq (leafD l) (leafD m) = some (.bool (l == m)) := by
  have h1 : SeqAt.shaped (leafD l) = true := by
    simp [leafD, SeqAt.shaped, PyData.canLay0, PyData.canLayAll0, PyData.depth, PyData.depthAll]
  have h2 : SeqAt.shaped (leafD m) = true := by
    simp [leafD, SeqAt.shaped, PyData.canLay0, PyData.canLayAll0, PyData.depth, PyData.depthAll]
  unfold dEq
  rw [h1, h2]
  have : PyData.eqv (leafD l) (leafD m) = (l == m) := by
    simp [leafD, PyData.eqv, PyData.eqvAll]
    rfl
  rw [this]
  rfl
theorem atI_leaves {ls : List (Int × Int)} {k : Nat} {l : Int × Int} (h : ls[k]? = some l) : dIx (leavesD ls) (.int k) = some (leafD l) := by
  have hk : k < (ls.map leafD).length := by rw [List.length_map]; exact (List.getElem?_eq_some_iff.mp h).1
  show L2.atI (ls.map leafD) (k : Int) = _
  rw [atI_nat hk, List.getElem?_map, h]
  rfl
theorem dLen_leaves (ls : List (Int × Int)) : oLen [leavesD ls] = some (.int ls.length) := by simp [leavesD]
theorem f_num_nat (k : Nat) : f_is_number [.int (k : Int)] = some (.bool true, [.int (k : Int)]) := by
  rw [f_num]
  simp
theorem forL_inv {tg : D → List D → Option (List D)} {b : SF} (I : Nat → List D → Prop) : ∀ (ds : List D) (k : Nat) (δ : List D), I k δ →
    (∀ (j : Nat) (d : D) (δ : List D), ds[j]? = some d → I (k + j) δ → ∃ δ1 δ2, tg d δ = some δ1 ∧ b δ1 = some (.nx δ2) ∧ I (k + j + 1) δ2) → ∃ δ', forL tg b ds δ = some (.nx δ') ∧ I (k + ds.length) δ'
  | [], k, δ, h, _ => ⟨δ, rfl, h⟩
  | d :: ds, k, δ, h, st => by
    obtain ⟨δ1, δ2, e1, e2, h2⟩ := st 0 d δ rfl h
    obtain ⟨δ', e3, h3⟩ := forL_inv I ds (k + 1) δ2 h2 fun j d' δ e hi => by
      have := st (j + 1) d' δ (by simpa using e) (by rw [show k + (j + 1) = k + 1 + j by omega]; exact hi)
      rw [show k + (j + 1) + 1 = k + 1 + j + 1 by omega] at this
      exact this
    refine ⟨δ', ?_, by rw [List.length_cons, show k + (ds.length + 1) = k + 1 + ds.length by omega]; exact h3⟩
    unfold forL
    rw [e1, Option.bind_some, e2]
    exact e3
/-- ascending words of the heap -/
def IsLot (n : Int) (ws : List Int) : Prop := ws.Pairwise (· < ·) ∧ ∀ w ∈ ws, 0 ≤ w ∧ w < n
theorem f_lot (n : Int) (ls : List (Int × Int)) (ws : List Int) (h : IsLot n ws) : f_is_lot [pileD n ls, lotD ws] = some (.bool true, [pileD n ls, lotD ws]) := by
  obtain ⟨hp, hw⟩ := h
  have key := forL_inv (tg := gSet 3) (b := sSeq (sIf (bOr (bNot (bE (xCall f_is_word (xCons (xV 0) (xCons (xV 3) xNil))))) (bE (x2 dLe (xV 3) (xV 2)))) (sRet (xK (.bool false))) sNil) (sSet 2 (xV 3)))
    (fun k δ => ∃ (last : Int) (a : D), δ = [pileD n ls, lotD ws, .int last, a] ∧ ∀ j w, k ≤ j → ws[j]? = some w → last < w) (ws.map .int) 0 [pileD n ls, lotD ws, .int (-1), .none]
    ⟨-1, .none, rfl, fun j w _ hj => by have := hw w (List.mem_of_getElem? hj); omega⟩ ?_
  · obtain ⟨δ', e, last, a, rfl, _⟩ := key
    have hs : lSeq (xV 1) [pileD n ls, lotD ws, .int (-1), .none] = some (ws.map .int) := rfl
    have hn : dIsi "tuple" (lotD ws) = some (.bool true) := rfl
    simp only [f_is_lot, g_is_lot, fnF_e, List.cons_append, List.nil_append, List.replicate, sSeq_e, sIf_e, bNot_e, bE_e, x1_e, xV_e, List.getElem?_cons_succ, List.getElem?_cons_zero, Option.bind_some, hn, toB_e, Bool.not_true, Bool.false_eq_true, if_false, sNil_e, sSet_e, xK_e, dNeg_e,
      List.set_cons_succ, List.set_cons_zero, sFor_e, hs, e, sRet_e, outF_rt, List.length_cons, List.length_nil, List.take_succ_cons, List.take_zero]
  · rintro j d δ hd ⟨last, a, rfl, hlast⟩
    rw [List.getElem?_map] at hd
    obtain ⟨w, hjw, rfl⟩ := Option.map_eq_some_iff.mp hd
    have h1 := hw w (List.mem_of_getElem? hjw)
    have h2 := hlast j w (by omega) hjw
    refine ⟨_, [pileD n ls, lotD ws, .int w, .int w], rfl, ?_, w, .int w, rfl, fun j' w' hj' hw' => ?_⟩
    · have h3 : ¬ w ≤ last := by omega
      have e1 : f_is_word [pileD n ls, .int w] = some (.bool true, [pileD n ls, .int w]) := by
        rw [f_word, decide_eq_true h1.1, decide_eq_true h1.2]; rfl
      have c1 : bOr (bNot (bE (xCall f_is_word (xCons (xV 0) (xCons (xV 3) xNil))))) (bE (x2 dLe (xV 3) (xV 2))) [pileD n ls, lotD ws, .int last, .int w] = some false := by
        have c2 : xCall f_is_word (xCons (xV 0) (xCons (xV 3) xNil)) [pileD n ls, lotD ws, .int last, .int w] = some (.bool true) := by
          show (f_is_word [pileD n ls, .int w]).map (·.1) = _
          rw [e1]; rfl
        have c3 : x2 dLe (xV 3) (xV 2) [pileD n ls, lotD ws, .int last, .int w] = some (.bool false) := by
          show some (PyData.bool (decide (w ≤ last))) = _
          rw [decide_eq_false h3]
        rw [bOr_e, bNot_e, bE_e, c2, bE_e, c3]; rfl
      show sSeq _ _ [pileD n ls, lotD ws, .int last, .int w] = _
      rw [sSeq_e, sIf_e, c1]; rfl
    · have h5 := List.pairwise_iff_getElem.mp hp
      obtain ⟨a1, a2⟩ := List.getElem?_eq_some_iff.mp hjw
      obtain ⟨b1, b2⟩ := List.getElem?_eq_some_iff.mp hw'
      have := h5 j j' a1 b1 (by omega)
      omega
theorem flat_int (i : Int) : flatD (.int i) = true := rfl
theorem any_lot (ws : List Int) (i : Int) : ((ws.map PyData.int).any fun z => PyData.eqv z (.int i)) = ws.contains i := by
  induction ws with
  | nil => rfl
  | cons w ws ih =>
    rw [List.map_cons, List.any_cons, ih, List.contains_cons, eqv_int]
    congr 1
    by_cases h : w = i
    · subst h; simp
    · have h' : ¬ i = w := fun z => h z.symm
      rw [beq_eq_false_iff_ne.mpr h, beq_eq_false_iff_ne.mpr h']
theorem all_flat (ws : List Int) : (ws.map PyData.int).all flatD = true := by simp [flatD]
theorem dIn_lot (ws : List Int) (i : Int) : dIn (.int i) (lotD ws) = some (.bool (ws.contains i)) := by
  unfold dIn lotD
  simp only [asSeq_t, flat_int, all_flat, Bool.and_self, if_true, any_lot]
theorem dNotIn_lot (ws : List Int) (i : Int) : dNotIn (.int i) (lotD ws) = some (.bool (!ws.contains i)) := by
  unfold dNotIn lotD
  simp only [asSeq_t, flat_int, all_flat, Bool.and_self, if_true, any_lot]
def inn (ws : List Int) (l : Int × Int) : Bool := ws.contains l.1 && ws.contains l.2
def gon (ws : List Int) (l : Int × Int) : Bool := ws.contains l.1 && !ws.contains l.2
def com (ws : List Int) (l : Int × Int) : Bool := ws.contains l.2 && !ws.contains l.1
theorem f_leaving_e (n : Int) (ls : List (Int × Int)) (ws : List Int) (h : IsLot n ws) (hl : ls.length ≤ sizeLine) : f_leaving [pileD n ls, lotD ws] = some (.tuple (sel (gon ws) 0 ls), [pileD n ls, lotD ws]) := by
  have hs : cmpP (gTupD [2, 3]) (bAnd (bE (x2 dIn (x2 dIx (xV 3) (xK (.int 0))) (xV 1))) (bE (x2 dNotIn (x2 dIx (xV 3) (xK (.int 1))) (xV 1)))) (xV 2) [pileD n ls, lotD ws, .none, .none] (enumD 0 (ls.map leafD)) = some (sel (gon ws) 0 ls) :=
    cmpP_sel (fun k l => by
      simp only [gon, bAnd_e, bE_e, x2_e, xV_e, List.getElem?_cons_succ, List.getElem?_cons_zero, Option.bind_some, List.set_cons_succ, List.set_cons_zero, xK_e, at_leaf0, at_leaf1, dIn_lot, dNotIn_lot, toB_e]
      cases ws.contains l.1 <;> simp) (fun a b => by simp) 0 ls
  have he : lEnum (xCons (x2 dIx (xV 0) (xK (.int 1))) xNil) [pileD n ls, lotD ws, .none, .none] = some (enumD 0 (ls.map leafD)) := lEnum_e n ls _ _ (by simp [dIx_pile1])
  simp [f_leaving, g_leaving, f_lot n ls ws h, he, hs, enum_len, hl]
theorem f_gates (n : Int) (ls : List (Int × Int)) (ws : List Int) (h : IsLot n ws) (hl : ls.length ≤ sizeLine) : f_gates_of [pileD n ls, lotD ws] = some (.int (sel (gon ws) 0 ls).length, [pileD n ls, lotD ws]) := by
  simp [f_gates_of, g_gates_of, f_leaving_e n ls ws h hl]
def okS : Nat → D → Bool
  | 0, _ => false
  | _ + 1, .int _ => true
  | k + 1, .tuple ds => decide (ds.length ≤ sizeLine) && ds.all (okS k)
  | _ + 1, _ => false
theorem rng_get {n j : Nat} {d : D} (h : (rngD 0 n)[j]? = some d) : d = .int j ∧ j < n := by
  unfold rngD at h
  rw [List.getElem?_map] at h
  obtain ⟨k, h1, rfl⟩ := Option.map_eq_some_iff.mp h
  obtain ⟨h2, h3⟩ := List.getElem?_eq_some_iff.mp h1
  rw [List.length_range] at h2
  rw [List.getElem_range] at h3
  subst h3
  exact ⟨by rw [Int.zero_add], h2⟩
theorem rng_len (n : Nat) : (rngD 0 n).length = n := by simp [rngD]
theorem rng1_e {n : Nat} (h : n ≤ sizeLine) : rng1 [.int n] = some (rngD 0 n) := by
  have h2 : (n : Int) < 2 ^ 62 := by
    have : (n : Int) ≤ 2 ^ 24 := by exact_mod_cast (by simpa [sizeLine] using h)
    omega
  unfold rng1
  split
  · rename_i j e
    cases e
    rw [if_pos ⟨by omega, h2⟩, Int.toNat_natCast]
  · rename_i h3
    exact absurd rfl (h3 _)
/-- a comprehension each of whose items is True -/
theorem cmpP_true {i : Nat} {f : EF} {δ : List D} : ∀ (ds : List D), (∀ d ∈ ds, f (δ.set i d) = some (.bool true)) → cmpP (gSet i) bYes f δ ds = some (ds.map fun _ => .bool true)
  | [], _ => rfl
  | d :: ds, h => by
    rw [cmpP, gSet_e, Option.bind_some, bYes_e, Option.bind_some, if_pos rfl, h d List.mem_cons_self, Option.bind_some, cmpP_true ds fun e he => h e (List.mem_cons_of_mem _ he)]
    rfl
theorem all_true {α : Type} : ∀ (l : List α), oAll [.list (l.map fun _ => .bool true)] = some (.bool true) := fun l => by
  have : bools (l.map fun _ => PyData.bool true) = some (l.map fun _ => true) := by
    induction l with
    | nil => rfl
    | cons a l ih => rw [List.map_cons, bools, toB_e, Option.bind_some, ih]; rfl
  unfold oAll
  simp only [this, Option.map_some]
  simp
theorem okS_t (k : Nat) (ds : List D) : okS (k + 1) (.tuple ds) = (decide (ds.length ≤ sizeLine) && ds.all (okS k)) := rfl
theorem isi_tt (ds : List D) : dIsi "tuple" (.tuple ds) = some (.bool true) := rfl
theorem isi_ti (i : Int) : dIsi "tuple" (.int i) = some (.bool false) := rfl
theorem isi_ii (i : Int) : dIsi "int" (.int i) = some (.bool true) := rfl
theorem isi_bi (i : Int) : dIsi "bool" (.int i) = some (.bool false) := rfl
theorem same_i (k : Nat) (i : Int) : f__law_same (k + 1) [.int i, .int i] = some (.bool true, [.int i, .int i]) := by
  rw [f__law_same, fnF_e, g__law_same]
  simp only [List.cons_append, List.nil_append, List.replicate, sSeq_e, sIf_e, bE_e, x1_e, xV_e, List.getElem?_cons_succ, List.getElem?_cons_zero, Option.bind_some, isi_ti, toB_e, Bool.false_eq_true, if_false, sNil_e, sRet_e, xAnd_e, isi_ii, if_true, xNot_e, isi_bi, Bool.not_false, x2_e, dEq_e, beq_self_eq_true, outF_rt, List.length_cons, List.length_nil, List.take_succ_cons, List.take_zero]
theorem same_t (k : Nat) (ds : List D) (hl : ds.length ≤ sizeLine) (h : ∀ x ∈ ds, f__law_same k [x, x] = some (.bool true, [x, x])) : f__law_same (k + 1) [.tuple ds, .tuple ds] = some (.bool true, [.tuple ds, .tuple ds]) := by
  have hc : cmpP (gSet 2) bYes (xCall (f__law_same k) (xCons (x2 dIx (xV 0) (xV 2)) (xCons (x2 dIx (xV 1) (xV 2)) xNil))) [.tuple ds, .tuple ds, .none] (rngD 0 ds.length) = some ((rngD 0 ds.length).map fun _ => .bool true) := by
    refine cmpP_true _ fun d hd => ?_
    obtain ⟨j, hj⟩ := List.mem_iff_getElem?.mp hd
    obtain ⟨rfl, hj2⟩ := rng_get hj
    have e : dIx (.tuple ds) (.int j) = some ds[j] := by
      show L2.atI ds (j : Int) = _
      rw [atI_nat hj2, List.getElem?_eq_getElem hj2]
    have e2 := h ds[j] (List.getElem_mem hj2)
    simp only [xCall_e, xCons_e, xNil_e, x2_e, xV_e, List.set_cons_succ, List.set_cons_zero, List.getElem?_cons_succ, List.getElem?_cons_zero, Option.bind_some, e, e2, Option.map_some]
  have n1 : dNe (.int ds.length) (.int ds.length) = some (.bool false) := by
    rw [dNe_e]; simp
  have c1 : bOr (bNot (bE (x1 (dIsi "tuple") (xV 0)))) (bE (x2 dNe (xL oLen (xCons (xV 0) xNil)) (xL oLen (xCons (xV 1) xNil)))) [.tuple ds, .tuple ds, .none] = some false := by
    show (((dNe (.int ds.length) (.int ds.length)).bind toB)) = _
    rw [n1]; rfl
  have c2 : xCmp (lOf rng1 (xCons (xL oLen (xCons (xV 1) xNil)) xNil)) (gSet 2) bYes (xCall (f__law_same k) (xCons (x2 dIx (xV 0) (xV 2)) (xCons (x2 dIx (xV 1) (xV 2)) xNil))) [.tuple ds, .tuple ds, .none] = some (.list ((rngD 0 ds.length).map fun _ => .bool true)) := by
    have e1 : lOf rng1 (xCons (xL oLen (xCons (xV 1) xNil)) xNil) [.tuple ds, .tuple ds, .none] = some (rngD 0 ds.length) := by
      have e0 : xCons (xL oLen (xCons (xV 1) xNil)) xNil [.tuple ds, .tuple ds, .none] = some [.int ds.length] := rfl
      rw [lOf_e, e0, Option.bind_some]
      exact rng1_e hl
    rw [xCmp_e, e1, Option.bind_some, rng_len, if_pos hl, hc]
    rfl
  have c3 : sRet (xL oAll (xCons (xCmp (lOf rng1 (xCons (xL oLen (xCons (xV 1) xNil)) xNil)) (gSet 2) bYes (xCall (f__law_same k) (xCons (x2 dIx (xV 0) (xV 2)) (xCons (x2 dIx (xV 1) (xV 2)) xNil)))) xNil)) [.tuple ds, .tuple ds, .none] = some (.rt (.bool true) [.tuple ds, .tuple ds, .none]) := by
    rw [sRet_e, xL_e, xCons_e, c2, Option.bind_some, xNil_e, Option.bind_some, Option.bind_some, all_true]
    rfl
  have c4 : g__law_same (f__law_same k) [.tuple ds, .tuple ds, .none] = some (.rt (.bool true) [.tuple ds, .tuple ds, .none]) := by
    refine sSeq_rt ?_
    rw [sIf_e]
    show sSeq _ _ [.tuple ds, .tuple ds, .none] = _
    rw [sSeq_nx (δ' := [.tuple ds, .tuple ds, .none]) (by rw [sIf_e, c1]; rfl)]
    exact c3
  rw [f__law_same, fnF_e]
  show (g__law_same (f__law_same k) [.tuple ds, .tuple ds, .none]).bind _ = _
  rw [c4]
  rfl
theorem same_refl (k : Nat) : ∀ x : D, okS k x = true → f__law_same k [x, x] = some (.bool true, [x, x]) := by
  induction k with
  | zero => intro x h; cases h
  | succ k ih =>
    intro x h
    cases x with
    | int i => exact same_i k i
    | tuple ds =>
      rw [okS_t, Bool.and_eq_true] at h
      exact same_t k ds (of_decide_eq_true h.1) fun x hx => ih x (List.all_eq_true.mp h.2 x hx)
    | _ => cases h
theorem ok_sel (p : Int × Int → Bool) : ∀ (k : Nat) (ls : List (Int × Int)), (sel p k ls).all (okS 5) = true
  | _, [] => rfl
  | k, l :: ls => by
    rw [sel]
    split
    · rw [List.all_cons, ok_sel p (k + 1) ls]; rfl
    · exact ok_sel p (k + 1) ls
theorem same_int (i : Int) : f__law_same 6 [.int i, .int i] = some (.bool true, [.int i, .int i]) := same_refl 6 _ rfl
theorem same_sel (p : Int × Int → Bool) (ls : List (Int × Int)) (hl : ls.length ≤ sizeLine) : f__law_same 6 [.tuple (sel p 0 ls), .tuple (sel p 0 ls)] = some (.bool true, [.tuple (sel p 0 ls), .tuple (sel p 0 ls)]) := by
  refine same_refl 6 _ ?_
  show (decide ((sel p 0 ls).length ≤ sizeLine) && (sel p 0 ls).all (okS 5)) = true
  rw [ok_sel, decide_eq_true (Nat.le_trans (sel_len p 0 ls) hl)]
  rfl
theorem getL_e {δ : List D} {i : Nat} {ds : List D} (h : δ[i]? = some (.list ds)) : getL δ i = some ds := by unfold getL; rw [h]
theorem app_e {i : Nat} {f : EF} {δ : List D} {y : D} {ds : List D} (hf : f δ = some y) (h : δ[i]? = some (.list ds)) (hl : ds.length < sizeLine) : xApp i (mOf f) δ = some (.none, δ.set i (.list (ds ++ [y]))) := by
  unfold xApp
  rw [mOf_e, hf]
  show (getL δ i).bind _ = _
  rw [getL_e h]
  show (if ds.length < sizeLine then _ else _) = _
  rw [if_pos hl]
theorem ixN_nat {n a : Nat} (h : a < n) : L2.ixN n (a : Int) = some a := by
  unfold L2.ixN
  simp [h]
theorem drop_e {m : EM} {δ δ' : List D} {d : D} (h : m δ = some (d, δ')) : sDrop m δ = some (.nx δ') := by rw [sDrop_e, h]; rfl
theorem cmpP_const {i : Nat} {d : D} {δ : List D} : ∀ ds : List D, cmpP (gSet i) bYes (xK d) δ ds = some (ds.map fun _ => d)
  | [] => rfl
  | x :: ds => by
    rw [cmpP, gSet_e, Option.bind_some, bYes_e, Option.bind_some, if_pos rfl, xK_e, Option.bind_some, cmpP_const ds]
    rfl
/-- a heap of N words -/
structure IsPile (N : Nat) (ls : List (Int × Int)) : Prop where
  len : ls.length ≤ 100000
  fst : ∀ l ∈ ls, 0 ≤ l.1 ∧ l.1 < N
  snd : ∀ l ∈ ls, 0 ≤ l.2 ∧ l.2 < N
theorem size_le : 100000 < sizeLine := by decide
theorem IsPile.sz {N : Nat} {ls : List (Int × Int)} (h : IsPile N ls) : ls.length ≤ sizeLine := Nat.le_trans h.len (Nat.le_of_lt size_le)
theorem take_step {ls : List (Int × Int)} {k : Nat} {l : Int × Int} (h : ls[k]? = some l) : ls.take (k + 1) = ls.take k ++ [l] := by
  rw [List.take_succ, h]
  rfl
theorem take_len {ls : List (Int × Int)} {k : Nat} {l : Int × Int} (h : ls[k]? = some l) : (ls.take k).length = k := by
  have := (List.getElem?_eq_some_iff.mp h).1
  rw [List.length_take]
  omega
theorem cmp_rng {i n : Nat} {d : D} {δ : List D} {f : LF} (h : f δ = some [.int (n : Nat)]) (hn : n ≤ sizeLine) : xCmp (lOf rng1 f) (gSet i) bYes (xK d) δ = some (.list ((rngD 0 n).map fun _ => d)) := by
  have e : lOf rng1 f δ = some (rngD 0 n) := by rw [lOf_e, h, Option.bind_some]; exact rng1_e hn
  rw [xCmp_e, e, Option.bind_some, rng_len, if_pos hn, cmpP_const]
  rfl
/-- a loop over range(n) that falls through -/
theorem for_rng {i n : Nat} {f : LF} {b : SF} {δ : List D} (I : Nat → List D → Prop) (h : f δ = some [.int (n : Nat)]) (hn : n ≤ sizeLine) (h0 : I 0 δ) (st : ∀ (j : Nat) (δ : List D), j < n → I j δ → ∃ δ2, b (δ.set i (.int j)) = some (.nx δ2) ∧ I (j + 1) δ2) :
    ∃ δ', sFor (lOf rng1 f) (gSet i) b δ = some (.nx δ') ∧ I n δ' := by
  have e : lOf rng1 f δ = some (rngD 0 n) := by rw [lOf_e, h, Option.bind_some]; exact rng1_e hn
  obtain ⟨δ', h1, h2⟩ := forL_inv (tg := gSet i) (b := b) I (rngD 0 n) 0 δ h0 fun j d δ hd hi => by
    obtain ⟨rfl, hj⟩ := rng_get hd
    rw [Nat.zero_add] at hi ⊢
    obtain ⟨δ2, h1, h2⟩ := st j δ hj hi
    exact ⟨_, δ2, rfl, h1, h2⟩
  refine ⟨δ', ?_, by rw [Nat.zero_add, rng_len] at h2; exact h2⟩
  rw [sFor_e, e]
  exact h1
end LawK04

set_option linter.all false
set_option maxRecDepth 10000
namespace LawK04
open PySem Pv
/-! k04: what is drawn -/
abbrev Lf := Int × Int
theorem dIx_list {ds : List D} {n : Nat} {d : D} (h : ds[n]? = some d) : dIx (.list ds) (.int n) = some d := by
  show L2.atI _ _ = _
  rw [atI_nat (List.getElem?_eq_some_iff.mp h).1, h]
def cellsD (cs : List Int) : D := .list (cs.map .int)
theorem f_pick (cs : List Int) {m : Int} (hm : 0 < m) : ∃ p cs', f__law_pick [cellsD cs, .int m] = some (.int p, [cellsD cs', .int m]) ∧ 0 ≤ p ∧ p < m := by
  cases e : cs.getLast? with
  | none =>
    have : cs = [] := by simpa using e
    subst this
    refine ⟨0, [], ?_, by omega, hm⟩
    rfl
  | some c =>
    have hne : cs ≠ [] := fun z => by subst z; cases e
    have hlen : cs.length ≠ 0 := fun z => hne (List.length_eq_zero_iff.mp z)
    refine ⟨c % m, cs.dropLast, ?_, Int.emod_nonneg _ (by omega), Int.emod_lt_of_pos _ hm⟩
    have c1 : bE (x2 dEq (xL oLen (xCons (xV 0) xNil)) (xK (.int 0))) [cellsD cs, .int m] = some false := by
      show (dEq (.int ((cs.map PyData.int).length : Nat)) (.int 0)).bind toB = _
      rw [dEq_e, Option.bind_some, toB_e, List.length_map]
      congr 1
      exact beq_eq_false_iff_ne.mpr (by omega)
    have c2 : xPop 0 [cellsD cs, .int m] = some (.int c, [cellsD cs.dropLast, .int m]) := by
      show (getL [cellsD cs, .int m] 0).bind _ = _
      rw [getL_e (ds := cs.map .int) rfl, Option.bind_some, List.getLast?_map, e]
      show some (PyData.int c, [PyData.list (cs.map PyData.int).dropLast, PyData.int m]) = _
      rw [← List.map_dropLast]
      rfl
    have c3 : sRetM (x2M dMd (xLM oInt (xmCons (xPop 0) xmNil)) (mOf (xV 1))) [cellsD cs, .int m] = some (.rt (.int (c % m)) [cellsD cs.dropLast, .int m]) := by
      rw [sRetM_e, x2M_e, xLM_e, xmCons_e, c2, Option.bind_some, xmNil_e, Option.bind_some, Option.bind_some]
      show ((((some (PyData.int c, [cellsD cs.dropLast, PyData.int m])).bind fun p => ((some (PyData.int m, p.2)).bind fun s => (dMd p.1 s.1).map (·, s.2))))).bind _ = _
      rw [Option.bind_some, Option.bind_some, dMd_e hm]
      rfl
    unfold f__law_pick
    rw [fnF_e]
    show (g__law_pick [cellsD cs, .int m]).bind _ = _
    unfold g__law_pick
    rw [sSeq_nx (δ' := [cellsD cs, .int m]) (by rw [sIf_e, c1]; rfl), c3]
    rfl
abbrev pk (i : Nat) (f : EF) : EM := xCallM [some i, none] f__law_pick (xmCons (xMov i) (xmCons (mOf f) xmNil))
theorem pk_e {i : Nat} {f : EF} {δ : List D} {cs : List Int} {m : Int} (h : δ[i]? = some (cellsD cs)) (hf : f δ = some (.int m)) (hm : 0 < m) : ∃ p cs', pk i f δ = some (.int p, δ.set i (cellsD cs')) ∧ 0 ≤ p ∧ p < m := by
  obtain ⟨p, cs', e, h1, h2⟩ := f_pick cs hm
  refine ⟨p, cs', ?_, h1, h2⟩
  unfold pk
  rw [xCallM_e, xmCons_e, xMov_e, h, Option.map_some, Option.bind_some, xmCons_e, mOf_e, hf, Option.map_some, Option.bind_some, xmNil_e, Option.bind_some, Option.bind_some, Option.bind_some, e]
  rfl
/-- things dealt anew -/
theorem era_perm {α : Type} {l : List α} {i : Nat} (h : i < l.length) : (l[i] :: l.eraseIdx i).Perm l := by
  rw [List.eraseIdx_eq_take_drop_succ]
  have e : l.take i ++ l[i] :: l.drop (i + 1) = l := by rw [← List.drop_eq_getElem_cons h, List.take_append_drop]
  refine .trans ?_ (.of_eq e)
  exact List.perm_middle.symm
theorem perm_back {α β : Type} {f : α → β} {out M : List β} (h : out.Perm M) : ∀ {L : List α}, M = L.map f → ∃ ls : List α, out = ls.map f ∧ ls.Perm L := by
  induction h with
  | nil => intro L e; exact ⟨[], rfl, by cases L with | nil => exact .nil | cons a L => cases e⟩
  | cons x h ih =>
    intro L e
    cases L with
    | nil => cases e
    | cons a L =>
      cases e
      obtain ⟨ls, rfl, p⟩ := ih rfl
      exact ⟨a :: ls, rfl, p.cons a⟩
  | swap x y l =>
    intro L e
    match L, e with
    | a :: b :: L, e =>
      cases e
      exact ⟨b :: a :: L, rfl, .swap a b L⟩
  | trans h1 h2 ih1 ih2 =>
    intro L e
    obtain ⟨ls, e2, p⟩ := ih2 e
    obtain ⟨ms, e3, p2⟩ := ih1 e2
    exact ⟨ms, e3, p2.trans p⟩
def dBody : SF := sDrop (xApp 3 (xPopAt 2 (pk 0 (xL oLen (xCons (xV 2) xNil)))))
theorem l_dealt (cs : List Int) (ds : List D) (hn : ds.length ≤ 100000) : ∃ out cs', f__law_dealt [cellsD cs, .list ds] = some (.list out, [cellsD cs', .list ds]) ∧ out.Perm ds := by
  have sz := size_le
  obtain ⟨δ', l1, cs', rest, out, a, e, h1, h2, h3⟩ := for_rng (i := 4) (n := ds.length) (f := xCons (xL oLen (xCons (xV 1) xNil)) xNil) (b := dBody) (δ := [cellsD cs, .list ds, .list ds, .list [], .none])
    (fun k δ => ∃ cs rest out a, δ = [cellsD cs, .list ds, .list rest, .list out, a] ∧ rest.length + k = ds.length ∧ out.length = k ∧ (rest ++ out).Perm ds)
    (by simp) (by omega) ⟨cs, ds, [], .none, rfl, by omega, rfl, by rw [List.append_nil]⟩ fun j δ hj ⟨cs, rest, out, a, e, h1, h2, h3⟩ => by
      subst e
      have hm : (0 : Int) < (rest.length : Int) := by omega
      obtain ⟨p, cs', ep, p0, p1⟩ := pk_e (i := 0) (f := xL oLen (xCons (xV 2) xNil)) (δ := [cellsD cs, .list ds, .list rest, .list out, .int j]) (m := rest.length) rfl rfl hm
      obtain ⟨q, rfl⟩ := Int.eq_ofNat_of_zero_le p0
      have hq : q < rest.length := by omega
      refine ⟨[cellsD cs', .list ds, .list (rest.eraseIdx q), .list (out ++ [rest[q]]), .int j], ?_, cs', rest.eraseIdx q, out ++ [rest[q]], .int j, rfl, ?_, by simp [h2], ?_⟩
      · unfold dBody
        refine drop_e (d := .none) ?_
        have e2 : xPopAt 2 (pk 0 (xL oLen (xCons (xV 2) xNil))) [cellsD cs, .list ds, .list rest, .list out, .int j] = some (rest[q], [cellsD cs', .list ds, .list (rest.eraseIdx q), .list out, .int j]) := by
          unfold xPopAt
          rw [ep, Option.bind_some]
          show (getL [cellsD cs', .list ds, .list rest, .list out, .int j] 2).bind _ = _
          rw [getL_e (ds := rest) rfl, Option.bind_some, if_pos ⟨by omega, by omega⟩, ixN_nat hq, Option.bind_some, List.getElem?_eq_getElem hq]
          rfl
        show xApp 3 (xPopAt 2 (pk 0 (xL oLen (xCons (xV 2) xNil)))) [cellsD cs, .list ds, .list rest, .list out, .int j] = _
        unfold xApp
        rw [e2, Option.bind_some]
        show (getL [cellsD cs', .list ds, .list (rest.eraseIdx q), .list out, .int j] 3).bind _ = _
        rw [getL_e (ds := out) rfl, Option.bind_some, if_pos (by omega)]
        rfl
      · rw [List.length_eraseIdx_of_lt hq]; omega
      · refine .trans ?_ h3
        have p1 : (rest[q] :: rest.eraseIdx q).Perm rest := era_perm hq
        rw [← List.append_assoc]
        refine (List.perm_append_singleton _ _).trans ?_
        exact (p1.append_right out)
  subst e
  have hr : rest = [] := List.length_eq_zero_iff.mp (by omega)
  refine ⟨out, cs', ?_, by rw [hr, List.nil_append] at h3; exact h3⟩
  unfold dBody pk at l1
  have g : g__law_dealt [cellsD cs, .list ds, .none, .none, .none] = some (.rt (.list out) [cellsD cs', .list ds, .list rest, .list out, a]) := by
    unfold g__law_dealt
    rw [sSeq_nx (δ' := [cellsD cs, .list ds, .list ds, .none, .none]) rfl, sSeq_nx (δ' := [cellsD cs, .list ds, .list ds, .list [], .none]) rfl, sSeq_nx l1]
    rfl
  unfold f__law_dealt
  rw [fnF_e]
  show (g__law_dealt [cellsD cs, .list ds, .none, .none, .none]).bind _ = _
  rw [g]
  rfl
def IsW (N : Nat) (W : List Int) : Prop := ∀ w ∈ W, 0 ≤ w ∧ w < (N : Int)
theorem dNotIn_list (ws : List Int) (i : Int) : dNotIn (.int i) (.list (ws.map .int)) = some (.bool (!ws.contains i)) := by
  unfold dNotIn
  simp only [asSeq_l, flat_int, all_flat, Bool.and_self, if_true, any_lot]
theorem cmpM_cons {tg : D → List D → Option (List D)} {c : BM} {e : EM} {x y : D} {xs ys : List D} {δ δ1 δ2 δ3 : List D} (h1 : tg x δ = some δ1) (h2 : c δ1 = some (true, δ1)) (h3 : e δ1 = some (y, δ2)) (h4 : cmpM tg c e xs δ2 = some (ys, δ3)) : cmpM tg c e (x :: xs) δ = some (y :: ys, δ3) := by
  rw [cmpM, h1, Option.bind_some, h2, Option.bind_some, if_pos rfl, h3, Option.bind_some, h4]
  rfl
theorem cmpM_pk {N : Nat} (hN : 0 < N) (E x3 x5 x6 : D) : ∀ (ds : List D) (cs : List Int) (a : D), ∃ W cs' a', cmpM (gSet 4) (bMOf bYes) (pk 0 (xV 1)) ds [cellsD cs, .int N, E, x3, a, x5, x6] = some (W.map .int, [cellsD cs', .int N, E, x3, a', x5, x6]) ∧ W.length = ds.length ∧ IsW N W
  | [], cs, a => ⟨[], cs, a, rfl, rfl, fun _ h => nomatch h⟩
  | d :: ds, cs, a => by
    obtain ⟨p, cs1, e1, p0, p1⟩ := pk_e (i := 0) (f := xV 1) (δ := [cellsD cs, .int N, E, x3, d, x5, x6]) (m := N) rfl rfl (by omega)
    obtain ⟨W, cs', a', e2, h2, h3⟩ := cmpM_pk hN E x3 x5 x6 ds cs1 d
    refine ⟨p :: W, cs', a', cmpM_cons rfl rfl e1 e2, by simp [h2], fun w hw => ?_⟩
    rcases List.mem_cons.mp hw with e | e
    · rw [e]; exact ⟨p0, p1⟩
    · exact h3 w e
theorem rng_of {n : Nat} {δ : List D} {f : LF} (h : f δ = some [.int (n : Nat)]) (hn : n ≤ sizeLine) : lOf rng1 f δ = some (rngD 0 n) := by rw [lOf_e, h, Option.bind_some]; exact rng1_e hn
def rBody : SF := sIf (bE (x2 dNotIn (xV 5) (xV 3))) (sDrop (xIns 3 (pk 0 (x2 dAdd (xL oLen (xCons (xV 3) xNil)) (xK (.int 1)))) (xV 5))) sNil
theorem rBody_e {N : Nat} (E a x6 : D) (cs W : List Int) {j : Nat} (hj : j < N) (hW : IsW N W) (hl : W.length ≤ 90000) :
    ∃ cs' W', rBody [cellsD cs, .int N, E, .list (W.map .int), a, .int j, x6] = some (.nx [cellsD cs', .int N, E, .list (W'.map .int), a, .int j, x6]) ∧ IsW N W' ∧ W'.length ≤ W.length + 1 ∧ (j : Int) ∈ W' ∧ ∀ w ∈ W, w ∈ W' := by
  have c : bE (x2 dNotIn (xV 5) (xV 3)) [cellsD cs, .int N, E, .list (W.map .int), a, .int j, x6] = some (!W.contains (j : Int)) := by
    show (dNotIn (.int j) (.list (W.map .int))).bind toB = _
    rw [dNotIn_list]
    rfl
  by_cases h : W.contains (j : Int) = true
  · refine ⟨cs, W, ?_, hW, Nat.le_succ _, by simpa using h, fun _ h => h⟩
    unfold rBody
    rw [sIf_e, c, h]
    rfl
  · have h' : W.contains (j : Int) = false := by simpa using h
    obtain ⟨p, cs', ep, p0, p1⟩ := pk_e (i := 0) (f := x2 dAdd (xL oLen (xCons (xV 3) xNil)) (xK (.int 1))) (δ := [cellsD cs, .int N, E, .list (W.map .int), a, .int j, x6]) (m := (W.length : Int) + 1) rfl (by
      show dAdd (.int ((W.map PyData.int).length : Nat)) (.int 1) = _
      rw [dAdd_e, List.length_map]) (by omega)
    refine ⟨cs', W.take p.toNat ++ [(j : Int)] ++ W.drop p.toNat, ?_, fun w hw => ?_, ?_, by simp, fun w hw => ?_⟩
    · unfold rBody
      rw [sIf_e, c, h', Option.bind_some]
      show sDrop _ _ = _
      refine drop_e (d := .none) ?_
      have sz := size_le
      unfold xIns
      rw [ep, Option.bind_some]
      show ((some (PyData.int j)).bind fun y => (getL [cellsD cs', .int N, E, .list (W.map .int), a, .int j, x6] 3).bind _) = _
      rw [Option.bind_some, getL_e (ds := W.map .int) rfl, Option.bind_some, if_pos ⟨by rw [List.length_map]; omega, p0, by omega⟩]
      simp only [List.map_append, List.map_take, List.map_drop, List.map_cons, List.map_nil]
      rfl
    · simp only [List.mem_append, List.mem_singleton] at hw
      rcases hw with (q | q) | q
      · exact hW w (List.mem_of_mem_take q)
      · rw [q]; omega
      · exact hW w (List.mem_of_mem_drop q)
    · simp only [List.length_append, List.length_take, List.length_drop, List.length_singleton]; omega
    · have := List.take_append_drop p.toNat W
      rw [← this] at hw
      simp only [List.mem_append, List.mem_singleton] at hw ⊢
      rcases hw with q | q
      · exact .inl (.inl q)
      · exact .inr q
def lvs (W : List Int) : List Lf := (List.range W.length).map fun k => (W.getD k 0, W.getD ((k + 1) % W.length) 0)
theorem getD_in {N : Nat} {W : List Int} (h : IsW N W) {k : Nat} (hk : k < W.length) : 0 ≤ W.getD k 0 ∧ W.getD k 0 < (N : Int) := by
  have : W.getD k 0 = W[k] := by simp [hk]
  rw [this]
  exact h _ (List.getElem_mem hk)
theorem lvs_in {N : Nat} {W : List Int} (h : IsW N W) : ∀ l ∈ lvs W, (0 ≤ l.1 ∧ l.1 < (N : Int)) ∧ (0 ≤ l.2 ∧ l.2 < (N : Int)) := fun l hl => by
  unfold lvs at hl
  obtain ⟨k, hk, rfl⟩ := List.mem_map.mp hl
  have hk := List.mem_range.mp hk
  exact ⟨getD_in h hk, getD_in h (Nat.mod_lt _ (by omega))⟩
theorem cmpP_nat {i : Nat} {f : EF} {δ : List D} (h : Nat → D) : ∀ ks : List Nat, (∀ k ∈ ks, f (δ.set i (.int ((0 : Int) + (k : Int)))) = some (h k)) → cmpP (gSet i) bYes f δ (ks.map fun (k : Nat) => .int ((0 : Int) + (k : Int))) = some (ks.map h)
  | [], _ => rfl
  | k :: ks, q => by
    rw [List.map_cons, cmpP, gSet_e, Option.bind_some, bYes_e, Option.bind_some, if_pos rfl, q k List.mem_cons_self, Option.bind_some, cmpP_nat h ks fun e he => q e (List.mem_cons_of_mem _ he)]
    rfl
theorem callM1 {i : Nat} {F : List D → Option (D × List D)} {f : EF} {δ : List D} {c x d c' x' : D} (h : δ[i]? = some c) (hf : f δ = some x) (e : F [c, x] = some (d, [c', x'])) : xCallM [some i, none] F (xmCons (xMov i) (xmCons (mOf f) xmNil)) δ = some (d, δ.set i c') := by
  rw [xCallM_e, xmCons_e, xMov_e, h, Option.map_some, Option.bind_some, xmCons_e, mOf_e, hf, Option.map_some, Option.bind_some, xmNil_e, Option.bind_some, Option.bind_some, Option.bind_some, e]
  rfl
theorem f_ring {N E : Nat} (cs : List Int) (h1 : 1 ≤ N) (h2 : N ≤ 1000) (hE : E ≤ 1000) : ∃ (W : List Int) (ls : List Lf) (cs' : List Int), f__law_ring [cellsD cs, .int N, .int E] = some (.list (ls.map leafD), [cellsD cs', .int N, .int E]) ∧ ls.Perm (lvs W) ∧ IsW N W ∧ (∀ i : Nat, i < N → (i : Int) ∈ W) ∧ W.length ≤ E + N := by
  have sz := size_le
  obtain ⟨W0, cs0, a0, e0, l0, w0⟩ := cmpM_pk (N := N) (by omega) (.int E) .none .none .none (rngD 0 E) cs .none
  have u1 : sSetM 3 (xCmpM (lmOf (lOf rng1 (xCons (xV 2) xNil))) (gSet 4) (bMOf bYes) (pk 0 (xV 1))) [cellsD cs, .int N, .int E, .none, .none, .none, .none] = some (.nx [cellsD cs0, .int N, .int E, .list (W0.map .int), a0, .none, .none]) := by
    have r := rng_of (n := E) (δ := [cellsD cs, .int N, .int E, .none, .none, .none, .none]) (f := xCons (xV 2) xNil) rfl (by omega)
    rw [sSetM_e, xCmpM_e, lmOf_e, r, Option.map_some, Option.bind_some, if_pos (by rw [rng_len]; omega), e0]
    rfl
  obtain ⟨δ1, u2, cs1, W, a, b, e1, w1, w2, w3⟩ := for_rng (i := 5) (n := N) (f := xCons (xV 1) xNil) (b := rBody) (δ := [cellsD cs0, .int N, .int E, .list (W0.map .int), a0, .none, .none])
    (fun j δ => ∃ cs W a b, δ = [cellsD cs, .int N, .int E, .list (W.map .int), a, b, .none] ∧ IsW N W ∧ W.length ≤ E + j ∧ ∀ i : Nat, i < j → (i : Int) ∈ W) rfl (by omega) ⟨cs0, W0, a0, .none, rfl, w0, by rw [l0, rng_len]; omega, fun _ h => absurd h (Nat.not_lt_zero _)⟩ fun j δ hj ⟨cs, W, a, b, e, w1, w2, w3⟩ => by
      subst e
      obtain ⟨cs', W', e, v1, v2, v3, v4⟩ := rBody_e (.int E) a .none cs W hj w1 (by omega)
      refine ⟨_, e, cs', W', a, .int j, rfl, v1, by omega, fun i hi => ?_⟩
      rcases Nat.lt_or_ge i j with q | q
      · exact v4 _ (w3 i q)
      · rw [show i = j by omega]; exact v3
  subst e1
  have hpos : 0 < W.length := List.length_pos_of_mem (w3 0 (by omega))
  have hc : cmpP (gSet 4) bYes (xL mkTup (xCons (x2 dIx (xV 3) (xV 4)) (xCons (x2 dIx (xV 3) (x2 dMd (xL oInt (xCons (x2 dAdd (xV 4) (xK (.int 1))) xNil)) (xL oLen (xCons (xV 3) xNil)))) xNil))) [cellsD cs1, .int N, .int E, .list (W.map .int), a, b, .none] (rngD 0 W.length) = some ((lvs W).map leafD) := by
    unfold lvs rngD
    rw [List.map_map]
    refine cmpP_nat _ _ fun k hk => ?_
    have hk := List.mem_range.mp hk
    rw [Int.zero_add]
    have hk2 : (k + 1) % W.length < W.length := Nat.mod_lt _ hpos
    have i1 : dIx (.list (W.map .int)) (.int k) = some (.int (W.getD k 0)) := dIx_list (by rw [List.getElem?_map, List.getElem?_eq_getElem hk]; simp [hk])
    have i2 : dIx (.list (W.map .int)) (.int (((k + 1) % W.length : Nat) : Int)) = some (.int (W.getD ((k + 1) % W.length) 0)) := dIx_list (by rw [List.getElem?_map, List.getElem?_eq_getElem hk2]; simp [hk2])
    have md : dMd (.int ((k : Int) + 1)) (.int ((W.map PyData.int).length : Nat)) = some (.int (((k + 1) % W.length : Nat) : Int)) := by
      rw [List.length_map, dMd_e (by omega)]
      rw [Int.natCast_emod]
      rfl
    have s1 : x2 dIx (xV 3) (xV 4) [cellsD cs1, .int N, .int E, .list (W.map .int), .int k, b, .none] = some (.int (W.getD k 0)) := i1
    have s2 : x2 dIx (xV 3) (x2 dMd (xL oInt (xCons (x2 dAdd (xV 4) (xK (.int 1))) xNil)) (xL oLen (xCons (xV 3) xNil))) [cellsD cs1, .int N, .int E, .list (W.map .int), .int k, b, .none] = some (.int (W.getD ((k + 1) % W.length) 0)) := by
      have t : x2 dMd (xL oInt (xCons (x2 dAdd (xV 4) (xK (.int 1))) xNil)) (xL oLen (xCons (xV 3) xNil)) [cellsD cs1, .int N, .int E, .list (W.map .int), .int k, b, .none] = some (.int (((k + 1) % W.length : Nat) : Int)) := md
      rw [x2_e, t]
      exact i2
    show xL mkTup _ [cellsD cs1, .int N, .int E, .list (W.map .int), .int k, b, .none] = _
    rw [xL_e, xCons_e, s1, Option.bind_some, xCons_e, s2, Option.bind_some, xNil_e, Option.bind_some, Option.bind_some, Option.bind_some, mkTup_e (by show 2 ≤ sizeLine; omega)]
    rfl
  have ll : (lvs W).length = W.length := by simp [lvs]
  have u3 : sSet 6 (xCmp (lOf rng1 (xCons (xL oLen (xCons (xV 3) xNil)) xNil)) (gSet 4) bYes (xL mkTup (xCons (x2 dIx (xV 3) (xV 4)) (xCons (x2 dIx (xV 3) (x2 dMd (xL oInt (xCons (x2 dAdd (xV 4) (xK (.int 1))) xNil)) (xL oLen (xCons (xV 3) xNil)))) xNil)))) [cellsD cs1, .int N, .int E, .list (W.map .int), a, b, .none] =
      some (.nx [cellsD cs1, .int N, .int E, .list (W.map .int), a, b, .list ((lvs W).map leafD)]) := by
    have r := rng_of (n := W.length) (δ := [cellsD cs1, .int N, .int E, .list (W.map .int), a, b, .none]) (f := xCons (xL oLen (xCons (xV 3) xNil)) xNil) (by
      show some [PyData.int ((W.map PyData.int).length : Nat)] = _
      rw [List.length_map]) (by omega)
    rw [sSet_e, xCmp_e, r, Option.bind_some, if_pos (by rw [rng_len]; omega), hc]
    rfl
  obtain ⟨out, cs2, ed, op⟩ := l_dealt cs1 ((lvs W).map leafD) (by rw [List.length_map, ll]; omega)
  obtain ⟨ls, eo, hin⟩ := perm_back (f := leafD) (L := lvs W) op rfl
  subst eo
  have u4 : sRetM (xCallM [some 0, none] f__law_dealt (xmCons (xMov 0) (xmCons (mOf (xV 6)) xmNil))) [cellsD cs1, .int N, .int E, .list (W.map .int), a, b, .list ((lvs W).map leafD)] = some (.rt (.list (ls.map leafD)) [cellsD cs2, .int N, .int E, .list (W.map .int), a, b, .list ((lvs W).map leafD)]) := by
    have t : xCallM [some 0, none] f__law_dealt (xmCons (xMov 0) (xmCons (mOf (xV 6)) xmNil)) [cellsD cs1, .int N, .int E, .list (W.map .int), a, b, .list ((lvs W).map leafD)] = some (.list (ls.map leafD), [cellsD cs2, .int N, .int E, .list (W.map .int), a, b, .list ((lvs W).map leafD)]) := by
      rw [callM1 (c := cellsD cs1) (x := .list ((lvs W).map leafD)) rfl rfl ed]
      rfl
    rw [sRetM_e, t]
    rfl
  unfold rBody pk at u2
  unfold pk at u1
  have g : g__law_ring [cellsD cs, .int N, .int E, .none, .none, .none, .none] = some (.rt (.list (ls.map leafD)) [cellsD cs2, .int N, .int E, .list (W.map .int), a, b, .list ((lvs W).map leafD)]) := by
    unfold g__law_ring
    rw [sSeq_nx u1, sSeq_nx u2, sSeq_nx u3]
    exact u4
  refine ⟨W, ls, cs2, ?_, hin, w1, w3, w2⟩
  unfold f__law_ring
  rw [fnF_e]
  show (g__law_ring [cellsD cs, .int N, .int E, .none, .none, .none, .none]).bind _ = _
  rw [g]
  rfl
theorem pkAdd {i : Nat} {c m : Int} {δ : List D} {cs : List Int} (h : δ[i]? = some (cellsD cs)) (hm : 0 < m) : ∃ p cs', x2M dAdd (mOf (xK (.int c))) (pk i (xK (.int m))) δ = some (.int (c + p), δ.set i (cellsD cs')) ∧ 0 ≤ p ∧ p < m := by
  obtain ⟨p, cs', e, h1, h2⟩ := pk_e (f := xK (.int m)) h rfl hm
  refine ⟨p, cs', ?_, h1, h2⟩
  rw [x2M_e, mOf_e, xK_e, Option.map_some, Option.bind_some, e, Option.bind_some, dAdd_e]
  rfl
theorem pkIf {i : Nat} {c m : Int} {δ : List D} {cs : List Int} (h : δ[i]? = some (cellsD cs)) (hm : 0 < m) : ∃ (b : Bool) (cs' : List Int), bME (x2M dEq (pk i (xK (.int m))) (mOf (xK (.int c)))) δ = some (b, δ.set i (cellsD cs')) := by
  obtain ⟨p, cs', e, h1, h2⟩ := pk_e (f := xK (.int m)) h rfl hm
  refine ⟨p == c, cs', ?_⟩
  rw [bME_e, x2M_e, e, Option.bind_some, mOf_e, xK_e, Option.map_some, Option.bind_some, dEq_e, Option.map_some, Option.bind_some, toB_e]
  rfl
/-- what stands in a slot may be set anew, or not -/
theorem drawnIf {i j : Nat} {c c2 m m2 : Int} {δ : List D} {cs : List Int} {s : Int} (h : δ[i]? = some (cellsD cs)) (hj : δ[j]? = some (.int s)) (hij : i ≠ j) (hm : 0 < m) (hm2 : 0 < m2) :
    ∃ (p : Int) (cs' : List Int), sIfM (bME (x2M dEq (pk i (xK (.int m))) (mOf (xK (.int c))))) (sSetM j (x2M dAdd (mOf (xK (.int c2))) (pk i (xK (.int m2))))) sNil δ = some (.nx ((δ.set i (cellsD cs')).set j (.int p))) ∧ (p = s ∨ (c2 ≤ p ∧ p < c2 + m2)) := by
  obtain ⟨b, cs1, e1⟩ := pkIf (c := c) h hm
  have hi : i < δ.length := (List.getElem?_eq_some_iff.mp h).1
  have h1 : (δ.set i (cellsD cs1))[i]? = some (cellsD cs1) := List.getElem?_set_self hi
  rw [sIfM_e, e1, Option.bind_some]
  cases b with
  | true =>
    obtain ⟨p, cs2, e2, p0, p1⟩ := pkAdd (c := c2) h1 hm2
    refine ⟨c2 + p, cs2, ?_, .inr ⟨by omega, by omega⟩⟩
    rw [if_pos rfl, sSetM_e, e2, List.set_set]
    rfl
  | false =>
    refine ⟨s, cs1, ?_, .inl rfl⟩
    rw [if_neg Bool.false_ne_true, sNil_e]
    have : (δ.set i (cellsD cs1)).set j (.int s) = δ.set i (cellsD cs1) := set_self (by rw [List.getElem?_set_ne hij]; exact hj)
    rw [this]
theorem callM2 {i : Nat} {F : List D → Option (D × List D)} {f f2 : EF} {δ : List D} {c x y d c' x' y' : D} (h : δ[i]? = some c) (hf : f δ = some x) (hf2 : f2 δ = some y) (e : F [c, x, y] = some (d, [c', x', y'])) : xCallM [some i, none, none] F (xmCons (xMov i) (xmCons (mOf f) (xmCons (mOf f2) xmNil))) δ = some (d, δ.set i c') := by
  rw [xCallM_e, xmCons_e, xMov_e, h, Option.map_some, Option.bind_some, xmCons_e, mOf_e, hf, Option.map_some, Option.bind_some, xmCons_e, mOf_e, hf2, Option.map_some, Option.bind_some, xmNil_e, Option.bind_some, Option.bind_some, Option.bind_some, Option.bind_some, e]
  rfl
theorem mkT (ds : List D) (h : ds.length ≤ 8) : mkTup ds = some (.tuple ds) := mkTup_e (by have := size_le; omega)
theorem mkL (ds : List D) (h : ds.length ≤ 8) : mkLst ds = some (.list ds) := mkLst_e (by have := size_le; omega)
theorem isLot_of {N : Nat} {ws : List Int} (h : (decide (ws.Pairwise (· < ·)) && ws.all fun w => decide (0 ≤ w) && decide (w < (N : Int))) = true) : IsLot N ws := by
  rw [Bool.and_eq_true] at h
  refine ⟨of_decide_eq_true h.1, fun w hw => ?_⟩
  have := List.all_eq_true.mp h.2 w hw
  rw [Bool.and_eq_true] at this
  exact ⟨of_decide_eq_true this.1, of_decide_eq_true this.2⟩
theorem mulOk_r {i j : Int} (h1 : -(2 ^ 64) < j) (h2 : j < 2 ^ 64) : mulOk i j = true := by
  unfold mulOk
  rw [decide_eq_true h1, decide_eq_true h2]
  simp
theorem mulOk_l {i j : Int} (h1 : -(2 ^ 64) < i) (h2 : i < 2 ^ 64) : mulOk i j = true := by
  unfold mulOk
  rw [decide_eq_true h1, decide_eq_true h2]
  simp
theorem rng_lot (N : Nat) : IsLot N ((List.range N).map fun (k : Nat) => (0 : Int) + (k : Int)) := by
  refine ⟨?_, fun w hw => ?_⟩
  · rw [List.pairwise_map]
    exact List.pairwise_lt_range.imp fun h => by omega
  · obtain ⟨k, hk, rfl⟩ := List.mem_map.mp hw
    have := List.mem_range.mp hk
    omega
theorem sub_lot {N : Nat} {ws : List Int} (h : ws.Sublist ((List.range N).map fun (k : Nat) => (0 : Int) + (k : Int))) : IsLot N ws :=
  ⟨(rng_lot N).1.sublist h, fun w hw => (rng_lot N).2 w (h.subset hw)⟩
theorem tup0 : mkTup [] = some (.tuple []) := mkT _ (by simp)
theorem tup1 (a : D) : mkTup [a] = some (.tuple [a]) := mkT _ (by simp)
theorem tup2 (a b : D) : mkTup [a, b] = some (.tuple [a, b]) := mkT _ (by simp)
theorem tup3 (a b c : D) : mkTup [a, b, c] = some (.tuple [a, b, c]) := mkT _ (by simp)
theorem lst2 (a b : D) : mkLst [a, b] = some (.list [a, b]) := mkL _ (by simp)
theorem lst3 (a b c : D) : mkLst [a, b, c] = some (.list [a, b, c]) := mkL _ (by simp)
theorem lst4 (a b c d : D) : mkLst [a, b, c, d] = some (.list [a, b, c, d]) := mkL _ (by simp)
theorem lst8 (a b c d e f g h : D) : mkLst [a, b, c, d, e, f, g, h] = some (.list [a, b, c, d, e, f, g, h]) := mkL _ (by simp)
theorem lst_rng {n : Nat} (h : n ≤ 1000) : oLstRng (.int n) = some (.list (rngD 0 n)) := by
  have e : oLstRng (.int n) = if -(2 ^ 62) ≤ (n : Int) ∧ (n : Int) ≤ 2 ^ 24 then some (.list (rngD 0 (n : Int).toNat)) else none := rfl
  rw [e, if_pos ⟨by omega, by omega⟩, Int.toNat_natCast]
theorem f_mix (i j : Int) : ∃ r, f__law_mix [.int i, .int j] = some (.int r, [.int i, .int j]) := by
  have p1 : dMul (.int i) (.int 44111) = some (.int (i * 44111)) := dMul_e (mulOk_r (by omega) (by omega))
  have p2 : dMul (.int j) (.int 12007) = some (.int (j * 12007)) := dMul_e (mulOk_r (by omega) (by omega))
  have p3 : dMd (.int (i * 44111 + j * 12007 + 3643)) (.int 1000081) = some (.int ((i * 44111 + j * 12007 + 3643) % 1000081)) := dMd_e (by omega)
  obtain ⟨a, ea⟩ : ∃ a, a = (i * 44111 + j * 12007 + 3643) % 1000081 := ⟨_, rfl⟩
  have a0 : 0 ≤ a ∧ a < 1000081 := by omega
  have p4 : dMul (.int a) (.int a) = some (.int (a * a)) := dMul_e (mulOk_r (by omega) (by omega))
  have p5 : dMul (.int 23029) (.int a) = some (.int (23029 * a)) := dMul_e (mulOk_l (by omega) (by omega))
  have p6 : dMd (.int (a * a + 23029 * a + j)) (.int 999999797) = some (.int ((a * a + 23029 * a + j) % 999999797)) := dMd_e (by omega)
  obtain ⟨b, eb⟩ : ∃ b, b = (a * a + 23029 * a + j) % 999999797 := ⟨_, rfl⟩
  have p7 : dFd (.int b) (.int 8) = some (.int (b / 8)) := dFd_e (by omega) (by decide)
  have p8 : dMd (.int (b / 8 + a)) (.int 5040) = some (.int ((b / 8 + a) % 5040)) := dMd_e (by omega)
  rw [← ea] at p3
  rw [← eb] at p6
  refine ⟨(b / 8 + a) % 5040, ?_⟩
  unfold f__law_mix
  rw [fnF_e]
  show (g__law_mix [.int i, .int j, .none, .none]).bind _ = _
  unfold g__law_mix
  rw [sSeq_nx (δ' := [.int i, .int j, .int a, .none]) (by
    simp only [sSet_e, xL_e, xCons_e, xNil_e, x2_e, xV_e, xK_e, List.getElem?_cons_succ, List.getElem?_cons_zero, Option.bind_some, p1, p2, dAdd_e, oInt_i, p3]
    rfl)]
  rw [sSeq_nx (δ' := [.int i, .int j, .int a, .int b]) (by
    simp only [sSet_e, xL_e, xCons_e, xNil_e, x2_e, xV_e, xK_e, List.getElem?_cons_succ, List.getElem?_cons_zero, Option.bind_some, p4, p5, dAdd_e, oInt_i, p6]
    rfl)]
  simp only [sRet_e, xL_e, xCons_e, xNil_e, x2_e, xV_e, xK_e, List.getElem?_cons_succ, List.getElem?_cons_zero, Option.bind_some, p7, dAdd_e, oInt_i, p8]
  rfl
theorem appC {δ : List D} {f : EF} {out : List Int} {v : Int} (hf : f δ = some (.int v)) (h : δ[2]? = some (cellsD out)) (hl : out.length ≤ 100000) : sDrop (xApp 2 (mOf f)) δ = some (.nx (δ.set 2 (cellsD (out ++ [v])))) := by
  have sz := size_le
  refine drop_e (d := .none) ?_
  rw [app_e (y := .int v) (ds := out.map .int) hf h (by rw [List.length_map]; omega)]
  unfold cellsD
  rw [List.map_append]
  rfl
def hugeB : SF := sIf (bE (x2 dGt (xV 5) (xK (.int 0)))) (sSeq (sDrop (xApp 2 (mOf (x2 dMd (xL oInt (xCons (xV 5) xNil)) (xK (.int 5040)))))) (sSet 5 (x2 dFd (xV 5) (xK (.int 5040))))) sNil
theorem hugeB_e (n q s a c : D) (out : List Int) (v : Int) (hl : out.length ≤ 100000) : ∃ out' v', hugeB [n, q, cellsD out, s, a, .int v, c] = some (.nx [n, q, cellsD out', s, a, .int v', c]) ∧ out'.length ≤ out.length + 1 := by
  have c1 : bE (x2 dGt (xV 5) (xK (.int 0))) [n, q, cellsD out, s, a, .int v, c] = some (decide (0 < v)) := rfl
  unfold hugeB
  rw [sIf_e, c1, Option.bind_some]
  cases decide (0 < v) with
  | true =>
    refine ⟨out ++ [v % 5040], v / 5040, ?_, by simp⟩
    have t : x2 dMd (xL oInt (xCons (xV 5) xNil)) (xK (.int 5040)) [n, q, cellsD out, s, a, .int v, c] = some (.int (v % 5040)) := by
      show dMd (.int v) (.int 5040) = _
      exact dMd_e (by omega)
    have t2 : x2 dFd (xV 5) (xK (.int 5040)) [n, q, cellsD (out ++ [v % 5040]), s, a, .int v, c] = some (.int (v / 5040)) := by
      show dFd (.int v) (.int 5040) = _
      exact dFd_e (by omega) (by decide)
    rw [if_pos rfl, sSeq_nx (δ' := [n, q, cellsD (out ++ [v % 5040]), s, a, .int v, c]) (by rw [appC (out := out) t rfl hl]; rfl), sSet_e, t2]
    rfl
  | false =>
    refine ⟨out, v, ?_, by omega⟩
    rw [if_neg Bool.false_ne_true]
    rfl
def hugeF : SF := sFor (lOf rng1 (xCons (xK (.int 60)) xNil)) (gSet 6) hugeB
theorem hugeF_e (n q s a c : D) (out : List Int) (v : Int) (hl : out.length ≤ 90000) : ∃ out' v' c', hugeF [n, q, cellsD out, s, a, .int v, c] = some (.nx [n, q, cellsD out', s, a, .int v', c']) ∧ out'.length ≤ out.length + 60 := by
  have sz := size_le
  obtain ⟨δ', l, out', v', c', e, h⟩ := for_rng (i := 6) (n := 60) (f := xCons (xK (.int 60)) xNil) (b := hugeB) (δ := [n, q, cellsD out, s, a, .int v, c])
    (fun k δ => ∃ out' v' c', δ = [n, q, cellsD out', s, a, .int v', c'] ∧ out'.length ≤ out.length + k) rfl (by omega) ⟨out, v, c, rfl, by omega⟩ fun j δ hj ⟨o, v, c, e, h⟩ => by
      subst e
      obtain ⟨o', v', e, h'⟩ := hugeB_e n q s a (.int j) o v (by omega)
      exact ⟨_, e, o', v', .int j, rfl, by omega⟩
  subst e
  exact ⟨out', v', c', l, h⟩
def cNum : SF := sSeq (sSet 5 (xL oAbs (xCons (xL oInt (xCons (xV 4) xNil)) xNil))) (sSeq (sSet 3 (x2 dMd (xL oInt (xCons (x2 dAdd (x2 dMul (xV 3) (xK (.int 1039))) (xV 4)) xNil)) (xK (.int 1000081)))) (sIf (bE (x2 dGe (xV 5) (x2 dPow (xK (.int 10)) (xK (.int 18))))) hugeF (sDrop (xApp 2 (mOf (xCall f__law_mix (xCons (xL oInt (xCons (xV 4) xNil)) (xCons (xL oLen (xCons (xV 2) xNil)) xNil))))))))
theorem cNum_e (n q b c : D) (out : List Int) (s i : Int) (hl : out.length ≤ 90000) : ∃ out' s' b' c', cNum [n, q, cellsD out, .int s, .int i, b, c] = some (.nx [n, q, cellsD out', .int s', .int i, b', c']) ∧ out'.length ≤ out.length + 60 := by
  obtain ⟨v, ev⟩ : ∃ v, v = (if i < 0 then -i else i) := ⟨_, rfl⟩
  have u1 : sSet 5 (xL oAbs (xCons (xL oInt (xCons (xV 4) xNil)) xNil)) [n, q, cellsD out, .int s, .int i, b, c] = some (.nx [n, q, cellsD out, .int s, .int i, .int v, c]) := by
    rw [ev]
    rfl
  have p1 : dMul (.int s) (.int 1039) = some (.int (s * 1039)) := dMul_e (mulOk_r (by omega) (by omega))
  have p2 : dMd (.int (s * 1039 + i)) (.int 1000081) = some (.int ((s * 1039 + i) % 1000081)) := dMd_e (by omega)
  have u2 : sSet 3 (x2 dMd (xL oInt (xCons (x2 dAdd (x2 dMul (xV 3) (xK (.int 1039))) (xV 4)) xNil)) (xK (.int 1000081))) [n, q, cellsD out, .int s, .int i, .int v, c] = some (.nx [n, q, cellsD out, .int ((s * 1039 + i) % 1000081), .int i, .int v, c]) := by
    simp only [sSet_e, xL_e, xCons_e, xNil_e, x2_e, xV_e, xK_e, List.getElem?_cons_succ, List.getElem?_cons_zero, Option.bind_some, p1, dAdd_e, oInt_i, p2]
    rfl
  have c1 : bE (x2 dGe (xV 5) (x2 dPow (xK (.int 10)) (xK (.int 18)))) [n, q, cellsD out, .int ((s * 1039 + i) % 1000081), .int i, .int v, c] = some (decide (10 ^ 18 ≤ v)) := by
    have pw : dPow (.int 10) (.int 18) = some (.int (10 ^ 18)) := by
      show (if 0 ≤ (18 : Int) ∧ (18 : Int) ≤ 1000000 ∧ (10 : Int).natAbs < 2 ^ 64 then some (PyData.int ((10 : Int) ^ (18 : Int).toNat)) else none) = _
      rw [if_pos ⟨by omega, by omega, by decide⟩]
      rfl
    show (((dPow (.int 10) (.int 18)).bind fun y => dGe (.int v) y)).bind toB = _
    rw [pw, Option.bind_some, dGe_e, Option.bind_some, toB_e]
  unfold cNum
  rw [sSeq_nx u1, sSeq_nx u2, sIf_e, c1, Option.bind_some]
  cases decide (10 ^ 18 ≤ v) with
  | true =>
    rw [if_pos rfl]
    obtain ⟨o', v', c', e, h⟩ := hugeF_e n q (.int ((s * 1039 + i) % 1000081)) (.int i) c out v hl
    exact ⟨o', (s * 1039 + i) % 1000081, .int v', c', e, h⟩
  | false =>
    rw [if_neg Bool.false_ne_true]
    obtain ⟨r, er⟩ := f_mix i (out.length : Nat)
    have t : xCall f__law_mix (xCons (xL oInt (xCons (xV 4) xNil)) (xCons (xL oLen (xCons (xV 2) xNil)) xNil)) [n, q, cellsD out, .int ((s * 1039 + i) % 1000081), .int i, .int v, c] = some (.int r) := by
      show (f__law_mix [.int i, .int ((out.map PyData.int).length : Nat)]).map (·.1) = _
      rw [List.length_map, er]
      rfl
    refine ⟨out ++ [r], (s * 1039 + i) % 1000081, .int v, c, ?_, by simp⟩
    rw [appC (out := out) t rfl (by omega)]
    rfl
theorem f_cells (ns : List Int) (hn : ns.length ≤ 63) : ∃ cs, f__law_cells [.list (ns.map .int), .int 180] = some (cellsD cs, [.list (ns.map .int), .int 180]) := by
  have sz := size_le
  obtain ⟨L, eL⟩ : ∃ L, L = PyData.list (ns.map .int) := ⟨_, rfl⟩
  have p1 : dMul (.int 31) (.int ((ns.length : Nat) : Int)) = some (.int (31 * ((ns.length : Nat) : Int))) := dMul_e (mulOk_l (by omega) (by omega))
  have u1 : sSet 2 (xK (.list [])) [.list (ns.map .int), .int 180, .none, .none, .none, .none, .none] = some (.nx [.list (ns.map .int), .int 180, cellsD [], .none, .none, .none, .none]) := rfl
  have u2 : sSet 3 (x2 dAdd (xK (.int 131)) (x2 dMul (xK (.int 31)) (xL oLen (xCons (xV 0) xNil)))) [.list (ns.map .int), .int 180, cellsD [], .none, .none, .none, .none] = some (.nx [.list (ns.map .int), .int 180, cellsD [], .int (131 + 31 * ((ns.length : Nat) : Int)), .none, .none, .none]) := by
    simp only [sSet_e, xL_e, xCons_e, xNil_e, x2_e, xV_e, xK_e, List.getElem?_cons_succ, List.getElem?_cons_zero, Option.bind_some, oLen_l, List.length_map, p1, dAdd_e]
    rfl
  obtain ⟨δ1, l1, out, s, a, b, c, e1, h1⟩ := forL_inv (tg := gSet 4) (b := cNum)
    (fun k δ => ∃ out s a b c, δ = [.list (ns.map .int), .int 180, cellsD out, .int s, a, b, c] ∧ out.length ≤ 60 * k) (ns.map .int) 0 [.list (ns.map .int), .int 180, cellsD [], .int (131 + 31 * ((ns.length : Nat) : Int)), .none, .none, .none] ⟨[], _, _, _, _, rfl, by simp⟩ fun j d δ hd ⟨out, s, a, b, c, e, h⟩ => by
      subst e
      rw [List.getElem?_map] at hd
      obtain ⟨i, hi, rfl⟩ := Option.map_eq_some_iff.mp hd
      have hj := (List.getElem?_eq_some_iff.mp hi).1
      obtain ⟨o', s', b', c', e, h'⟩ := cNum_e (.list (ns.map .int)) (.int 180) b c out s i (by omega)
      exact ⟨_, _, rfl, e, o', s', .int i, b', c', rfl, by omega⟩
  subst e1
  rw [List.length_map] at h1
  have u3 : sFor (lSeq (xV 0)) (gSet 4) cNum [.list (ns.map .int), .int 180, cellsD [], .int (131 + 31 * ((ns.length : Nat) : Int)), .none, .none, .none] = some (.nx [.list (ns.map .int), .int 180, cellsD out, .int s, a, b, c]) := by
    rw [sFor_e]
    exact l1
  obtain ⟨δ2, l2, out2, c2, e2, h2⟩ := for_rng (i := 6) (n := 180) (f := xCons (xV 1) xNil) (b := sDrop (xApp 2 (mOf (xCall f__law_mix (xCons (xV 3) (xCons (x2 dAdd (xK (.int 131)) (xV 6)) xNil)))))) (δ := [.list (ns.map .int), .int 180, cellsD out, .int s, a, b, c])
    (fun k δ => ∃ o c', δ = [.list (ns.map .int), .int 180, cellsD o, .int s, a, b, c'] ∧ o.length ≤ out.length + k) rfl (by omega) ⟨out, c, rfl, by omega⟩ fun j δ hj ⟨o, c', e, h⟩ => by
      subst e
      obtain ⟨r, er⟩ := f_mix s (131 + (j : Int))
      have t : xCall f__law_mix (xCons (xV 3) (xCons (x2 dAdd (xK (.int 131)) (xV 6)) xNil)) [.list (ns.map .int), .int 180, cellsD o, .int s, a, b, .int j] = some (.int r) := by
        show (f__law_mix [.int s, .int (131 + (j : Int))]).map (·.1) = _
        rw [er]
        rfl
      refine ⟨[.list (ns.map .int), .int 180, cellsD (o ++ [r]), .int s, a, b, .int j], ?_, o ++ [r], .int j, rfl, by rw [List.length_append]; simp; omega⟩
      have := appC (out := o) t rfl (by omega)
      exact this
  subst e2
  refine ⟨out2.reverse, ?_⟩
  unfold cNum hugeF hugeB at u3
  have g : g__law_cells [.list (ns.map .int), .int 180, .none, .none, .none, .none, .none] = some (.rt (cellsD out2.reverse) [.list (ns.map .int), .int 180, cellsD out2, .int s, a, b, c2]) := by
    unfold g__law_cells
    rw [sSeq_nx u1, sSeq_nx u2, sSeq_nx u3, sSeq_nx l2]
    show some (Out.rt (.list (out2.map PyData.int).reverse) _) = _
    unfold cellsD
    rw [List.map_reverse]
  unfold f__law_cells
  rw [fnF_e]
  show (g__law_cells [.list (ns.map .int), .int 180, .none, .none, .none, .none, .none]).bind _ = _
  rw [g]
  rfl
end LawK04

set_option linter.all false
set_option maxRecDepth 10000
namespace LawK04
open PySem Pv
/-! k04: counts, bonds, pieces -/
theorem sel_cnt (p : Lf → Bool) : ∀ (k : Nat) (xs : List Lf), (sel p k xs).length = xs.countP p
  | _, [] => rfl
  | k, x :: xs => by
    rw [sel, List.countP_cons]
    cases p x with
    | true => rw [if_pos rfl, List.length_cons, sel_cnt p (k + 1) xs, if_pos rfl]
    | false => rw [if_neg Bool.false_ne_true, sel_cnt p (k + 1) xs, if_neg Bool.false_ne_true]; rfl
/-- a row of words by data -/
def Sq (d : D) (ws : List Int) : Prop := asSeq d = some (ws.map .int)
theorem sq_lot (ws : List Int) : Sq (lotD ws) ws := rfl
theorem sq_list (ws : List Int) : Sq (.list (ws.map .int)) ws := rfl
theorem dIn_sq {d : D} {ws : List Int} (h : Sq d ws) (i : Int) : dIn (.int i) d = some (.bool (ws.contains i)) := by
  have h' : asSeq d = some (ws.map .int) := h
  unfold dIn
  rw [h']
  simp only [flat_int, all_flat, Bool.and_self, if_true, any_lot]
theorem dNotIn_sq {d : D} {ws : List Int} (h : Sq d ws) (i : Int) : dNotIn (.int i) d = some (.bool (!ws.contains i)) := by
  have h' : asSeq d = some (ws.map .int) := h
  unfold dNotIn
  rw [h']
  simp only [flat_int, all_flat, Bool.and_self, if_true, any_lot]
theorem cmpP_flt {i : Nat} {c : BF} {δ : List D} {p : Lf → Bool} (hc : ∀ l : Lf, c (δ.set i (leafD l)) = some (p l)) (hi : ∀ a : D, (δ.set i a)[i]? = some a) : ∀ ls : List Lf, cmpP (gSet i) c (xV i) δ (ls.map leafD) = some ((ls.filter p).map leafD)
  | [] => rfl
  | l :: ls => by
    rw [List.map_cons, cmpP, gSet_e, Option.bind_some, hc, Option.bind_some, cmpP_flt hc hi ls, List.filter_cons]
    cases p l with
    | true => rw [if_pos rfl, if_pos rfl, xV_e, hi, Option.bind_some, Option.bind_some]; rfl
    | false => rw [if_neg Bool.false_ne_true, if_neg Bool.false_ne_true]
theorem cmpP_fltI {i : Nat} {c : BF} {δ : List D} {p : Int → Bool} (hi : ∀ a : D, (δ.set i a)[i]? = some a) : ∀ ws : List Int, (∀ w ∈ ws, c (δ.set i (.int w)) = some (p w)) → cmpP (gSet i) c (xV i) δ (ws.map .int) = some ((ws.filter p).map .int)
  | [], _ => rfl
  | l :: ls, hc => by
    rw [List.map_cons, cmpP, gSet_e, Option.bind_some, hc l List.mem_cons_self, Option.bind_some, cmpP_fltI hi ls fun w hw => hc w (List.mem_cons_of_mem _ hw), List.filter_cons]
    cases p l with
    | true => rw [if_pos rfl, if_pos rfl, xV_e, hi, Option.bind_some, Option.bind_some]; rfl
    | false => rw [if_neg Bool.false_ne_true, if_neg Bool.false_ne_true]
/-- the words of a heap -/
def rngI (N : Nat) : List Int := (List.range N).map fun (k : Nat) => (0 : Int) + (k : Int)
theorem rngD_I (N : Nat) : rngD 0 N = (rngI N).map .int := by
  unfold rngD rngI
  rw [List.map_map]
  rfl
theorem rngI_lot (N : Nat) : IsLot N (rngI N) := rng_lot N
theorem rngI_len (N : Nat) : (rngI N).length = N := by simp [rngI]
theorem rngI_mem {N : Nat} {w : Int} : w ∈ rngI N ↔ 0 ≤ w ∧ w < (N : Int) := by
  refine ⟨fun h => (rngI_lot N).2 w h, fun h => ?_⟩
  obtain ⟨k, rfl⟩ := Int.eq_ofNat_of_zero_le h.1
  exact List.mem_map.mpr ⟨k, List.mem_range.mpr (by omega), by omega⟩
theorem asc_nd {ws : List Int} (h : ws.Pairwise (· < ·)) : ws.Nodup := h.imp fun {a b} h e => by omega
theorem IsLot.nd {N : Int} {ws : List Int} (h : IsLot N ws) : ws.Nodup := asc_nd h.1
theorem IsLot.len {N : Nat} {ws : List Int} (h : IsLot N ws) : ws.length ≤ N := by
  have := h.nd.length_le_of_subset (l₂ := rngI N) fun w hw => rngI_mem.mpr (h.2 w hw)
  rwa [rngI_len] at this
theorem IsLot.flt {N : Int} {ws : List Int} (h : IsLot N ws) (p : Int → Bool) : IsLot N (ws.filter p) := ⟨h.1.filter p, fun w hw => h.2 w (List.mem_filter.mp hw).1⟩
def b1 (b : Bool) : Nat := if b then 1 else 0
theorem cnt42 {p1 p2 p3 p4 q1 q2 : Lf → Bool} : ∀ {ls : List Lf}, (∀ l ∈ ls, b1 (p1 l) + b1 (p2 l) + b1 (p3 l) + b1 (p4 l) = b1 (q1 l) + b1 (q2 l)) → ls.countP p1 + ls.countP p2 + ls.countP p3 + ls.countP p4 = ls.countP q1 + ls.countP q2
  | [], _ => rfl
  | l :: ls, h => by
    have h1 := h l List.mem_cons_self
    have ih := cnt42 (ls := ls) fun m hm => h m (List.mem_cons_of_mem _ hm)
    unfold b1 at h1
    simp only [List.countP_cons]
    omega
theorem cnt22 {p1 p2 q1 q2 : Lf → Bool} : ∀ {ls : List Lf}, (∀ l ∈ ls, b1 (p1 l) + b1 (p2 l) = b1 (q1 l) + b1 (q2 l)) → ls.countP p1 + ls.countP p2 = ls.countP q1 + ls.countP q2
  | [], _ => rfl
  | l :: ls, h => by
    have h1 := h l List.mem_cons_self
    have ih := cnt22 (ls := ls) fun m hm => h m (List.mem_cons_of_mem _ hm)
    unfold b1 at h1
    simp only [List.countP_cons]
    omega
theorem cnt21 {p1 p2 q : Lf → Bool} : ∀ {ls : List Lf}, (∀ l ∈ ls, b1 (p1 l) + b1 (p2 l) = b1 (q l)) → ls.countP p1 + ls.countP p2 = ls.countP q
  | [], _ => rfl
  | l :: ls, h => by
    have h1 := h l List.mem_cons_self
    have ih := cnt21 (ls := ls) fun m hm => h m (List.mem_cons_of_mem _ hm)
    unfold b1 at h1
    simp only [List.countP_cons]
    omega
theorem cnt_cons {ls : List Lf} {w : Int} {ws : List Int} (h : w ∉ ws) (f : Lf → Int) : ls.countP (fun l => (w :: ws).contains (f l)) = ls.countP (fun l => f l == w) + ls.countP (fun l => ws.contains (f l)) := by
  refine (cnt21 fun l _ => ?_).symm
  rw [List.contains_cons]
  by_cases e : f l = w
  · have : ws.contains (f l) = false := by rw [e]; simpa using h
    rw [this, e, beq_self_eq_true]
    rfl
  · rw [beq_eq_false_iff_ne.mpr e, Bool.false_or]
    exact Nat.zero_add _
theorem sur_sum (ls : List Lf) : ∀ ws : List Int, ws.Nodup → (ws.map fun w => ((ls.countP fun l => l.2 == w : Nat) : Int) - ((ls.countP fun l => l.1 == w : Nat) : Int)).sum = ((ls.countP fun l => ws.contains l.2 : Nat) : Int) - ((ls.countP fun l => ws.contains l.1 : Nat) : Int)
  | [], _ => by simp
  | w :: ws, h => by
    have h2 := List.nodup_cons.mp h
    rw [List.map_cons, List.sum_cons, sur_sum ls ws h2.2, cnt_cons h2.1 (·.2), cnt_cons h2.1 (·.1)]
    omega
theorem cont_flt (ws : List Int) (p : Int → Bool) (x : Int) : (ws.filter p).contains x = (ws.contains x && p x) := by
  rw [Bool.eq_iff_iff]
  simp [List.mem_filter]
/-- entering less leaving -/
theorem ent_lea (ls : List Lf) (ws : List Int) : ((ls.countP (com ws) : Nat) : Int) - ((ls.countP (gon ws) : Nat) : Int) = ((ls.countP fun l => ws.contains l.2 : Nat) : Int) - ((ls.countP fun l => ws.contains l.1 : Nat) : Int) := by
  have := cnt22 (ls := ls) (p1 := com ws) (p2 := fun l => ws.contains l.1) (q1 := gon ws) (q2 := fun l => ws.contains l.2) fun l _ => by
    unfold com gon
    cases ws.contains l.1 <;> cases ws.contains l.2 <;> rfl
  omega
inductive Rch (E : List Lf) (s : Int) : Int → Prop
  | refl : Rch E s s
  | fwd {l : Lf} : l ∈ E → Rch E s l.1 → Rch E s l.2
  | bwd {l : Lf} : l ∈ E → Rch E s l.2 → Rch E s l.1
theorem nd_snoc {l : List Int} {x : Int} (h : l.Nodup) (hx : x ∉ l) : (l ++ [x]).Nodup :=
  List.nodup_append.mpr ⟨h, by simp, fun a ha b hb e => hx (by have : b = x := (by simpa using hb); rw [← this, ← e]; exact ha)⟩
theorem srt_ints {ws vs : List Int} (hv : vs.Pairwise (· < ·)) (hp : ws.Perm vs) : srtD (ws.map PyData.int) = vs.map PyData.int := by
  refine SrtO.srt_uniq ltD_swo (srtD_srt _) ?_ ((srtD_perm _).trans (hp.map _)) ?_
  · refine List.pairwise_map.mpr (hv.imp fun {a b} h => ?_)
    show HT.lexLt [b] [a] = false
    rw [HT.lexLt_cons, if_neg (by omega)]
    exact decide_eq_false (by omega)
  · intro x hx y hy h1 h2
    obtain ⟨i, _, rfl⟩ := List.mem_map.mp ((srtD_perm _).mem_iff.mp hx)
    obtain ⟨j, _, rfl⟩ := List.mem_map.mp ((srtD_perm _).mem_iff.mp hy)
    have h1 : HT.lexLt [i] [j] = false := h1
    have h2 : HT.lexLt [j] [i] = false := h2
    rw [HT.lexLt_cons] at h1 h2
    by_cases e : i = j
    · rw [e]
    · rw [if_neg e] at h1
      rw [if_neg (fun z => e z.symm)] at h2
      have := of_decide_eq_false h1
      have := of_decide_eq_false h2
      omega
theorem all_isI : ∀ ws : List Int, (ws.map PyData.int).all isI = true
  | [] => rfl
  | w :: ws => by rw [List.map_cons, List.all_cons, all_isI ws]; rfl
theorem sorted_ints {ws vs : List Int} (hv : vs.Pairwise (· < ·)) (hp : ws.Perm vs) : oSorted (.list (ws.map .int)) = some (.list (vs.map .int)) := by
  show (if (ws.map PyData.int).all isI || (ws.map PyData.int).all isTI then some (PyData.list (srtD (ws.map PyData.int))) else none) = _
  rw [all_isI, Bool.true_or, if_pos rfl, srt_ints hv hp]
abbrev Bo := List (Int × List Int)
def badd : Bo → Int → Int → Bo
  | [], k, v => [(k, [v])]
  | p :: B, k, v => if p.1 = k then (p.1, p.2 ++ [v]) :: B else p :: badd B k v
def look : Bo → Int → List Int
  | [], _ => []
  | p :: B, k => if p.1 = k then p.2 else look B k
def bD (B : Bo) : List (D × D) := B.map fun p => (.int p.1, .list (p.2.map .int))
theorem look_badd : ∀ (B : Bo) (k v k' : Int), look (badd B k v) k' = if k = k' then look B k' ++ [v] else look B k'
  | [], k, v, k' => by
    show (if k = k' then [v] else []) = _
    by_cases h : k = k'
    · rw [if_pos h, if_pos h]; rfl
    · rw [if_neg h, if_neg h]; rfl
  | p :: B, k, v, k' => by
    unfold badd
    by_cases e : p.1 = k
    · rw [if_pos e]
      unfold look
      by_cases h : k = k'
      · rw [if_pos h, if_pos (e.trans h), if_pos (e.trans h)]
      · rw [if_neg h, if_neg (fun z => h (e.symm.trans z)), if_neg (fun z => h (e.symm.trans z))]
    · rw [if_neg e]
      unfold look
      rw [look_badd B k v k']
      by_cases h : p.1 = k'
      · rw [if_pos h, if_pos h, if_neg (fun z => e (h.trans z.symm))]
      · rw [if_neg h, if_neg h]
theorem badd_len : ∀ (B : Bo) (k v : Int), (badd B k v).length ≤ B.length + 1
  | [], _, _ => Nat.le_refl _
  | p :: B, k, v => by
    have := badd_len B k v
    unfold badd
    split <;> simp only [List.length_cons] <;> omega
theorem badd_max {m : Nat} : ∀ (B : Bo) (k v : Int), (∀ p ∈ B, p.2.length ≤ m) → ∀ p ∈ badd B k v, p.2.length ≤ m + 1
  | [], k, v, _, p, hp => by
    have : p = (k, [v]) := (by simpa [badd] using hp)
    rw [this]
    show 1 ≤ m + 1
    omega
  | q :: B, k, v, h, p, hp => by
    unfold badd at hp
    have hq := h q List.mem_cons_self
    split at hp
    · rcases List.mem_cons.mp hp with e | e
      · rw [e]
        show (q.2 ++ [v]).length ≤ _
        rw [List.length_append, List.length_singleton]
        omega
      · have := h p (List.mem_cons_of_mem _ e)
        omega
    · rcases List.mem_cons.mp hp with e | e
      · rw [e]; omega
      · exact badd_max B k v (fun r hr => h r (List.mem_cons_of_mem _ hr)) p e
/-- where a key stands, or that it does not -/
theorem sd_at : ∀ (B : Bo) (k v : Int), (posD (bD B) (.int k) = none ∧ bD B ++ [(.int k, .list [.int v])] = bD (badd B k v)) ∨
    ∃ (n : Nat) (es : List Int), posD (bD B) (.int k) = some n ∧ (bD B)[n]? = some (.int k, .list (es.map .int)) ∧ (bD B).set n (.int k, .list (es.map .int ++ [.int v])) = bD (badd B k v) ∧ ∃ p ∈ B, p.2 = es
  | [], k, v => .inl ⟨rfl, rfl⟩
  | p :: B, k, v => by
    have hp : posD (bD (p :: B)) (.int k) = if p.1 == k then some 0 else (posD (bD B) (.int k)).map (· + 1) := by
      show posD ((PyData.int p.1, PyData.list (p.2.map .int)) :: bD B) _ = _
      rw [posD_cons]
      show (if PyData.eqv (.int p.1) (.int k) = true then _ else _) = _
      rw [eqv_int]
    by_cases e : p.1 = k
    · subst e
      rw [beq_self_eq_true, if_pos rfl] at hp
      refine .inr ⟨0, p.2, hp, rfl, ?_, p, List.mem_cons_self, rfl⟩
      unfold badd
      rw [if_pos rfl]
      show (PyData.int p.1, PyData.list (p.2.map .int ++ [.int v])) :: bD B = (PyData.int p.1, PyData.list ((p.2 ++ [v]).map .int)) :: bD B
      rw [List.map_append]
      rfl
    · rw [beq_eq_false_iff_ne.mpr e, if_neg Bool.false_ne_true] at hp
      have eb : badd (p :: B) k v = p :: badd B k v := by
        show (if p.1 = k then _ else _) = _
        rw [if_neg e]
      rcases sd_at B k v with ⟨h1, h2⟩ | ⟨n, es, h1, h2, h3, q, hq, h4⟩
      · rw [h1] at hp
        refine .inl ⟨hp, ?_⟩
        rw [eb]
        show (PyData.int p.1, PyData.list (p.2.map .int)) :: (bD B ++ _) = (PyData.int p.1, PyData.list (p.2.map .int)) :: bD (badd B k v)
        rw [h2]
      · rw [h1] at hp
        refine .inr ⟨n + 1, es, hp, h2, ?_, q, List.mem_cons_of_mem _ hq, h4⟩
        rw [eb]
        show (PyData.int p.1, PyData.list (p.2.map .int)) :: ((bD B).set n _) = (PyData.int p.1, PyData.list (p.2.map .int)) :: bD (badd B k v)
        rw [h3]
theorem look_at : ∀ (B : Bo) (k : Int), getD' (bD B) (.int k) = none ∧ look B k = [] ∨ getD' (bD B) (.int k) = some (.list ((look B k).map .int))
  | [], k => .inl ⟨rfl, rfl⟩
  | p :: B, k => by
    have hp : posD (bD (p :: B)) (.int k) = if p.1 == k then some 0 else (posD (bD B) (.int k)).map (· + 1) := by
      show posD ((PyData.int p.1, PyData.list (p.2.map .int)) :: bD B) _ = _
      rw [posD_cons]
      show (if PyData.eqv (.int p.1) (.int k) = true then _ else _) = _
      rw [eqv_int]
    unfold getD' look
    by_cases e : p.1 = k
    · rw [beq_iff_eq.mpr e, if_pos rfl] at hp
      rw [hp, if_pos e]
      exact .inr rfl
    · rw [beq_eq_false_iff_ne.mpr e, if_neg Bool.false_ne_true] at hp
      rw [hp, if_neg e]
      have ih := look_at B k
      unfold getD' at ih
      cases q : posD (bD B) (.int k) with
      | none => rw [q] at ih; exact ih
      | some n => rw [q] at ih; exact ih
/-- both ways -/
def bstep (B : Bo) (l : Lf) : Bo := badd (badd B l.1 l.2) l.2 l.1
def bonds (xs : List Lf) : Bo := xs.foldl bstep []
theorem bonds_snoc (xs : List Lf) (l : Lf) : bonds (xs ++ [l]) = bstep (bonds xs) l := by
  unfold bonds
  rw [List.foldl_append]
  rfl
theorem bonds_sz (xs : List Lf) : (bonds xs).length ≤ 2 * xs.length ∧ ∀ p ∈ bonds xs, p.2.length ≤ 2 * xs.length := by
  have : ∀ ys : List Lf, (bonds ys.reverse).length ≤ 2 * ys.length ∧ ∀ p ∈ bonds ys.reverse, p.2.length ≤ 2 * ys.length := by
    intro ys
    induction ys with
    | nil => exact ⟨Nat.le_refl _, fun _ h => nomatch h⟩
    | cons y ys ih =>
      rw [List.reverse_cons, bonds_snoc, List.length_cons]
      unfold bstep
      refine ⟨?_, fun p hp => ?_⟩
      · have h1 := badd_len (badd (bonds ys.reverse) y.1 y.2) y.2 y.1
        have h2 := badd_len (bonds ys.reverse) y.1 y.2
        omega
      · have h1 := badd_max _ y.2 y.1 (badd_max _ y.1 y.2 ih.2) p hp
        omega
  have := this xs.reverse
  rwa [List.reverse_reverse, List.length_reverse] at this
theorem look_mem (xs : List Lf) (k w : Int) : w ∈ look (bonds xs) k ↔ ∃ l ∈ xs, (l.1 = k ∧ l.2 = w) ∨ (l.2 = k ∧ l.1 = w) := by
  have : ∀ ys : List Lf, w ∈ look (bonds ys.reverse) k ↔ ∃ l ∈ ys, (l.1 = k ∧ l.2 = w) ∨ (l.2 = k ∧ l.1 = w) := by
    intro ys
    induction ys with
    | nil => exact ⟨(fun h => nomatch h), fun ⟨_, h, _⟩ => nomatch h⟩
    | cons y ys ih =>
      have e : w ∈ look (bonds (y :: ys).reverse) k ↔ w ∈ look (bonds ys.reverse) k ∨ (y.1 = k ∧ y.2 = w) ∨ (y.2 = k ∧ y.1 = w) := by
        rw [List.reverse_cons, bonds_snoc]
        unfold bstep
        rw [look_badd, look_badd]
        by_cases h1 : y.1 = k <;> by_cases h2 : y.2 = k <;> simp only [h1, h2, if_true, if_false, List.mem_append, List.mem_singleton, true_and, false_and, or_false, false_or]
        · constructor
          · rintro ((h | h) | h)
            · exact .inl h
            · exact .inr (.inl h.symm)
            · exact .inr (.inr h.symm)
          · rintro (h | h | h)
            · exact .inl (.inl h)
            · exact .inl (.inr h.symm)
            · exact .inr h.symm
        · exact or_congr_right eq_comm
        · exact or_congr_right eq_comm
      rw [e, ih]
      constructor
      · rintro (⟨l, h1, h2⟩ | h)
        · exact ⟨l, List.mem_cons_of_mem _ h1, h2⟩
        · exact ⟨y, List.mem_cons_self, h⟩
      · rintro ⟨l, h1, h2⟩
        rcases List.mem_cons.mp h1 with e | e
        · subst e; exact .inr h2
        · exact .inl ⟨l, e, h2⟩
  have := this xs.reverse
  rw [List.reverse_reverse] at this
  rw [this]
  exact ⟨fun ⟨l, h1, h2⟩ => ⟨l, List.mem_reverse.mp h1, h2⟩, fun ⟨l, h1, h2⟩ => ⟨l, List.mem_reverse.mpr h1, h2⟩⟩
/-- setdefault, append -/
theorem sd_e {i j h : Nat} {δ : List D} {B : Bo} {k v : Int} (hi : δ[i]? = some (.dict (bD B))) (hk : δ[j]? = some (.int k)) (hv : δ[h]? = some (.int v)) (hih : i ≠ h) (hs : B.length < 1000000) (hm : ∀ p ∈ B, p.2.length < 1000000) : sDrop (xSdK i (xV j) (xV h)) δ = some (.nx (δ.set i (.dict (bD (badd B k v))))) := by
  have sz : 1000000 < sizeLine := by decide
  have bl : (bD B).length = B.length := by simp [bD]
  refine drop_e (d := .none) ?_
  have eg : getDctK δ i = some (bD B) := by unfold getDctK; rw [hi]
  have et : (ikey (.int k)).isSome = true := rfl
  unfold xSdK xSdApp
  rw [xV_e, hk, Option.bind_some]
  simp only [et, if_true, eg, Option.bind_some]
  unfold sdK
  rw [if_pos (by omega)]
  rcases sd_at B k v with ⟨h1, h2⟩ | ⟨n, es, h1, h2, h3, p, hp, h4⟩
  · have e1 : (bD B ++ [(PyData.int k, PyData.list [])])[(bD B).length]? = some (PyData.int k, PyData.list []) := by rw [List.getElem?_append_right (Nat.le_refl _), Nat.sub_self]; rfl
    simp only [h1, Option.bind_some, xV_e, List.getElem?_set_ne hih, hv, e1]
    rw [if_pos (by show 0 < sizeLine; omega), List.set_append_right _ _ (Nat.le_refl _), Nat.sub_self]
    show some (PyData.none, δ.set i (.dict (bD B ++ [(PyData.int k, PyData.list [PyData.int v])]))) = _
    rw [h2]
  · have hes : (es.map PyData.int).length < sizeLine := by
      have := hm p hp
      rw [h4] at this
      rw [List.length_map]
      omega
    simp only [h1, Option.bind_some, xV_e, List.getElem?_set_ne hih, hv, h2]
    rw [if_pos hes, h3]
theorem f_bonds {d : D} {xs : List Lf} (hd : asSeq d = some (xs.map leafD)) (hl : xs.length ≤ 100000) : f_word_bonds [d] = some (.dict (bD (bonds xs)), [d]) := by
  have bz : ∀ j, (bonds (xs.take j)).length < 500000 ∧ ∀ p ∈ bonds (xs.take j), p.2.length < 500000 := fun j => by
    obtain ⟨h1, h2⟩ := bonds_sz (xs.take j)
    have h3 : (xs.take j).length ≤ xs.length := by rw [List.length_take]; omega
    exact ⟨by omega, fun p hp => by have := h2 p hp; omega⟩
  obtain ⟨δ', l, a, b, e⟩ := forL_inv (tg := gTupD [2, 3]) (b := sSeq (sDrop (xSdK 1 (xV 2) (xV 3))) (sDrop (xSdK 1 (xV 3) (xV 2)))) (fun j δ => ∃ a b, δ = [d, .dict (bD (bonds (xs.take j))), a, b]) (xs.map leafD) 0 [d, .dict [], .none, .none] ⟨.none, .none, by rw [List.take_zero]; rfl⟩ fun j dd δ hdd ⟨a, b, e⟩ => by
    subst e
    rw [Nat.zero_add]
    rw [List.getElem?_map] at hdd
    obtain ⟨l, hj, rfl⟩ := Option.map_eq_some_iff.mp hdd
    obtain ⟨b1, b2⟩ := bz j
    refine ⟨[d, .dict (bD (bonds (xs.take j))), .int l.1, .int l.2], [d, .dict (bD (bonds (xs.take (j + 1)))), .int l.1, .int l.2], rfl, ?_, .int l.1, .int l.2, rfl⟩
    have b3 := badd_len (bonds (xs.take j)) l.1 l.2
    have b4 := badd_max (m := 500000) (bonds (xs.take j)) l.1 l.2 fun p hp => by have := b2 p hp; omega
    rw [sSeq_nx (δ' := [d, .dict (bD (badd (bonds (xs.take j)) l.1 l.2)), .int l.1, .int l.2]) (sd_e (i := 1) (j := 2) (h := 3) rfl rfl rfl (by decide) (by omega) fun p hp => by have := b2 p hp; omega),
      sd_e (i := 1) (j := 3) (h := 2) (B := badd (bonds (xs.take j)) l.1 l.2) (k := l.2) (v := l.1) rfl rfl rfl (by decide) (by omega) fun p hp => by have := b4 p hp; omega]
    rw [take_step hj, bonds_snoc]
    rfl
  subst e
  rw [Nat.zero_add, List.length_map, List.take_length] at l
  have l2 : sFor (lSeq (xV 0)) (gTupD [2, 3]) (sSeq (sDrop (xSdK 1 (xV 2) (xV 3))) (sDrop (xSdK 1 (xV 3) (xV 2)))) [d, .dict [], .none, .none] = some (.nx [d, .dict (bD (bonds xs)), a, b]) := by
    have q : lSeq (xV 0) [d, .dict [], .none, .none] = some (xs.map leafD) := hd
    rw [sFor_e, q, Option.bind_some, l]
  have g : g_word_bonds [d, .none, .none, .none] = some (.rt (.dict (bD (bonds xs))) [d, .dict (bD (bonds xs)), a, b]) := by
    unfold g_word_bonds
    rw [sSeq_nx (δ' := [d, .dict [], .none, .none]) rfl, sSeq_nx l2]
    rfl
  unfold f_word_bonds
  rw [fnF_e]
  show (g_word_bonds [d, .none, .none, .none]).bind _ = _
  rw [g]
  rfl
/-- what has been met, what waits -/
structure Js (E : List Lf) (U : List Int) (s : Int) (R W : List Int) : Prop where
  nd : R.Nodup
  has : s ∈ R
  rch : ∀ w ∈ R, Rch E s w
  sub : ∀ w ∈ R, w ∈ U
  wt : ∀ w ∈ W, w ∈ R
  wnd : W.Nodup
def dstep (p : List Int × List Int) (w : Int) : List Int × List Int := if p.1.contains w then p else (p.1 ++ [w], p.2 ++ [w])
theorem dstep_in {R W : List Int} {n : Int} (c : R.contains n = true) : dstep (R, W) n = (R, W) := if_pos c
theorem dstep_out {R W : List Int} {n : Int} (c : ¬ R.contains n = true) : dstep (R, W) n = (R ++ [n], W ++ [n]) := if_neg c
def rD (R : List Int) : List (D × D) := R.map fun w => (.int w, .bool true)
theorem rD_pos (w : Int) : ∀ R : List Int, (posD (rD R) (.int w)).isSome = R.contains w
  | [] => rfl
  | r :: R => by
    show (posD ((PyData.int r, PyData.bool true) :: rD R) _).isSome = _
    rw [posD_cons, List.contains_cons]
    show (if PyData.eqv (.int r) (.int w) = true then some 0 else (posD (rD R) (.int w)).map (· + 1)).isSome = _
    rw [eqv_int]
    by_cases e : r = w
    · subst e
      rw [beq_self_eq_true, if_pos rfl, Bool.true_or]
      rfl
    · rw [beq_eq_false_iff_ne.mpr e, beq_eq_false_iff_ne.mpr (fun z => e z.symm), if_neg Bool.false_ne_true, Option.isSome_map, rD_pos w R, Bool.false_or]
theorem dct_rD (R : List Int) : dictOf (.dict (rD R)) = some (false, rD R) := by
  cases R <;> rfl
theorem dct_bD (B : Bo) : dictOf (.dict (bD B)) = some (false, bD B) := by
  cases B <;> rfl
def pBody : SF := sIf (bE (x2 dDNotIn (xV 5) (xV 2))) (sSeq (sPutK 2 (mOf (xK (.bool true))) (xV 5)) (sDrop (xApp 3 (mOf (xV 5))))) sNil
theorem pBody_e (B s h : D) (R W : List Int) (w : Int) (h1 : R.length ≤ 900000) (h2 : W.length ≤ 900000) : pBody [B, s, .dict (rD R), .list (W.map .int), h, .int w] = some (.nx [B, s, .dict (rD (dstep (R, W) w).1), .list ((dstep (R, W) w).2.map .int), h, .int w]) := by
  have sz : 1000000 < sizeLine := by decide
  have c : bE (x2 dDNotIn (xV 5) (xV 2)) [B, s, .dict (rD R), .list (W.map .int), h, .int w] = some (!R.contains w) := by
    show (dDNotIn (.int w) (.dict (rD R))).bind toB = _
    unfold dDNotIn
    rw [dct_rD, Option.bind_some]
    show (if (true : Bool) = true then some (PyData.bool (!(posD (rD R) (.int w)).isSome)) else none).bind toB = _
    rw [if_pos rfl, rD_pos]
    rfl
  unfold pBody
  rw [sIf_e, c, Option.bind_some]
  cases e : R.contains w with
  | true =>
    rw [dstep_in e, if_neg (by decide)]
    rfl
  | false =>
    rw [dstep_out (by rw [e]; exact Bool.false_ne_true), if_pos (by decide)]
    have p1 : sPutK 2 (mOf (xK (.bool true))) (xV 5) [B, s, .dict (rD R), .list (W.map .int), h, .int w] = some (.nx [B, s, .dict (rD (R ++ [w])), .list (W.map .int), h, .int w]) := by
      have rl : (rD R).length < sizeLine := by unfold rD; rw [List.length_map]; omega
      have ep : putD (rD R) (.int w) (.bool true) = rD (R ++ [w]) := by
        unfold putD
        rw [rD_pos, e, if_neg Bool.false_ne_true]
        unfold rD
        rw [List.map_append]
        rfl
      show (if (rD R).length < sizeLine then some (Out.nx [B, s, .dict (putD (rD R) (.int w) (.bool true)), .list (W.map .int), h, .int w]) else none) = _
      rw [if_pos rl, ep]
    rw [sSeq_nx p1]
    refine drop_e (d := .none) ?_
    rw [app_e (y := .int w) (ds := W.map .int) rfl rfl (by rw [List.length_map]; omega)]
    show some (PyData.none, [B, s, .dict (rD (R ++ [w])), .list (W.map .int ++ [.int w]), h, .int w]) = some (PyData.none, [B, s, .dict (rD (R ++ [w])), .list ((W ++ [w]).map .int), h, .int w])
    rw [List.map_append]
    rfl
/-- a word's neighbours met -/
theorem dfold {E : List Lf} {U : List Int} {s : Int} : ∀ (nb R W : List Int), (∀ w ∈ nb, Rch E s w ∧ w ∈ U) → Js E U s R W →
    ∃ t, (nb.foldl dstep (R, W)).1 = R ++ t ∧ (nb.foldl dstep (R, W)).2 = W ++ t ∧ Js E U s (R ++ t) (W ++ t) ∧ ∀ w ∈ nb, w ∈ R ++ t
  | [], R, W, _, j => ⟨[], by simp, by simp, by simpa using j, fun _ h => nomatch h⟩
  | n :: nb, R, W, hn, j => by
    rw [List.foldl_cons]
    have hn' : ∀ w ∈ nb, Rch E s w ∧ w ∈ U := fun w hw => hn w (List.mem_cons_of_mem _ hw)
    by_cases c : R.contains n = true
    · rw [dstep_in c]
      obtain ⟨t, h1, h2, h3, h4⟩ := dfold nb R W hn' j
      refine ⟨t, h1, h2, h3, fun w hw => ?_⟩
      rcases List.mem_cons.mp hw with e | e
      · rw [e]; exact List.mem_append_left _ (by simpa using c)
      · exact h4 w e
    · rw [dstep_out c]
      have hc : n ∉ R := fun z => c (by simpa using z)
      have j2 : Js E U s (R ++ [n]) (W ++ [n]) := ⟨nd_snoc j.nd hc, List.mem_append_left _ j.has, fun w hw => by
        rcases List.mem_append.mp hw with h | h
        · exact j.rch w h
        · have : w = n := (by simpa using h)
          rw [this]; exact (hn n List.mem_cons_self).1, fun w hw => by
        rcases List.mem_append.mp hw with h | h
        · exact j.sub w h
        · have : w = n := (by simpa using h)
          rw [this]; exact (hn n List.mem_cons_self).2, fun w hw => by
        rcases List.mem_append.mp hw with h | h
        · exact List.mem_append_left _ (j.wt w h)
        · exact List.mem_append_right _ h, nd_snoc j.wnd fun z => hc (j.wt n z)⟩
      obtain ⟨t, h1, h2, h3, h4⟩ := dfold nb (R ++ [n]) (W ++ [n]) hn' j2
      refine ⟨n :: t, by rw [h1, List.append_assoc]; rfl, by rw [h2, List.append_assoc]; rfl, by rw [List.append_assoc, List.append_assoc] at h3; exact h3, fun w hw => ?_⟩
      rcases List.mem_cons.mp hw with e | e
      · rw [e]; simp
      · have := h4 w e
        rw [List.append_assoc] at this
        exact this
theorem while_inv {c : BF} {b : SF} (I : Nat → List D → Prop) (st : ∀ m δ, I m δ → c δ = some false ∨ (c δ = some true ∧ ∃ m' δ', m' < m ∧ b δ = some (.nx δ') ∧ I m' δ')) : ∀ (m n : Nat) (δ : List D), m < n → I m δ → ∃ m' δ', whileL c b n δ = some (.nx δ') ∧ I m' δ' ∧ c δ' = some false := by
  intro m
  induction m using Nat.strongRecOn with
  | _ m ih =>
    intro n δ hn hi
    cases n with
    | zero => omega
    | succ n =>
      rcases st m δ hi with h | ⟨h, m', δ', hm, hb, hi'⟩
      · refine ⟨m, δ, ?_, hi, h⟩
        rw [whileL, h]
        rfl
      · obtain ⟨m2, δ2, q1, q2, q3⟩ := ih m' hm n δ' (by omega) hi'
        refine ⟨m2, δ2, ?_, q2, q3⟩
        rw [whileL, h, Option.bind_some, if_pos rfl, hb]
        exact q1
def wBody : SF := sSeq (sSetM 4 (xPop 3)) (sFor (lSeq (xDGet2 (xV 0) (xV 4) (xK (.list [])))) (gSet 5) pBody)
theorem wBody_e {E : List Lf} {U : List Int} {s : Int} (hU : ∀ l ∈ E, l.1 ∈ U ∧ l.2 ∈ U) (hu : U.length ≤ 1000) (R W : List Int) (w : Int) (a b : D) (j : Js E U s R (W ++ [w])) (hW : (W ++ [w]).length ≤ 1000) :
    ∃ t a' b', wBody [.dict (bD (bonds E)), .int s, .dict (rD R), .list ((W ++ [w]).map .int), a, b] = some (.nx [.dict (bD (bonds E)), .int s, .dict (rD (R ++ t)), .list ((W ++ t).map .int), a', b']) ∧ Js E U s (R ++ t) (W ++ t) ∧ ∀ v, v ∈ look (bonds E) w → v ∈ R ++ t := by
  have jr : w ∈ R := j.wt w (by simp)
  have j1 : Js E U s R W := ⟨j.nd, j.has, j.rch, j.sub, fun v hv => j.wt v (List.mem_append_left _ hv), (List.nodup_append.mp j.wnd).1⟩
  have hnb : ∀ v ∈ look (bonds E) w, Rch E s v ∧ v ∈ U := fun v hv => by
    obtain ⟨l, hl, h⟩ := (look_mem E w v).mp hv
    have hr := j.rch w jr
    rcases h with ⟨e1, e2⟩ | ⟨e1, e2⟩
    · subst e2
      rw [← e1] at hr
      exact ⟨.fwd hl hr, (hU l hl).2⟩
    · subst e2
      rw [← e1] at hr
      exact ⟨.bwd hl hr, (hU l hl).1⟩
  obtain ⟨t, t1, t2, t3, t4⟩ := dfold (look (bonds E) w) R W hnb j1
  have u1 : sSetM 4 (xPop 3) [.dict (bD (bonds E)), .int s, .dict (rD R), .list ((W ++ [w]).map .int), a, b] = some (.nx [.dict (bD (bonds E)), .int s, .dict (rD R), .list (W.map .int), .int w, b]) := by
    have e : xPop 3 [.dict (bD (bonds E)), .int s, .dict (rD R), .list ((W ++ [w]).map .int), a, b] = some (.int w, [.dict (bD (bonds E)), .int s, .dict (rD R), .list (W.map .int), a, b]) := by
      show (getL [.dict (bD (bonds E)), .int s, .dict (rD R), .list ((W ++ [w]).map .int), a, b] 3).bind _ = _
      rw [getL_e (ds := (W ++ [w]).map .int) rfl, Option.bind_some, List.map_append, List.map_cons, List.map_nil, List.getLast?_append, List.dropLast_concat]
      rfl
    rw [sSetM_e, e]
    rfl
  have q : lSeq (xDGet2 (xV 0) (xV 4) (xK (.list []))) [.dict (bD (bonds E)), .int s, .dict (rD R), .list (W.map .int), .int w, b] = some ((look (bonds E) w).map .int) := by
    have e : xDGet2 (xV 0) (xV 4) (xK (.list [])) [.dict (bD (bonds E)), .int s, .dict (rD R), .list (W.map .int), .int w, b] = some (.list ((look (bonds E) w).map .int)) := by
      show ((dictOf (.dict (bD (bonds E)))).bind fun p => if keyOk p.1 (.int w) then some ((getD' p.2 (.int w)).getD (.list [])) else none) = _
      rw [dct_bD, Option.bind_some]
      show (if (true : Bool) = true then some ((getD' (bD (bonds E)) (.int w)).getD (.list [])) else none) = _
      rw [if_pos rfl]
      rcases look_at (bonds E) w with ⟨h1, h2⟩ | h
      · rw [h1, h2]; rfl
      · rw [h]; rfl
    rw [lSeq_e, e]
    rfl
  have len : ∀ k, ∃ t', ((look (bonds E) w).take k).foldl dstep (R, W) = (R ++ t', W ++ t') ∧ (R ++ t').length ≤ 1000 ∧ (W ++ t').length ≤ 2000 := fun k => by
    obtain ⟨t', h1, h2, h3, h4⟩ := dfold ((look (bonds E) w).take k) R W (fun v hv => hnb v (List.mem_of_mem_take hv)) j1
    have hl := h3.nd.length_le_of_subset (l₂ := U) h3.sub
    refine ⟨t', Prod.ext h1 h2, by omega, ?_⟩
    rw [List.length_append] at hl hW ⊢
    omega
  obtain ⟨δ', l, b', e⟩ := forL_inv (tg := gSet 5) (b := pBody) (fun k δ => ∃ b, δ = [.dict (bD (bonds E)), .int s, .dict (rD (((look (bonds E) w).take k).foldl dstep (R, W)).1), .list ((((look (bonds E) w).take k).foldl dstep (R, W)).2.map .int), .int w, b]) ((look (bonds E) w).map .int) 0
    [.dict (bD (bonds E)), .int s, .dict (rD R), .list (W.map .int), .int w, b] ⟨b, by rw [List.take_zero]; rfl⟩ fun k d δ hd ⟨b, e⟩ => by
      subst e
      rw [Nat.zero_add]
      rw [List.getElem?_map] at hd
      obtain ⟨v, hv, rfl⟩ := Option.map_eq_some_iff.mp hd
      obtain ⟨t', h1, h2, h3⟩ := len k
      have tk : (look (bonds E) w).take (k + 1) = (look (bonds E) w).take k ++ [v] := by rw [List.take_succ, hv]; rfl
      rw [tk, List.foldl_append, h1]
      refine ⟨_, _, rfl, pBody_e _ _ _ (R ++ t') (W ++ t') v (by omega) (by omega), .int v, rfl⟩
  subst e
  rw [Nat.zero_add, List.length_map, List.take_length, t1, t2] at l
  refine ⟨t, .int w, b', ?_, t3, t4⟩
  unfold wBody
  rw [sSeq_nx u1, sFor_e, q, Option.bind_some, l]
/-- the words that hang together with s, ascending -/
theorem f_piece {E : List Lf} {U : List Int} {s : Int} (hU : ∀ l ∈ E, l.1 ∈ U ∧ l.2 ∈ U) (ha : U.Pairwise (· < ·)) (hu : U.length ≤ 1000) (hs : s ∈ U) :
    ∃ c : List Int, f_piece_by [.dict (bD (bonds E)), .int s] = some (lotD c, [.dict (bD (bonds E)), .int s]) ∧ c.Pairwise (· < ·) ∧ (∀ w, w ∈ c ↔ Rch E s w) ∧ ∀ w ∈ c, w ∈ U := by
  have u1 : sSet 2 (xDict1 (xV 1) (xK (.bool true))) [.dict (bD (bonds E)), .int s, .none, .none, .none, .none] = some (.nx [.dict (bD (bonds E)), .int s, .dict (rD [s]), .none, .none, .none]) := rfl
  have u2 : sSet 3 (xL mkLst (xCons (xV 1) xNil)) [.dict (bD (bonds E)), .int s, .dict (rD [s]), .none, .none, .none] = some (.nx [.dict (bD (bonds E)), .int s, .dict (rD [s]), .list (([s] : List Int).map .int), .none, .none]) := by
    have : mkLst [.int s] = some (.list [.int s]) := mkL _ (by simp)
    rw [sSet_e, xL_e]
    show (mkLst [.int s]).bind _ = _
    rw [this]
    rfl
  have j0 : Js E U s [s] [s] := ⟨by simp, by simp, fun w hw => by have : w = s := (by simpa using hw); rw [this]; exact .refl, fun w hw => by have : w = s := (by simpa using hw); rw [this]; exact hs, fun _ h => h, by simp⟩
  have tr : ∀ (W : List Int) (x y a b : D), bTr (xV 3) [x, y, a, .list (W.map .int), b] = some (!W.isEmpty) := fun W x y a b => by
    show some (!(W.map PyData.int).isEmpty) = _
    cases W <;> rfl
  obtain ⟨m', δ', hw, ⟨R, W, a, b, e, jj, hm, hx⟩, hc⟩ := while_inv (c := bTr (xV 3)) (b := wBody) (fun m δ => ∃ R W a b, δ = [.dict (bD (bonds E)), .int s, .dict (rD R), .list (W.map .int), a, b] ∧ Js E U s R W ∧ U.length + W.length ≤ m + R.length ∧ ∀ w ∈ R, w ∈ W ∨ ∀ v, v ∈ look (bonds E) w → v ∈ R)
    (fun m δ ⟨R, W, a, b, e, jj, hm, hx⟩ => by
      subst e
      cases hW : W.getLast? with
      | none =>
        have : W = [] := by simpa using hW
        subst this
        exact .inl rfl
      | some w =>
        have hne : W ≠ [] := fun z => by subst z; cases hW
        have eW : W = W.dropLast ++ [w] := by
          have h1 := List.dropLast_concat_getLast hne
          rw [List.getLast?_eq_some_getLast hne] at hW
          rw [← Option.some.inj hW]
          exact h1.symm
        have hUl := jj.nd.length_le_of_subset (l₂ := U) jj.sub
        obtain ⟨V, rfl⟩ : ∃ V, W = V ++ [w] := ⟨_, eW⟩
        have hWl := jj.wnd.length_le_of_subset (l₂ := U) fun v hv => jj.sub v (jj.wt v hv)
        have hl : (V ++ [w]).length ≤ 1000 := by omega
        obtain ⟨t, a', b', h1, h2, h3⟩ := wBody_e hU hu R V w a b jj hl
        have hUl2 := h2.nd.length_le_of_subset (l₂ := U) h2.sub
        refine .inr ⟨?_, m - 1, _, ?_, h1, R ++ t, V ++ t, a', b', rfl, h2, ?_, fun v hv => ?_⟩
        · show some (!((V ++ [w]).map PyData.int).isEmpty) = some true
          cases V <;> rfl
        · simp only [List.length_append, List.length_singleton] at hm hUl2 hUl
          omega
        · simp only [List.length_append, List.length_singleton] at hm hUl2 hUl ⊢
          omega
        · rcases List.mem_append.mp hv with h | h
          · rcases hx v h with q | q
            · rcases List.mem_append.mp q with r | r
              · exact .inl (List.mem_append_left _ r)
              · have : v = w := (by simpa using r)
                subst this
                exact .inr fun u hu => h3 u hu
            · exact .inr fun u hu => List.mem_append_left _ (q u hu)
          · exact .inl (List.mem_append_right _ h)) (U.length + 1) fuelD [.dict (bD (bonds E)), .int s, .dict (rD [s]), .list (([s] : List Int).map .int), .none, .none] (by show U.length + 1 < 1000000000; omega) ⟨[s], [s], .none, .none, rfl, j0, by simp, fun w hw => .inl hw⟩
  subst e
  have hW : W = [] := by
    have h : (!((W.map PyData.int).isEmpty)) = false := Option.some.inj hc
    cases W with
    | nil => rfl
    | cons => cases h
  subst hW
  have all : ∀ w, w ∈ R ↔ Rch E s w := fun w => by
    refine ⟨jj.rch w, fun h => ?_⟩
    have clo : ∀ w ∈ R, ∀ v, v ∈ look (bonds E) w → v ∈ R := fun w hw => (hx w hw).resolve_left fun z => nomatch z
    induction h with
    | refl => exact jj.has
    | fwd hl _ ih => exact clo _ ih _ ((look_mem E _ _).mpr ⟨_, hl, .inl ⟨rfl, rfl⟩⟩)
    | bwd hl _ ih => exact clo _ ih _ ((look_mem E _ _).mpr ⟨_, hl, .inr ⟨rfl, rfl⟩⟩)
  have hcc : (U.filter fun w => R.contains w).Pairwise (· < ·) := ha.filter _
  have hperm : R.Perm (U.filter fun w => R.contains w) := (List.perm_ext_iff_of_nodup jj.nd (asc_nd hcc)).mpr fun w => by
    rw [List.mem_filter]
    exact ⟨fun h => ⟨jj.sub w h, by simpa using h⟩, fun h => by simpa using h.2⟩
  refine ⟨U.filter fun w => R.contains w, ?_, hcc, fun w => by rw [← hperm.mem_iff, all], fun w hw => (List.mem_filter.mp hw).1⟩
  have r : sRet (xL oTup (xCons (x1 oSorted (xL oLstD (xCons (xV 2) xNil))) xNil)) [.dict (bD (bonds E)), .int s, .dict (rD R), .list (([] : List Int).map .int), a, b] = some (.rt (lotD (U.filter fun w => R.contains w)) [.dict (bD (bonds E)), .int s, .dict (rD R), .list (([] : List Int).map .int), a, b]) := by
    have o1 : xL oLstD (xCons (xV 2) xNil) [.dict (bD (bonds E)), .int s, .dict (rD R), .list (([] : List Int).map .int), a, b] = some (.list (R.map .int)) := by
      show ((dictOf (.dict (rD R))).bind fun p => if p.1 then none else some (PyData.list (p.2.map Prod.fst))) = _
      rw [dct_rD, Option.bind_some]
      show some (PyData.list ((rD R).map Prod.fst)) = _
      unfold rD
      rw [List.map_map]
      rfl
    have o2 := sorted_ints hcc hperm
    rw [sRet_e, xL_e, xCons_e, x1_e, o1, Option.bind_some, o2]
    rfl
  have g : g_piece_by [.dict (bD (bonds E)), .int s, .none, .none, .none, .none] = some (.rt (lotD (U.filter fun w => R.contains w)) [.dict (bD (bonds E)), .int s, .dict (rD R), .list (([] : List Int).map .int), a, b]) := by
    have hw' : sWhile (bTr (xV 3)) wBody [.dict (bD (bonds E)), .int s, .dict (rD [s]), .list (([s] : List Int).map .int), .none, .none] = some (.nx [.dict (bD (bonds E)), .int s, .dict (rD R), .list (([] : List Int).map .int), a, b]) := hw
    unfold wBody pBody at hw'
    unfold g_piece_by
    rw [sSeq_nx u1, sSeq_nx u2, sSeq_nx hw']
    exact r
  unfold f_piece_by
  rw [fnF_e]
  show (g_piece_by [.dict (bD (bonds E)), .int s, .none, .none, .none, .none]).bind _ = _
  rw [g]
  rfl
end LawK04

set_option linter.all false
set_option maxRecDepth 10000
namespace LawK04
open PySem Pv
/-! k04: small steps; turns -/
section
variable {δ : List D} {f g h : EF} {d e a b : D}
theorem x2_of {o : D → D → Option D} (h1 : f δ = some d) (h2 : g δ = some e) : x2 o f g δ = o d e := by rw [x2_e, h1, Option.bind_some, h2, Option.bind_some]
theorem x1_of {o : D → Option D} (h1 : f δ = some d) : x1 o f δ = o d := by rw [x1_e, h1, Option.bind_some]
theorem xL1 {o : List D → Option D} (h1 : f δ = some d) : xL o (xCons f xNil) δ = o [d] := by rw [xL_e, xCons_e, h1]; rfl
theorem xL2 {o : List D → Option D} (h1 : f δ = some d) (h2 : g δ = some e) : xL o (xCons f (xCons g xNil)) δ = o [d, e] := by rw [xL_e, xCons_e, h1, Option.bind_some, xCons_e, h2]; rfl
theorem tp2 (h1 : f δ = some d) (h2 : g δ = some e) : xL mkTup (xCons f (xCons g xNil)) δ = some (.tuple [d, e]) := by rw [xL2 h1 h2]; exact tup2 _ _
theorem tp1 (h1 : f δ = some d) : xL mkTup (xCons f xNil) δ = some (.tuple [d]) := by rw [xL1 h1]; exact tup1 _
theorem tpl {ds : List D} (h1 : f δ = some (.list ds)) : xL oTup (xCons f xNil) δ = some (.tuple ds) := by rw [xL1 h1]; rfl
theorem pile_of {n : Int} {ls : List Lf} (h1 : f δ = some (.int n)) (h2 : g δ = some (.list (ls.map leafD))) : xL mkTup (xCons f (xCons (xL oTup (xCons g xNil)) xNil)) δ = some (pileD n ls) := tp2 h1 (tpl h2)
theorem call1 {F : List D → Option (D × List D)} {r : D} {x : List D} (h1 : f δ = some a) (h2 : F [a] = some (r, x)) : xCall F (xCons f xNil) δ = some r := by rw [xCall_e, xCons_e, h1]; show ((F [a]).map _) = _; rw [h2]; rfl
theorem call2 {F : List D → Option (D × List D)} {r : D} {x : List D} (h1 : f δ = some a) (h2 : g δ = some b) (h3 : F [a, b] = some (r, x)) : xCall F (xCons f (xCons g xNil)) δ = some r := by rw [xCall_e, xCons_e, h1, Option.bind_some, xCons_e, h2]; show ((F [a, b]).map _) = _; rw [h3]; rfl
theorem bE_of {k : Bool} (h1 : f δ = some (.bool k)) : bE f δ = some k := by rw [bE_e, h1]; rfl
theorem bN_of {c : BF} {k : Bool} (h1 : c δ = some k) : bNot c δ = some (!k) := by rw [bNot_e, h1]; rfl
theorem or_f {c c' : BF} {k : Bool} (h1 : c δ = some false) (h2 : c' δ = some k) : bOr c c' δ = some k := by rw [bOr_e, h1, Option.bind_some]; simpa using h2
theorem or_t {c c' : BF} (h1 : c δ = some true) : bOr c c' δ = some true := by rw [bOr_e, h1]; rfl
theorem and_t {c c' : BF} {k : Bool} (h1 : c δ = some true) (h2 : c' δ = some k) : bAnd c c' δ = some k := by rw [bAnd_e, h1, Option.bind_some]; simpa using h2
theorem and_f {c c' : BF} (h1 : c δ = some false) : bAnd c c' δ = some false := by rw [bAnd_e, h1]; rfl
theorem if_f {c : BF} {s t : SF} (h1 : c δ = some false) : sIf c s t δ = t δ := by rw [sIf_e, h1]; rfl
theorem if_t {c : BF} {s t : SF} (h1 : c δ = some true) : sIf c s t δ = s δ := by rw [sIf_e, h1]; rfl
/-- an if that is passed by -/
theorem pass_if {c : BF} {s t : SF} (h1 : c δ = some false) : sSeq (sIf c s sNil) t δ = t δ := sSeq_nx (by rw [if_f h1]; rfl)
theorem set_of {i : Nat} {t : SF} (h1 : f δ = some d) : sSeq (sSet i f) t δ = t (δ.set i d) := sSeq_nx (by rw [sSet_e, h1]; rfl)
theorem ret_of (h1 : f δ = some d) : sRet f δ = some (.rt d δ) := by rw [sRet_e, h1]; rfl
theorem fn_rt {nl : Nat} {fo : Bool} {G : SF} {ds δ' : List D} (h1 : G (ds ++ List.replicate nl .none) = some (.rt d δ')) (h2 : δ'.take ds.length = ds) : fnF nl fo G ds = some (d, ds) := by rw [fnF_e, h1, Option.bind_some, outF_rt, h2]
end
theorem cmpP_g {α : Type} {tg : D → List D → Option (List D)} {c : BF} {f : EF} {δ : List D} (e : α → D) (p : α → Bool) (g : α → D) (δ1 : α → List D) : ∀ xs : List α, (∀ x ∈ xs, tg (e x) δ = some (δ1 x) ∧ c (δ1 x) = some (p x) ∧ (p x = true → f (δ1 x) = some (g x))) → cmpP tg c f δ (xs.map e) = some ((xs.filter p).map g)
  | [], _ => rfl
  | x :: xs, h => by
    obtain ⟨h1, h2, h3⟩ := h x List.mem_cons_self
    rw [List.map_cons, cmpP, h1, Option.bind_some, h2, Option.bind_some, cmpP_g e p g δ1 xs fun y hy => h y (List.mem_cons_of_mem _ hy)]
    cases hp : p x with
    | true => rw [if_pos rfl, h3 hp, Option.bind_some, List.filter_cons_of_pos hp]; rfl
    | false => rw [if_neg Bool.false_ne_true, List.filter_cons_of_neg (by rw [hp]; exact Bool.false_ne_true)]
theorem xCmp_g {α : Type} {src : LF} {tg : D → List D → Option (List D)} {c : BF} {f : EF} {δ : List D} (e : α → D) (p : α → Bool) (g : α → D) (δ1 : α → List D) (xs : List α) (hs : src δ = some (xs.map e)) (hl : xs.length ≤ sizeLine) (h : ∀ x ∈ xs, tg (e x) δ = some (δ1 x) ∧ c (δ1 x) = some (p x) ∧ (p x = true → f (δ1 x) = some (g x))) :
    xCmp src tg c f δ = some (.list ((xs.filter p).map g)) := by
  rw [xCmp_e, hs, Option.bind_some, if_pos (by rw [List.length_map]; exact hl), cmpP_g e p g δ1 xs h]
  rfl
theorem xCmp_m {α : Type} {src : LF} {tg : D → List D → Option (List D)} {f : EF} {δ : List D} (e : α → D) (g : α → D) (δ1 : α → List D) (xs : List α) (hs : src δ = some (xs.map e)) (hl : xs.length ≤ sizeLine) (h : ∀ x ∈ xs, tg (e x) δ = some (δ1 x) ∧ f (δ1 x) = some (g x)) :
    xCmp src tg bYes f δ = some (.list (xs.map g)) := by
  have := xCmp_g (c := bYes) e (fun _ => true) g δ1 xs hs hl fun x hx => ⟨(h x hx).1, rfl, fun _ => (h x hx).2⟩
  rw [List.filter_eq_self.mpr fun _ _ => rfl] at this
  exact this
/-! ### places -/
def ga (nm : List Int) (i : Int) : Int := nm.getD i.toNat 0
def gl (ls : List Lf) (i : Int) : Lf := ls.getD i.toNat (0, 0)
theorem ga_at {nm : List Int} {i : Int} (h0 : 0 ≤ i) (h1 : i < nm.length) : nm[i.toNat]? = some (ga nm i) := by
  have h : i.toNat < nm.length := by omega
  rw [List.getElem?_eq_getElem h]
  simp [ga, h]
theorem gl_at {ls : List Lf} {i : Int} (h0 : 0 ≤ i) (h1 : i < ls.length) : ls[i.toNat]? = some (gl ls i) := by
  have h : i.toNat < ls.length := by omega
  rw [List.getElem?_eq_getElem h]
  simp [gl, h]
theorem dIx_at {ds : List D} {i : Int} {d : D} (h0 : 0 ≤ i) (h : ds[i.toNat]? = some d) : dIx (.tuple ds) (.int i) = some d := by
  have e : dIx (.tuple ds) (.int ((i.toNat : Nat) : Int)) = some d := by
    show L2.atI _ _ = _
    rw [atI_nat (List.getElem?_eq_some_iff.mp h).1, h]
  rwa [Int.toNat_of_nonneg h0] at e
theorem dIx_lot {nm : List Int} {i : Int} (h0 : 0 ≤ i) (h1 : i < nm.length) : dIx (lotD nm) (.int i) = some (.int (ga nm i)) := dIx_at h0 (by rw [List.getElem?_map, ga_at h0 h1]; rfl)
theorem dIx_lvs {ls : List Lf} {i : Int} (h0 : 0 ≤ i) (h1 : i < ls.length) : dIx (leavesD ls) (.int i) = some (leafD (gl ls i)) := dIx_at h0 (by rw [List.getElem?_map, gl_at h0 h1]; rfl)
theorem ga_mem {nm : List Int} {i : Int} (h0 : 0 ≤ i) (h1 : i < nm.length) : ga nm i ∈ nm := List.mem_of_getElem? (ga_at h0 h1)
theorem gl_mem {ls : List Lf} {i : Int} (h0 : 0 ≤ i) (h1 : i < ls.length) : gl ls i ∈ ls := List.mem_of_getElem? (gl_at h0 h1)
/-- an order of the first M numbers -/
structure Ord (M : Nat) (nm : List Int) : Prop where
  perm : nm.Perm (rngI M)
theorem Ord.len {M : Nat} {nm : List Int} (h : Ord M nm) : nm.length = M := by rw [h.perm.length_eq, rngI_len]
theorem Ord.nd {M : Nat} {nm : List Int} (h : Ord M nm) : nm.Nodup := h.perm.nodup_iff.mpr (asc_nd (rngI_lot M).1)
theorem Ord.mem {M : Nat} {nm : List Int} (h : Ord M nm) {i : Int} : i ∈ nm ↔ 0 ≤ i ∧ i < (M : Int) := by rw [h.perm.mem_iff, rngI_mem]
theorem Ord.ga {M : Nat} {nm : List Int} (h : Ord M nm) {i : Int} (h0 : 0 ≤ i) (h1 : i < M) : 0 ≤ ga nm i ∧ LawK04.ga nm i < M := h.mem.mp (ga_mem h0 (by rw [h.len]; exact h1))
theorem ord_of {M : Nat} {nm : List Int} (h1 : nm.length = M) (h2 : nm.Nodup) (h3 : ∀ i ∈ nm, 0 ≤ i ∧ i < (M : Int)) : Ord M nm := by
  refine ⟨?_⟩
  have hs : ∀ i ∈ nm, i ∈ rngI M := fun i hi => rngI_mem.mpr (h3 i hi)
  refine (List.perm_ext_iff_of_nodup h2 (asc_nd (rngI_lot M).1)).mpr fun i => ⟨hs i, fun hi => ?_⟩
  refine Classical.byContradiction fun hn => ?_
  have h4 : (i :: nm).Nodup := List.nodup_cons.mpr ⟨hn, h2⟩
  have := h4.length_le_of_subset (l₂ := rngI M) fun j hj => by
    rcases List.mem_cons.mp hj with e | e
    · rw [e]; exact hi
    · exact hs j e
  rw [List.length_cons, rngI_len] at this
  omega
/-! ### is_order -/
theorem shp_ints : ∀ ws : List Int, PyData.canLayAll0 (ws.map PyData.int) = true ∧ PyData.depthAll (ws.map PyData.int) = 0
  | [] => by simp [PyData.canLayAll0, PyData.depthAll]
  | w :: ws => by
    obtain ⟨h1, h2⟩ := shp_ints ws
    simp [PyData.canLayAll0, PyData.depthAll, PyData.canLay0, PyData.depth, h1, h2]
theorem shp_list (ws : List Int) : SeqAt.shaped (.list (ws.map PyData.int)) = true := by
  obtain ⟨h1, h2⟩ := shp_ints ws
  simp [SeqAt.shaped, PyData.canLay0, PyData.depth, h1, h2]
theorem eqvAll_ints : ∀ ws : List Int, PyData.eqvAll (ws.map PyData.int) (ws.map PyData.int) = true
  | [] => by simp [PyData.eqvAll]
  | w :: ws => by
    have := eqvAll_ints ws
    simp [PyData.eqvAll, PyData.eqv, this]
theorem dEq_list (ws : List Int) : dEq (.list (ws.map .int)) (.list (ws.map .int)) = some (.bool true) := by
  unfold dEq
  rw [shp_list]
  show some (PyData.bool (PyData.eqv _ _)) = _
  rw [PyData.eqv, eqvAll_ints]
theorem f_order {M : Nat} {nm : List Int} (h : Ord M nm) (hM : M ≤ 1000) : f_is_order [.int M, lotD nm] = some (.bool true, [.int M, lotD nm]) := by
  have c1 : bNot (bE (xCall f_is_number (xCons (xV 0) xNil))) [.int M, lotD nm, .none] = some false := bN_of (bE_of (call1 rfl (f_num_nat M)))
  have c2 : bOr (bNot (bE (x1 (dIsi "tuple") (xV 1)))) (bE (x2 dNe (xL oLen (xCons (xV 1) xNil)) (xV 0))) [.int M, lotD nm, .none] = some false := by
    refine or_f rfl (bE_of ?_)
    show dNe (.int ((nm.map PyData.int).length : Nat)) (.int M) = _
    rw [List.length_map, h.len, dNe_e]
    simp
  obtain ⟨δ', l, a, e⟩ := forL_inv (tg := gSet 2) (b := sIf (bNot (bE (xCall f_is_number (xCons (xV 2) xNil)))) (sRet (xK (.bool false))) sNil) (fun _ δ => ∃ a, δ = [.int M, lotD nm, a]) (nm.map .int) 0 [.int M, lotD nm, .none] ⟨_, rfl⟩ fun j d δ hd ⟨a, e⟩ => by
    subst e
    rw [List.getElem?_map] at hd
    obtain ⟨w, hw, rfl⟩ := Option.map_eq_some_iff.mp hd
    have h0 := (h.mem.mp (List.mem_of_getElem? hw)).1
    refine ⟨_, [.int M, lotD nm, .int w], rfl, ?_, _, rfl⟩
    have n : f_is_number [.int w] = some (.bool true, [.int w]) := by rw [f_num, decide_eq_true h0]
    show sIf _ _ _ [.int M, lotD nm, .int w] = _
    rw [if_f (bN_of (bE_of (call1 (a := .int w) rfl n)))]
    rfl
  subst e
  have l' : sFor (lSeq (xV 1)) (gSet 2) (sIf (bNot (bE (xCall f_is_number (xCons (xV 2) xNil)))) (sRet (xK (.bool false))) sNil) [.int M, lotD nm, .none] = some (.nx [.int M, lotD nm, a]) := l
  have r : x2 dEq (x1 oSortA (xV 1)) (x1 oLstRng (xV 0)) [.int M, lotD nm, a] = some (.bool true) := by
    have s1 : x1 oSortA (xV 1) [.int M, lotD nm, a] = some (.list ((rngI M).map .int)) := by
      show (if (nm.map PyData.int).all isI then some (PyData.list (srtD (nm.map PyData.int))) else none) = _
      rw [all_isI, if_pos rfl, srt_ints (rngI_lot M).1 h.perm]
    have s2 : x1 oLstRng (xV 0) [.int M, lotD nm, a] = some (.list ((rngI M).map .int)) := by
      show oLstRng (.int M) = _
      rw [lst_rng hM, rngD_I]
    rw [x2_of s1 s2, dEq_list]
  refine fn_rt (δ' := [.int M, lotD nm, a]) ?_ rfl
  show g_is_order [.int M, lotD nm, .none] = _
  unfold g_is_order
  rw [pass_if c1, pass_if c2, sSeq_nx l']
  exact ret_of r
/-! ### backwards, renamed, dealt -/
def sw (l : Lf) : Lf := (l.2, l.1)
def rn (nm : List Int) (l : Lf) : Lf := (ga nm l.1, ga nm l.2)
def dl (ls : List Lf) (od : List Int) : List Lf := od.map (gl ls)
theorem f_backwards_e {n : Int} {ls : List Lf} (hl : ls.length ≤ sizeLine) : f_backwards [pileD n ls] = some (pileD n (ls.map sw), [pileD n ls]) := by
  have h : xCmp (lSeq (xV 2)) (gTupD [3, 4]) bYes (xL mkTup (xCons (xV 4) (xCons (xV 3) xNil))) [pileD n ls, .int n, leavesD ls, .none, .none] = some (.list ((ls.map sw).map leafD)) := by
    rw [List.map_map]
    exact xCmp_m leafD (leafD ∘ sw) (fun l => [pileD n ls, .int n, leavesD ls, .int l.1, .int l.2]) ls rfl hl fun l _ => ⟨rfl, tp2 rfl rfl⟩
  refine fn_rt (δ' := [pileD n ls, .int n, leavesD ls, .none, .none]) ?_ rfl
  show g_backwards [pileD n ls, .none, .none, .none, .none] = _
  unfold g_backwards
  rw [sSeq_nx (δ' := [pileD n ls, .int n, leavesD ls, .none, .none]) rfl]
  exact ret_of (pile_of rfl h)
theorem f_renamed_e {N : Nat} {ls : List Lf} {nm : List Int} (hp : IsPile N ls) (h : Ord N nm) (hN : N ≤ 1000) : f_renamed [pileD N ls, lotD nm] = some (pileD N (ls.map (rn nm)), [pileD N ls, lotD nm]) := by
  have c : bNot (bE (xCall f_is_order (xCons (xV 2) (xCons (xV 1) xNil)))) [pileD N ls, lotD nm, .int N, leavesD ls, .none, .none] = some false := bN_of (bE_of (call2 rfl rfl (f_order h hN)))
  have k : xCmp (lSeq (xV 3)) (gTupD [4, 5]) bYes (xL mkTup (xCons (x2 dIx (xV 1) (xV 4)) (xCons (x2 dIx (xV 1) (xV 5)) xNil))) [pileD N ls, lotD nm, .int N, leavesD ls, .none, .none] = some (.list ((ls.map (rn nm)).map leafD)) := by
    rw [List.map_map]
    refine xCmp_m leafD (leafD ∘ rn nm) (fun l => [pileD N ls, lotD nm, .int N, leavesD ls, .int l.1, .int l.2]) ls rfl hp.sz fun l hl => ⟨rfl, ?_⟩
    have h1 := hp.fst l hl
    have h2 := hp.snd l hl
    exact tp2 (by rw [x2_of (d := lotD nm) (e := .int l.1) rfl rfl]; exact dIx_lot h1.1 (by rw [h.len]; exact h1.2)) (by rw [x2_of (d := lotD nm) (e := .int l.2) rfl rfl]; exact dIx_lot h2.1 (by rw [h.len]; exact h2.2))
  refine fn_rt (δ' := [pileD N ls, lotD nm, .int N, leavesD ls, .none, .none]) ?_ rfl
  show g_renamed [pileD N ls, lotD nm, .none, .none, .none, .none] = _
  unfold g_renamed
  rw [sSeq_nx (δ' := [pileD N ls, lotD nm, .int N, leavesD ls, .none, .none]) rfl, pass_if c]
  exact ret_of (pile_of rfl k)
theorem cmp_ord {src : LF} {i : Nat} {f : EF} {δ : List D} {od : List Int} (g : Int → D) (hs : src δ = some (od.map .int)) (hl : od.length ≤ sizeLine) (h : ∀ w ∈ od, f (δ.set i (.int w)) = some (g w)) : xCmp src (gSet i) bYes f δ = some (.list (od.map g)) :=
  xCmp_m PyData.int g (fun w => δ.set i (.int w)) od hs hl fun w hw => ⟨rfl, h w hw⟩
theorem f_dealt_e {n : Int} {ls : List Lf} {od : List Int} (h : Ord ls.length od) (hl : ls.length ≤ 1000) : f_dealt [pileD n ls, lotD od] = some (pileD n (dl ls od), [pileD n ls, lotD od]) := by
  have sz := size_le
  have e0 : xL oLen (xCons (xV 3) xNil) [pileD n ls, lotD od, .int n, leavesD ls, .none] = some (.int ((ls.length : Nat) : Int)) := dLen_leaves ls
  have c : bNot (bE (xCall f_is_order (xCons (xL oLen (xCons (xV 3) xNil)) (xCons (xV 1) xNil)))) [pileD n ls, lotD od, .int n, leavesD ls, .none] = some false := bN_of (bE_of (call2 e0 rfl (f_order h hl)))
  have k : xCmp (lSeq (xV 1)) (gSet 4) bYes (x2 dIx (xV 3) (xV 4)) [pileD n ls, lotD od, .int n, leavesD ls, .none] = some (.list ((dl ls od).map leafD)) := by
    unfold dl
    rw [List.map_map]
    refine cmp_ord (leafD ∘ gl ls) rfl (by rw [h.len]; omega) fun w hw => ?_
    have := h.mem.mp hw
    rw [x2_of (d := leavesD ls) (e := .int w) rfl rfl]
    exact dIx_lvs this.1 this.2
  refine fn_rt (δ' := [pileD n ls, lotD od, .int n, leavesD ls, .none]) ?_ rfl
  show g_dealt [pileD n ls, lotD od, .none, .none, .none] = _
  unfold g_dealt
  rw [sSeq_nx (δ' := [pileD n ls, lotD od, .int n, leavesD ls, .none]) rfl, pass_if c]
  exact ret_of (pile_of rfl k)
/-! ### the opposite order -/
def opp (M : Nat) (nm : List Int) : Nat → List Int
  | 0 => List.replicate M 0
  | k + 1 => (opp M nm k).set (ga nm k).toNat k
theorem opp_len (M : Nat) (nm : List Int) : ∀ k, (opp M nm k).length = M
  | 0 => by simp [opp]
  | k + 1 => by rw [opp, List.length_set, opp_len M nm k]
theorem ga_inj {M : Nat} {nm : List Int} (h : Ord M nm) {i j : Int} (hi : 0 ≤ i ∧ i < M) (hj : 0 ≤ j ∧ j < M) (e : ga nm i = ga nm j) : i = j := by
  have h1 := ga_at hi.1 (by rw [h.len]; exact hi.2)
  have h2 := ga_at hj.1 (by rw [h.len]; exact hj.2)
  rw [← e] at h2
  have hn := List.pairwise_iff_getElem.mp h.nd
  obtain ⟨a1, a2⟩ := List.getElem?_eq_some_iff.mp h1
  obtain ⟨b1, b2⟩ := List.getElem?_eq_some_iff.mp h2
  rcases Nat.lt_trichotomy i.toNat j.toNat with q | q | q
  · exact absurd (a2.trans b2.symm) (hn _ _ a1 b1 q)
  · omega
  · exact absurd (b2.trans a2.symm) (hn _ _ b1 a1 q)
theorem perm_sub {α : Type} [BEq α] [LawfulBEq α] : ∀ {l l' : List α}, l.Nodup → (∀ x ∈ l, x ∈ l') → l'.length ≤ l.length → l'.Perm l
  | [], l', _, _, h => by rw [List.length_eq_zero_iff.mp (Nat.le_zero.mp h)]
  | a :: l, l', hn, hs, h => by
    have ha := hs a List.mem_cons_self
    obtain ⟨h1, h2⟩ := List.nodup_cons.mp hn
    refine (List.perm_cons_erase ha).trans (.cons a ?_)
    refine perm_sub h2 (fun x hx => (List.mem_erase_of_ne fun z => h1 (by rw [← z]; exact hx)).mpr (hs x (List.mem_cons_of_mem _ hx))) ?_
    have := List.length_erase_of_mem ha
    rw [List.length_cons] at h
    omega
theorem opp_at {M : Nat} {nm : List Int} (h : Ord M nm) : ∀ k : Nat, k ≤ M → ∀ i : Nat, i < k → ga (opp M nm k) (ga nm i) = i
  | 0, _, i, hi => absurd hi (Nat.not_lt_zero _)
  | k + 1, hk, i, hi => by
    have b1 := h.ga (i := (k : Int)) (by omega) (by omega)
    have b2 := h.ga (i := (i : Int)) (by omega) (by omega)
    rw [opp]
    unfold ga at *
    rcases Nat.lt_or_ge i k with q | q
    · have ne : (ga nm k).toNat ≠ (ga nm i).toNat := fun z => by
        have := h.ga (i := (k : Int)) (by omega) (by omega)
        have := h.ga (i := (i : Int)) (by omega) (by omega)
        have := ga_inj h (i := (k : Int)) (j := (i : Int)) ⟨by omega, by omega⟩ ⟨by omega, by omega⟩ (by omega)
        omega
      have ih := opp_at h k (by omega) i q
      unfold ga at ih ne
      simp only [List.getD_eq_getElem?_getD] at ih ne ⊢
      rw [List.getElem?_set_ne ne]
      exact ih
    · have e : i = k := by omega
      subst e
      simp only [List.getD_eq_getElem?_getD] at b1 ⊢
      rw [List.getElem?_set_self (by rw [opp_len]; omega)]
      rfl
theorem opp_ga {M : Nat} {nm : List Int} (h : Ord M nm) {i : Int} (hi : 0 ≤ i ∧ i < M) : ga (opp M nm M) (ga nm i) = i := by
  obtain ⟨k, rfl⟩ := Int.eq_ofNat_of_zero_le hi.1
  exact opp_at h M (Nat.le_refl _) k (by have := hi.2; omega)
theorem opp_ord {M : Nat} {nm : List Int} (h : Ord M nm) : Ord M (opp M nm M) := by
  -- every i < M stands in it: at the place ga nm i
  have hm : ∀ i ∈ rngI M, i ∈ opp M nm M := fun i hi => by
    have hi := rngI_mem.mp hi
    have b := h.ga hi.1 hi.2
    rw [← opp_ga h hi]
    exact ga_mem b.1 (by rw [opp_len]; exact b.2)
  have hl := opp_len M nm M
  have hn : (rngI M).Nodup := asc_nd (rngI_lot M).1
  refine ⟨?_⟩
  exact perm_sub hn hm (by rw [hl, rngI_len]; exact Nat.le_refl _)
end LawK04

set_option linter.all false
set_option maxRecDepth 10000
namespace LawK04
open PySem Pv
/-! k04: is_heap, hung, parted, joined -/
theorem num_ok {w : Int} (h : 0 ≤ w) : f_is_number [.int w] = some (.bool true, [.int w]) := by rw [f_num, decide_eq_true h]
theorem num2 {δ : List D} {f : EF} {w : Int} (h1 : f δ = some (.int w)) (h : 0 ≤ w) : bNot (bE (xCall f_is_number (xCons f xNil))) δ = some false := bN_of (bE_of (call1 h1 (num_ok h)))
theorem f_heap {N : Nat} {ls : List Lf} (h1 : 1 ≤ N) (hp : IsPile N ls) : f_is_heap [pileD N ls] = some (.bool true, [pileD N ls]) := by
  have c1 : bOr (bNot (bE (x1 (dIsi "tuple") (xV 0)))) (bE (x2 dNe (xL oLen (xCons (xV 0) xNil)) (xK (.int 2)))) [pileD N ls, .none, .none, .none, .none] = some false := by
    refine or_f rfl (bE_of ?_)
    show dNe (.int 2) (.int 2) = _
    rw [dNe_e]
    rfl
  have c2 : bOr (bNot (bE (xCall f_is_number (xCons (xV 1) xNil)))) (bOr (bE (x2 dLt (xV 1) (xK (.int 1)))) (bNot (bE (x1 (dIsi "tuple") (xV 2))))) [pileD N ls, .int N, leavesD ls, .none, .none] = some false := by
    refine or_f (num2 rfl (by omega)) (or_f (bE_of ?_) rfl)
    show some (PyData.bool (decide ((N : Int) < 1))) = _
    rw [decide_eq_false (by omega)]
  obtain ⟨bb, ebb⟩ : ∃ b : SF, b = sIf (bOr (bNot (bE (xCall f_is_number (xCons (xV 4) xNil)))) (bE (x2 dGe (xV 4) (xV 1)))) (sRet (xK (.bool false))) sNil := ⟨_, rfl⟩
  have inn1 : ∀ (r : D) (w : Int), 0 ≤ w ∧ w < N → bb [pileD N ls, .int N, leavesD ls, r, .int w] = some (.nx [pileD N ls, .int N, leavesD ls, r, .int w]) := fun r w hw => by
    have c : bOr (bNot (bE (xCall f_is_number (xCons (xV 4) xNil)))) (bE (x2 dGe (xV 4) (xV 1))) [pileD N ls, .int N, leavesD ls, r, .int w] = some false := by
      refine or_f (num2 rfl hw.1) (bE_of ?_)
      show some (PyData.bool (decide ((N : Int) ≤ w))) = _
      rw [decide_eq_false (by omega)]
    rw [ebb, if_f c]
    rfl
  obtain ⟨δ', l, a, b, e⟩ := forL_inv (tg := gSet 3) (b := sSeq (sIf (bOr (bNot (bE (x1 (dIsi "tuple") (xV 3)))) (bE (x2 dNe (xL oLen (xCons (xV 3) xNil)) (xK (.int 2))))) (sRet (xK (.bool false))) sNil) (sFor (lSeq (xV 3)) (gSet 4) bb)) (fun _ δ => ∃ a b, δ = [pileD N ls, .int N, leavesD ls, a, b]) (ls.map leafD) 0 [pileD N ls, .int N, leavesD ls, .none, .none] ⟨_, _, rfl⟩ fun j d δ hd ⟨a, b, e⟩ => by
    subst e
    rw [List.getElem?_map] at hd
    obtain ⟨l, hl, rfl⟩ := Option.map_eq_some_iff.mp hd
    have m := List.mem_of_getElem? hl
    refine ⟨_, [pileD N ls, .int N, leavesD ls, leafD l, .int l.2], rfl, ?_, _, _, rfl⟩
    have c : bOr (bNot (bE (x1 (dIsi "tuple") (xV 3)))) (bE (x2 dNe (xL oLen (xCons (xV 3) xNil)) (xK (.int 2)))) [pileD N ls, .int N, leavesD ls, leafD l, b] = some false := by
      refine or_f rfl (bE_of ?_)
      show dNe (.int 2) (.int 2) = _
      rw [dNe_e]
      rfl
    show sSeq _ _ [pileD N ls, .int N, leavesD ls, leafD l, b] = _
    rw [pass_if c, sFor_e]
    show forL (gSet 4) bb [.int l.1, .int l.2] [pileD N ls, .int N, leavesD ls, leafD l, b] = _
    have i1 := inn1 (leafD l) l.1 (hp.fst l m)
    have i2 := inn1 (leafD l) l.2 (hp.snd l m)
    unfold forL
    rw [gSet_e, Option.bind_some]
    show (bb [pileD N ls, .int N, leavesD ls, leafD l, .int l.1]).bind _ = _
    rw [i1, Option.bind_some]
    show forL (gSet 4) bb [.int l.2] [pileD N ls, .int N, leavesD ls, leafD l, .int l.1] = _
    unfold forL
    rw [gSet_e, Option.bind_some]
    show (bb [pileD N ls, .int N, leavesD ls, leafD l, .int l.2]).bind _ = _
    rw [i2]
    rfl
  subst e
  subst ebb
  have l' : sFor (lSeq (xV 2)) (gSet 3) (sSeq (sIf (bOr (bNot (bE (x1 (dIsi "tuple") (xV 3)))) (bE (x2 dNe (xL oLen (xCons (xV 3) xNil)) (xK (.int 2))))) (sRet (xK (.bool false))) sNil) (sFor (lSeq (xV 3)) (gSet 4) (sIf (bOr (bNot (bE (xCall f_is_number (xCons (xV 4) xNil)))) (bE (x2 dGe (xV 4) (xV 1)))) (sRet (xK (.bool false))) sNil))) [pileD N ls, .int N, leavesD ls, .none, .none] = some (.nx [pileD N ls, .int N, leavesD ls, a, b]) := l
  refine fn_rt (δ' := [pileD N ls, .int N, leavesD ls, a, b]) ?_ rfl
  show g_is_heap [pileD N ls, .none, .none, .none, .none] = _
  unfold g_is_heap
  rw [pass_if c1, sSeq_nx (δ' := [pileD N ls, .int N, leavesD ls, .none, .none]) rfl, pass_if c2, sSeq_nx l']
  rfl
/-! ### leaves put together, cut -/
theorem plus_lv {xs ys : List Lf} (h : xs.length + ys.length ≤ 100000) : dPlus (leavesD xs) (leavesD ys) = some (leavesD (xs ++ ys)) := by
  have sz := size_le
  show (if (xs.map leafD).length + (ys.map leafD).length ≤ sizeLine then some (PyData.tuple (xs.map leafD ++ ys.map leafD)) else none) = _
  rw [List.length_map, List.length_map, if_pos (by omega), ← List.map_append]
  rfl
theorem pl_of {δ : List D} {f g : EF} {xs ys : List Lf} (h1 : f δ = some (leavesD xs)) (h2 : g δ = some (leavesD ys)) (h : xs.length + ys.length ≤ 100000) : x2 dPlus f g δ = some (leavesD (xs ++ ys)) := by rw [x2_of h1 h2, plus_lv h]
theorem one_of {δ : List D} {f g : EF} {i j : Int} (h1 : f δ = some (.int i)) (h2 : g δ = some (.int j)) : xL mkTup (xCons (xL mkTup (xCons f (xCons g xNil))) xNil) δ = some (leavesD [(i, j)]) := tp1 (tp2 h1 h2)
theorem sl_take {δ : List D} {f g : EF} {ls : List Lf} {k : Nat} (h1 : f δ = some (leavesD ls)) (h2 : g δ = some (.int (k : Nat))) (hk : k ≤ ls.length) : xSlT f oNo (oInt1 g) δ = some (leavesD (ls.take k)) := by
  unfold xSlT
  rw [h1, Option.bind_some]
  show ((oNo δ).bind fun l => (oInt1 g δ).bind fun h => some (PyData.tuple (cutD (ls.map leafD) l h))) = _
  have e : oInt1 g δ = some (some ((k : Nat) : Int)) := by unfold oInt1; rw [h2]; rfl
  rw [e]
  show some (PyData.tuple (cutD (ls.map leafD) none (some ((k : Nat) : Int)))) = _
  unfold cutD
  rw [HT.sIx_nat, HT.sIx_none, List.drop_zero, Nat.sub_zero, List.length_map, Nat.min_eq_left hk, ← List.map_take]
  rfl
theorem sl_drop {δ : List D} {f g : EF} {ls : List Lf} {k : Nat} (h1 : f δ = some (leavesD ls)) (h2 : g δ = some (.int (k : Nat))) (hk : k ≤ ls.length) : xSlT f (oInt1 g) oNo δ = some (leavesD (ls.drop k)) := by
  unfold xSlT
  rw [h1, Option.bind_some]
  show ((oInt1 g δ).bind fun l => (oNo δ).bind fun h => some (PyData.tuple (cutD (ls.map leafD) l h))) = _
  have e : oInt1 g δ = some (some ((k : Nat) : Int)) := by unfold oInt1; rw [h2]; rfl
  rw [e]
  show some (PyData.tuple (cutD (ls.map leafD) (some ((k : Nat) : Int)) none)) = _
  unfold cutD
  rw [HT.sIx_nat, HT.sIx_none, List.length_map, Nat.min_eq_left hk, ← List.map_drop, List.take_of_length_le (by rw [List.length_map, List.length_drop]; exact Nat.le_refl _)]
  rfl
theorem f_hung_e {N : Nat} {ls : List Lf} {w : Int} (h0 : 0 ≤ w) (h1 : w < N) (hl : ls.length ≤ 1000) : f_hung [pileD N ls, .int w] = some (pileD N (ls ++ [(w, w)]), [pileD N ls, .int w]) := by
  have w1 : f_is_word [pileD N ls, .int w] = some (.bool true, [pileD N ls, .int w]) := by rw [f_word, decide_eq_true h0, decide_eq_true h1]; rfl
  have c : bNot (bE (xCall f_is_word (xCons (xV 0) (xCons (xV 1) xNil)))) [pileD N ls, .int w, .none, .none] = some false := bN_of (bE_of (call2 rfl rfl w1))
  refine fn_rt (δ' := [pileD N ls, .int w, .int N, leavesD ls]) ?_ rfl
  show g_hung [pileD N ls, .int w, .none, .none] = _
  unfold g_hung
  rw [pass_if c, sSeq_nx (δ' := [pileD N ls, .int w, .int N, leavesD ls]) rfl]
  exact ret_of (tp2 rfl (pl_of rfl (one_of rfl rfl) (by simp; omega)))
def prt (N : Nat) (ls : List Lf) (k : Nat) (l : Lf) : List Lf := ls.take k ++ [(l.1, (N : Int))] ++ ls.drop (k + 1) ++ [((N : Int), l.2)]
/-- leaves[:k] + ((first, size),) + leaves[k + 1:] + ((size, last),) -/
theorem prt_of {δ : List D} {fl fk ff fs fc : EF} {N : Nat} {ls : List Lf} {k : Nat} {l : Lf} (h1 : fl δ = some (leavesD ls)) (h2 : fk δ = some (.int (k : Nat))) (h3 : ff δ = some (.int l.1)) (h4 : fs δ = some (.int N)) (h5 : fc δ = some (.int l.2)) (hk : k < ls.length) (hl : ls.length ≤ 1000) :
    x2 dPlus (x2 dPlus (x2 dPlus (xSlT fl oNo (oInt1 fk)) (xL mkTup (xCons (xL mkTup (xCons ff (xCons fs xNil))) xNil))) (xSlT fl (oInt1 (x2 dAdd fk (xK (.int 1)))) oNo)) (xL mkTup (xCons (xL mkTup (xCons fs (xCons fc xNil))) xNil)) δ = some (leavesD (prt N ls k l)) := by
  have e1 : x2 dAdd fk (xK (.int 1)) δ = some (.int ((k + 1 : Nat) : Int)) := by rw [x2_of h2 rfl, dAdd_e]; simp
  have l1 : (ls.take k).length ≤ ls.length := by rw [List.length_take]; omega
  have l2 : (ls.drop (k + 1)).length ≤ ls.length := by rw [List.length_drop]; omega
  refine pl_of (pl_of (pl_of (sl_take h1 h2 (by omega)) (one_of h3 h4) ?_) (sl_drop h1 e1 (by omega)) ?_) (one_of h4 h5) ?_ <;> simp only [List.length_append, List.length_singleton] <;> omega
theorem f_parted_e {N : Nat} {ls : List Lf} {k : Nat} {l : Lf} (hk : ls[k]? = some l) (hl : ls.length ≤ 1000) : f_parted [pileD N ls, .int (k : Nat)] = some (pileD ((N + 1 : Nat) : Int) (prt N ls k l), [pileD N ls, .int (k : Nat)]) := by
  have hk' := (List.getElem?_eq_some_iff.mp hk).1
  have il : f_is_leaf [pileD N ls, .int (k : Nat)] = some (.bool true, [pileD N ls, .int (k : Nat)]) := by
    have e1 : xCall f_is_number (xCons (xV 1) xNil) [pileD N ls, .int (k : Nat)] = some (.bool true) := call1 rfl (num_ok (by omega))
    have e3 : xL oLen (xCons (x2 dIx (xV 0) (xK (.int 1))) xNil) [pileD N ls, .int (k : Nat)] = some (.int ((ls.length : Nat) : Int)) := by rw [xL1 (d := leavesD ls) (by rw [x2_of (d := pileD N ls) (e := .int 1) rfl rfl, dIx_pile1])]; exact dLen_leaves ls
    have e2 : x2 dLt (xV 1) (xL oLen (xCons (x2 dIx (xV 0) (xK (.int 1))) xNil)) [pileD N ls, .int (k : Nat)] = some (.bool true) := by
      rw [x2_of (d := .int (k : Nat)) rfl e3, dLt_e, decide_eq_true (by omega)]
    refine fn_rt (δ' := [pileD N ls, .int (k : Nat)]) ?_ rfl
    show g_is_leaf [pileD N ls, .int (k : Nat)] = _
    unfold g_is_leaf
    refine ret_of ?_
    rw [xAnd_e, e1, Option.bind_some, toB_e, Option.bind_some, if_pos rfl, e2]
  have c : bNot (bE (xCall f_is_leaf (xCons (xV 0) (xCons (xV 1) xNil)))) [pileD N ls, .int (k : Nat), .none, .none, .none, .none] = some false := bN_of (bE_of (call2 rfl rfl il))
  have u : sUnp (x2 dIx (xV 3) (xV 1)) (gTupD [4, 5]) [pileD N ls, .int (k : Nat), .int N, leavesD ls, .none, .none] = some (.nx [pileD N ls, .int (k : Nat), .int N, leavesD ls, .int l.1, .int l.2]) := by
    rw [sUnp_e, x2_of (d := leavesD ls) (e := .int (k : Nat)) rfl rfl, atI_leaves hk]
    rfl
  refine fn_rt (δ' := [pileD N ls, .int (k : Nat), .int N, leavesD ls, .int l.1, .int l.2]) ?_ rfl
  show g_parted [pileD N ls, .int (k : Nat), .none, .none, .none, .none] = _
  unfold g_parted
  rw [pass_if c, sSeq_nx (δ' := [pileD N ls, .int (k : Nat), .int N, leavesD ls, .none, .none]) rfl, sSeq_nx u]
  refine ret_of (tp2 ?_ (prt_of rfl rfl rfl rfl rfl hk' hl))
  show some (PyData.int ((N : Int) + 1)) = _
  rw [Int.natCast_add]
  rfl
/-! ### joined -/
def mv (N : Nat) (w : Int) : Int := if w = 0 then 0 else N + w - 1
def ml (N : Nat) (l : Lf) : Lf := (mv N l.1, mv N l.2)
theorem f_moved_e (N : Nat) (w : Int) : f__moved [.int N, .int w] = some (.int (mv N w), [.int N, .int w]) := by
  refine fn_rt (δ' := [.int N, .int w]) ?_ rfl
  show g__moved [.int N, .int w] = _
  unfold g__moved mv
  by_cases h : w = 0
  · have c : bE (x2 dEq (xV 1) (xK (.int 0))) [.int N, .int w] = some true := bE_of (by show dEq (.int w) (.int 0) = _; rw [dEq_e, h]; rfl)
    rw [if_pos h, sSeq_rt (δ' := [.int N, .int w]) (d := .int 0) (by rw [if_t c]; rfl)]
  · have c : bE (x2 dEq (xV 1) (xK (.int 0))) [.int N, .int w] = some false := bE_of (by show dEq (.int w) (.int 0) = _; rw [dEq_e, beq_eq_false_iff_ne.mpr h])
    rw [if_neg h, pass_if c]
    rfl
theorem appL {δ : List D} {i : Nat} {f : EF} {xs : List Lf} {l : Lf} (h1 : f δ = some (leafD l)) (h2 : δ[i]? = some (.list (xs.map leafD))) (hl : xs.length ≤ 100000) : sDrop (xApp i (mOf f)) δ = some (.nx (δ.set i (.list ((xs ++ [l]).map leafD)))) := by
  have sz := size_le
  refine drop_e (d := .none) ?_
  rw [app_e h1 h2 (by rw [List.length_map]; omega), List.map_append]
  rfl
theorem f_joined_e {N M : Nat} {ls es : List Lf} (hM : 1 ≤ M) (hp : IsPile M es) (hl : ls.length ≤ 1000) (he : es.length ≤ 1000) : f_joined [pileD N ls, pileD M es] = some (pileD ((N : Int) + M - 1) (ls ++ es.map (ml N)), [pileD N ls, pileD M es]) := by
  have c : bNot (bE (xCall f_is_heap (xCons (xV 1) xNil))) [pileD N ls, pileD M es, .none, .none, .none, .none, .none] = some false := bN_of (bE_of (call1 rfl (f_heap hM hp)))
  obtain ⟨δ', l, a, b, e⟩ := forL_inv (tg := gTupD [5, 6]) (b := sDrop (xApp 4 (mOf (xL mkTup (xCons (xCall f__moved (xCons (xV 2) (xCons (xV 5) xNil))) (xCons (xCall f__moved (xCons (xV 2) (xCons (xV 6) xNil))) xNil)))))) (fun j δ => ∃ a b, δ = [pileD N ls, pileD M es, .int N, leavesD ls, .list ((ls ++ (es.take j).map (ml N)).map leafD), a, b]) (es.map leafD) 0
    [pileD N ls, pileD M es, .int N, leavesD ls, .list (ls.map leafD), .none, .none] ⟨.none, .none, by rw [List.take_zero, List.map_nil, List.append_nil]⟩ fun j d δ hd ⟨a, b, e⟩ => by
    subst e
    rw [Nat.zero_add]
    rw [List.getElem?_map] at hd
    obtain ⟨l, hj, rfl⟩ := Option.map_eq_some_iff.mp hd
    refine ⟨_, [pileD N ls, pileD M es, .int N, leavesD ls, .list ((ls ++ (es.take (j + 1)).map (ml N)).map leafD), .int l.1, .int l.2], rfl, ?_, _, _, rfl⟩
    have ht : (es.take j).length ≤ es.length := by rw [List.length_take]; omega
    have := appL (δ := [pileD N ls, pileD M es, .int N, leavesD ls, .list ((ls ++ (es.take j).map (ml N)).map leafD), .int l.1, .int l.2]) (i := 4) (f := xL mkTup (xCons (xCall f__moved (xCons (xV 2) (xCons (xV 5) xNil))) (xCons (xCall f__moved (xCons (xV 2) (xCons (xV 6) xNil))) xNil))) (l := ml N l) (tp2 (call2 rfl rfl (f_moved_e N l.1)) (call2 rfl rfl (f_moved_e N l.2))) rfl (by rw [List.length_append, List.length_map]; omega)
    have eq : ls ++ (es.take (j + 1)).map (ml N) = ls ++ (es.take j).map (ml N) ++ [ml N l] := by rw [take_step hj, List.map_append, List.append_assoc]; rfl
    rw [eq]
    exact this
  subst e
  rw [Nat.zero_add, List.length_map, List.take_length] at l
  have i1 : x2 dIx (xV 1) (xK (.int 1)) [pileD N ls, pileD M es, .int N, leavesD ls, .list (ls.map leafD), .none, .none] = some (leavesD es) := by rw [x2_of (d := pileD M es) (e := .int 1) rfl rfl, dIx_pile1]
  have l' : sFor (lSeq (x2 dIx (xV 1) (xK (.int 1)))) (gTupD [5, 6]) (sDrop (xApp 4 (mOf (xL mkTup (xCons (xCall f__moved (xCons (xV 2) (xCons (xV 5) xNil))) (xCons (xCall f__moved (xCons (xV 2) (xCons (xV 6) xNil))) xNil)))))) [pileD N ls, pileD M es, .int N, leavesD ls, .list (ls.map leafD), .none, .none] = some (.nx [pileD N ls, pileD M es, .int N, leavesD ls, .list ((ls ++ es.map (ml N)).map leafD), a, b]) := by
    rw [sFor_e, lSeq_e, i1]
    exact l
  refine fn_rt (δ' := [pileD N ls, pileD M es, .int N, leavesD ls, .list ((ls ++ es.map (ml N)).map leafD), a, b]) ?_ rfl
  show g_joined [pileD N ls, pileD M es, .none, .none, .none, .none, .none] = _
  unfold g_joined
  rw [pass_if c, sSeq_nx (δ' := [pileD N ls, pileD M es, .int N, leavesD ls, .none, .none, .none]) rfl, sSeq_nx (δ' := [pileD N ls, pileD M es, .int N, leavesD ls, .list (ls.map leafD), .none, .none]) rfl, sSeq_nx l']
  refine ret_of (pile_of ?_ rfl)
  have i0 : x2 dIx (xV 1) (xK (.int 0)) [pileD N ls, pileD M es, .int N, leavesD ls, .list ((ls ++ es.map (ml N)).map leafD), a, b] = some (.int M) := by rw [x2_of (d := pileD M es) (e := .int 0) rfl rfl, dIx_pile0]
  rw [x2_of (d := .int ((N : Int) + M)) (e := .int 1) (by rw [x2_of (d := .int N) rfl i0, dAdd_e]) rfl, dSub_e]
end LawK04

set_option linter.all false
set_option maxRecDepth 10000
namespace LawK04
open PySem Pv
/-! k04: homes, words put together -/
def kp (P : List Int) (u : Int) : Bool := !P.contains u || u == P.headD 0
def rk (P : List Int) (n : Nat) : Nat := (List.range n).countP fun u : Nat => kp P (u : Int)
def hm (P : List Int) (w : Int) : Int := (rk P (if P.contains w then (P.headD 0).toNat else w.toNat) : Nat)
def hom (N : Nat) (P : List Int) : List Int := (List.range N).map fun i : Nat => hm P (i : Int)
def nb (P : List Int) (l : Lf) : Bool := !(P.contains l.1 && P.contains l.2)
def hlf (P : List Int) (l : Lf) : Lf := (hm P l.1, hm P l.2)
def put (P : List Int) (ls : List Lf) : List Lf := (ls.filter (nb P)).map (hlf P)
theorem rk_succ (P : List Int) (n : Nat) : rk P (n + 1) = rk P n + if kp P (n : Int) then 1 else 0 := by
  unfold rk
  rw [List.range_succ, List.countP_append]
  simp only [List.countP_cons, List.countP_nil, Nat.zero_add]
theorem rk_mono (P : List Int) {m n : Nat} (h : m ≤ n) : rk P m ≤ rk P n := by
  induction n with
  | zero => rw [Nat.le_zero.mp h]; exact Nat.le_refl _
  | succ n ih =>
    rcases Nat.lt_or_ge n m with q | q
    · rw [show m = n + 1 by omega]; exact Nat.le_refl _
    · have := ih q
      rw [rk_succ]
      omega
theorem rk_le (P : List Int) (n : Nat) : rk P n ≤ n := by
  have := List.countP_le_length (p := fun u : Nat => kp P (u : Int)) (l := List.range n)
  rw [List.length_range] at this
  exact this
theorem hom_len (N : Nat) (P : List Int) : (hom N P).length = N := by simp [hom]
theorem hom_at {N : Nat} {P : List Int} {w : Int} (h0 : 0 ≤ w) (h1 : w < N) : ga (hom N P) w = hm P w := by
  have h : w.toNat < N := by omega
  have e : (hom N P)[w.toNat]? = some (hm P w) := by
    unfold hom
    rw [List.getElem?_map, List.getElem?_range h]
    show some (hm P ((w.toNat : Nat) : Int)) = _
    rw [Int.toNat_of_nonneg h0]
  unfold ga
  rw [List.getD_eq_getElem?_getD, e]
  rfl
theorem hm_nonneg (P : List Int) (w : Int) : 0 ≤ hm P w := by unfold hm; omega
theorem dIx_hom {N : Nat} {P : List Int} {w : Int} (h0 : 0 ≤ w) (h1 : w < N) : dIx (lotD (hom N P)) (.int w) = some (.int (hm P w)) := by
  rw [dIx_lot h0 (by rw [hom_len]; exact h1), hom_at h0 h1]
theorem head_at {P : List Int} (h : P ≠ []) : dIx (lotD P) (.int 0) = some (.int (P.headD 0)) := by
  cases P with
  | nil => exact absurd rfl h
  | cons a P => exact at0 _ _
theorem head_mem {P : List Int} (h : P ≠ []) : P.headD 0 ∈ P := by
  cases P with
  | nil => exact absurd rfl h
  | cons a P => exact List.mem_cons_self
theorem head_le {N : Int} {P : List Int} (h : IsLot N P) {w : Int} (hw : w ∈ P) : P.headD 0 ≤ w := by
  cases P with
  | nil => cases hw
  | cons a P =>
    rcases List.mem_cons.mp hw with e | e
    · rw [e]; exact Int.le_refl _
    · exact Int.le_of_lt ((List.pairwise_cons.mp h.1).1 w e)
theorem appI {δ : List D} {i : Nat} {f : EF} {xs : List Int} {v : Int} (h1 : f δ = some (.int v)) (h2 : δ[i]? = some (.list (xs.map .int))) (hl : xs.length ≤ 100000) : sDrop (xApp i (mOf f)) δ = some (.nx (δ.set i (.list ((xs ++ [v]).map .int)))) := by
  have sz := size_le
  refine drop_e (d := .none) ?_
  rw [app_e h1 h2 (by rw [List.length_map]; omega), List.map_append]
  rfl
theorem hom_snoc (P : List Int) (j : Nat) : hom (j + 1) P = hom j P ++ [hm P (j : Int)] := by unfold hom; rw [List.range_succ, List.map_append]; rfl
theorem dIx_homL {j : Nat} {P : List Int} {w : Int} (h0 : 0 ≤ w) (h1 : w < j) : dIx (.list ((hom j P).map .int)) (.int w) = some (.int (hm P w)) := dIx_hom h0 h1
theorem lot_ok {N : Nat} {ls : List Lf} {P : List Int} (h : IsLot N P) {δ : List D} {f g : EF} (h1 : f δ = some (pileD N ls)) (h2 : g δ = some (lotD P)) : bNot (bE (xCall f_is_lot (xCons f (xCons g xNil)))) δ = some false := bN_of (bE_of (call2 h1 h2 (f_lot N ls P h)))
theorem len_lot {δ : List D} {f : EF} {P : List Int} (h : f δ = some (lotD P)) : xL oLen (xCons f xNil) δ = some (.int ((P.length : Nat) : Int)) := by
  rw [xL1 h]
  show some (PyData.int (((P.map PyData.int).length : Nat) : Int)) = _
  rw [List.length_map]
def hBad : BF := bOr (bNot (bE (xCall f_is_lot (xCons (xV 0) (xCons (xV 1) xNil))))) (bOr (bE (x2 dEq (xL oLen (xCons (xV 1) xNil)) (xK (.int 0)))) (bE (x2 dEq (xL oLen (xCons (xV 1) xNil)) (x2 dIx (xV 0) (xK (.int 0))))))
theorem hBad_e {N : Nat} {ls : List Lf} {P : List Int} {r : List D} (h : IsLot N P) : hBad (pileD N ls :: lotD P :: r) = some (decide (P.length = 0) || decide (P.length = N)) := by
  unfold hBad
  refine or_f (lot_ok h rfl rfl) ?_
  have e1 : bE (x2 dEq (xL oLen (xCons (xV 1) xNil)) (xK (.int 0))) (pileD N ls :: lotD P :: r) = some (decide (P.length = 0)) := bE_of (by
    rw [x2_of (len_lot (P := P) rfl) rfl, dEq_e]
    congr 2
    by_cases z : P.length = 0
    · rw [z]; rfl
    · rw [decide_eq_false z]; exact beq_eq_false_iff_ne.mpr (by omega))
  have e2 : bE (x2 dEq (xL oLen (xCons (xV 1) xNil)) (x2 dIx (xV 0) (xK (.int 0)))) (pileD N ls :: lotD P :: r) = some (decide (P.length = N)) := bE_of (by
    rw [x2_of (e := .int N) (len_lot (P := P) rfl) (by rw [x2_of (d := pileD N ls) (e := .int 0) rfl rfl, dIx_pile0]), dEq_e]
    congr 2
    by_cases z : P.length = N
    · rw [z]; simp
    · rw [decide_eq_false z]; exact beq_eq_false_iff_ne.mpr (by omega))
  rw [bOr_e, e1, Option.bind_some]
  cases decide (P.length = 0) with
  | true => rfl
  | false => exact e2
def hBody : SF := sIf (bAnd (bE (x2 dIn (xV 4) (xV 1))) (bE (x2 dNe (xV 4) (x2 dIx (xV 1) (xK (.int 0)))))) (sDrop (xApp 2 (mOf (x2 dIx (xV 2) (x2 dIx (xV 1) (xK (.int 0))))))) (sSeq (sDrop (xApp 2 (mOf (xV 3)))) (sSet 3 (x2 dAddI (xV 3) (xK (.int 1)))))
theorem hBody_e {N : Nat} {L : D} {P : List Int} (h : IsLot N P) (hne : P ≠ []) {j : Nat} (hj : j ≤ 90000) : hBody [L, lotD P, .list ((hom j P).map .int), .int (rk P j), .int j] = some (.nx [L, lotD P, .list ((hom (j + 1) P).map .int), .int (rk P (j + 1)), .int j]) := by
  obtain ⟨δ, eδ⟩ : ∃ δ : List D, δ = [L, lotD P, .list ((hom j P).map .int), .int (rk P j), .int j] := ⟨_, rfl⟩
  have b1 : x2 dIn (xV 4) (xV 1) δ = some (.bool (P.contains (j : Int))) := by rw [x2_of (d := .int j) (e := lotD P) (by rw [eδ]; rfl) (by rw [eδ]; rfl), dIn_lot]
  have b0 : x2 dIx (xV 1) (xK (.int 0)) δ = some (.int (P.headD 0)) := by rw [x2_of (d := lotD P) (e := .int 0) (by rw [eδ]; rfl) rfl, head_at hne]
  have b2 : x2 dNe (xV 4) (x2 dIx (xV 1) (xK (.int 0))) δ = some (.bool (!((j : Int) == P.headD 0))) := by rw [x2_of (d := .int j) (by rw [eδ]; rfl) b0, dNe_e]
  have hc : bAnd (bE (x2 dIn (xV 4) (xV 1))) (bE (x2 dNe (xV 4) (x2 dIx (xV 1) (xK (.int 0))))) δ = some (!kp P (j : Int)) := by
    unfold kp
    cases hq : P.contains (j : Int) with
    | true => rw [hq] at b1; rw [and_t (bE_of b1) (bE_of b2)]; rfl
    | false => rw [hq] at b1; rw [and_f (bE_of b1)]; rfl
  unfold hBody
  cases hk : kp P (j : Int) with
  | false =>
    have hk2 := hk
    unfold kp at hk2
    rw [Bool.or_eq_false_iff, Bool.not_eq_false', beq_eq_false_iff_ne] at hk2
    have hin : (j : Int) ∈ P := by simpa using hk2.1
    have hle := head_le h hin
    have h0 := (h.2 _ (head_mem hne)).1
    have v : x2 dIx (xV 2) (x2 dIx (xV 1) (xK (.int 0))) δ = some (.int (hm P (P.headD 0))) := by
      rw [x2_of (d := .list ((hom j P).map .int)) (by rw [eδ]; rfl) b0]
      exact dIx_homL h0 (by omega)
    rw [hk] at hc
    rw [← eδ, if_t hc, appI v (xs := hom j P) (by rw [eδ]; rfl) (by rw [hom_len]; omega), eδ, rk_succ, hk, hom_snoc]
    have e : hm P (P.headD 0) = hm P (j : Int) := by
      unfold hm
      rw [if_pos hk2.1, if_pos (by simpa using head_mem hne)]
    rw [e]
    rfl
  | true =>
    rw [hk] at hc
    have e : hm P (j : Int) = (rk P j : Nat) := by
      unfold hm
      unfold kp at hk
      rw [Bool.or_eq_true] at hk
      rcases hk with q | q
      · rw [if_neg (by simpa using q)]; rfl
      · have q' : (j : Int) = P.headD 0 := by simpa using q
        rw [← q', ite_self]
        rfl
    rw [← eδ, if_f hc, sSeq_nx (δ' := δ.set 2 (.list ((hom j P ++ [hm P (j : Int)]).map .int))) (appI (by rw [e, eδ]; rfl) (xs := hom j P) (by rw [eδ]; rfl) (by rw [hom_len]; omega)), eδ, rk_succ, hk, hom_snoc]
    show some (Out.nx [L, lotD P, .list ((hom j P ++ [hm P (j : Int)]).map .int), .int ((rk P j : Nat) + 1 : Int), .int j]) = _
    rw [if_pos rfl, Int.natCast_add]
    rfl
theorem f_home_e {N : Nat} {ls : List Lf} {P : List Int} (h : IsLot N P) (hne : P ≠ []) (hl : P.length ≠ N) (hN : N ≤ 1000) : f_home_of [pileD N ls, lotD P] = some (lotD (hom N P), [pileD N ls, lotD P]) := by
  have sz := size_le
  have c := hBad_e (ls := ls) (r := [.none, .none, .none]) h
  rw [decide_eq_false hl, decide_eq_false (fun z => hne (List.length_eq_zero_iff.mp z))] at c
  unfold hBad at c
  have i0 : xCons (x2 dIx (xV 0) (xK (.int 0))) xNil [pileD N ls, lotD P, .list [], .int 0, .none] = some [.int N] := by rw [xCons_e, x2_of (d := pileD N ls) (e := .int 0) rfl rfl, dIx_pile0]; rfl
  obtain ⟨δ', l, a, e⟩ := for_rng (i := 4) (n := N) (f := xCons (x2 dIx (xV 0) (xK (.int 0))) xNil) (b := hBody) (δ := [pileD N ls, lotD P, .list [], .int 0, .none]) (fun j δ => ∃ a, δ = [pileD N ls, lotD P, .list ((hom j P).map .int), .int (rk P j), a]) i0 (by omega) ⟨_, rfl⟩ fun j δ hj ⟨a, e⟩ => by
    subst e
    exact ⟨_, hBody_e h hne (by omega), _, rfl⟩
  subst e
  unfold hBody at l
  refine fn_rt (δ' := [pileD N ls, lotD P, .list ((hom N P).map .int), .int (rk P N), a]) ?_ rfl
  show g_home_of [pileD N ls, lotD P, .none, .none, .none] = _
  unfold g_home_of
  rw [pass_if c, sSeq_nx (δ' := [pileD N ls, lotD P, .list [], .none, .none]) rfl, sSeq_nx (δ' := [pileD N ls, lotD P, .list [], .int 0, .none]) rfl, sSeq_nx l]
  exact ret_of (tpl rfl)
/-! ### put_together -/
theorem nb_e {P : List Int} {δ : List D} {f g p q : EF} {a b : Int} (h1 : f δ = some (.int a)) (h2 : g δ = some (.int b)) (h3 : p δ = some (lotD P)) : bOr (bE (x2 dNotIn f p)) (bE (x2 dNotIn g p)) δ = some (nb P (a, b)) := by
  have e1 : bE (x2 dNotIn f p) δ = some (!P.contains a) := bE_of (by rw [x2_of h1 h3, dNotIn_lot])
  have e2 : bE (x2 dNotIn g p) δ = some (!P.contains b) := bE_of (by rw [x2_of h2 h3, dNotIn_lot])
  unfold nb
  cases hq : P.contains a with
  | true => rw [hq] at e1; rw [or_f e1 e2]; simp
  | false => rw [hq] at e1; rw [or_t e1]; simp
theorem f_put_e {N : Nat} {ls : List Lf} {P : List Int} (hp : IsPile N ls) (h : IsLot N P) (hne : P ≠ []) (hl : P.length ≠ N) (hN : N ≤ 1000) : f_put_together [pileD N ls, lotD P] = some (pileD ((N : Int) - P.length + 1) (put P ls), [pileD N ls, lotD P]) := by
  have sz := size_le
  have u1 : xCall f_home_of (xCons (xV 0) (xCons (xV 1) xNil)) [pileD N ls, lotD P, .none, .none, .none, .none] = some (lotD (hom N P)) := call2 rfl rfl (f_home_e h hne hl hN)
  obtain ⟨δ', l, a, b, e⟩ := forL_inv (tg := gTupD [4, 5]) (b := sIf (bOr (bE (x2 dNotIn (xV 4) (xV 1))) (bE (x2 dNotIn (xV 5) (xV 1)))) (sDrop (xApp 3 (mOf (xL mkTup (xCons (x2 dIx (xV 2) (xV 4)) (xCons (x2 dIx (xV 2) (xV 5)) xNil)))))) sNil) (fun j δ => ∃ a b, δ = [pileD N ls, lotD P, lotD (hom N P), .list ((put P (ls.take j)).map leafD), a, b]) (ls.map leafD) 0
    [pileD N ls, lotD P, lotD (hom N P), .list [], .none, .none] ⟨.none, .none, by rw [List.take_zero]; rfl⟩ fun j d δ hd ⟨a, b, e⟩ => by
    subst e
    rw [Nat.zero_add]
    rw [List.getElem?_map] at hd
    obtain ⟨l, hj, rfl⟩ := Option.map_eq_some_iff.mp hd
    have m := List.mem_of_getElem? hj
    have f1 := hp.fst l m
    have f2 := hp.snd l m
    refine ⟨_, [pileD N ls, lotD P, lotD (hom N P), .list ((put P (ls.take (j + 1))).map leafD), .int l.1, .int l.2], rfl, ?_, _, _, rfl⟩
    have lp : (put P (ls.take j)).length ≤ 100000 := by
      have h1 : (put P (ls.take j)).length ≤ (ls.take j).length := by unfold put; rw [List.length_map]; exact List.length_filter_le _ _
      have h2 : (ls.take j).length ≤ ls.length := by rw [List.length_take]; omega
      have := hp.len
      omega
    have c := nb_e (P := P) (δ := [pileD N ls, lotD P, lotD (hom N P), .list ((put P (ls.take j)).map leafD), .int l.1, .int l.2]) (f := xV 4) (g := xV 5) (p := xV 1) (q := xV 1) (a := l.1) (b := l.2) rfl rfl rfl
    show sIf _ _ _ [pileD N ls, lotD P, lotD (hom N P), .list ((put P (ls.take j)).map leafD), .int l.1, .int l.2] = _
    cases hq : nb P (l.1, l.2) with
    | true =>
      rw [hq] at c
      have eq : put P (ls.take (j + 1)) = put P (ls.take j) ++ [hlf P l] := by
        unfold put
        rw [take_step hj, List.filter_append, List.map_append, List.filter_cons_of_pos hq]
        rfl
      have i1 : x2 dIx (xV 2) (xV 4) [pileD N ls, lotD P, lotD (hom N P), .list ((put P (ls.take j)).map leafD), .int l.1, .int l.2] = some (.int (hm P l.1)) := by rw [x2_of (d := lotD (hom N P)) (e := .int l.1) rfl rfl]; exact dIx_hom f1.1 f1.2
      have i2 : x2 dIx (xV 2) (xV 5) [pileD N ls, lotD P, lotD (hom N P), .list ((put P (ls.take j)).map leafD), .int l.1, .int l.2] = some (.int (hm P l.2)) := by rw [x2_of (d := lotD (hom N P)) (e := .int l.2) rfl rfl]; exact dIx_hom f2.1 f2.2
      rw [if_t c, appL (l := hlf P l) (tp2 i1 i2) rfl lp, eq]
      rfl
    | false =>
      rw [hq] at c
      have eq : put P (ls.take (j + 1)) = put P (ls.take j) := by
        unfold put
        rw [take_step hj, List.filter_append, List.map_append, List.filter_cons_of_neg (by rw [show nb P l = false from hq]; exact Bool.false_ne_true)]
        simp
      rw [if_f c, eq]
      rfl
  subst e
  rw [Nat.zero_add, List.length_map, List.take_length] at l
  have i1 : x2 dIx (xV 0) (xK (.int 1)) [pileD N ls, lotD P, lotD (hom N P), .list [], .none, .none] = some (leavesD ls) := by rw [x2_of (d := pileD N ls) (e := .int 1) rfl rfl, dIx_pile1]
  have l' : sFor (lSeq (x2 dIx (xV 0) (xK (.int 1)))) (gTupD [4, 5]) (sIf (bOr (bE (x2 dNotIn (xV 4) (xV 1))) (bE (x2 dNotIn (xV 5) (xV 1)))) (sDrop (xApp 3 (mOf (xL mkTup (xCons (x2 dIx (xV 2) (xV 4)) (xCons (x2 dIx (xV 2) (xV 5)) xNil)))))) sNil) [pileD N ls, lotD P, lotD (hom N P), .list [], .none, .none] = some (.nx [pileD N ls, lotD P, lotD (hom N P), .list ((put P ls).map leafD), a, b]) := by
    rw [sFor_e, lSeq_e, i1]
    exact l
  refine fn_rt (δ' := [pileD N ls, lotD P, lotD (hom N P), .list ((put P ls).map leafD), a, b]) ?_ rfl
  show g_put_together [pileD N ls, lotD P, .none, .none, .none, .none] = _
  unfold g_put_together
  rw [set_of u1]
  show sSeq _ _ [pileD N ls, lotD P, lotD (hom N P), .none, .none, .none] = _
  rw [sSeq_nx (δ' := [pileD N ls, lotD P, lotD (hom N P), .list [], .none, .none]) rfl, sSeq_nx l']
  refine ret_of (pile_of ?_ rfl)
  have i0 : x2 dIx (xV 0) (xK (.int 0)) [pileD N ls, lotD P, lotD (hom N P), .list ((put P ls).map leafD), a, b] = some (.int N) := by rw [x2_of (d := pileD N ls) (e := .int 0) rfl rfl, dIx_pile0]
  rw [x2_of (d := .int ((N : Int) - P.length)) (e := .int 1) (by rw [x2_of i0 (len_lot (P := P) rfl), dSub_e]) rfl, dAdd_e]
/-! ### what is refused -/
theorem bad_e {N : Nat} {ls : List Lf} {P : List Int} {r : List D} (h : IsLot N P) (hb : P.length = 0 ∨ P.length = N) : hBad (pileD N ls :: lotD P :: r) = some true := by
  rw [hBad_e h]
  rcases hb with z | z
  · rw [decide_eq_true z]; rfl
  · rw [decide_eq_true z, Bool.or_true]
theorem home_no {N : Nat} {ls : List Lf} {P : List Int} (h : IsLot N P) (hb : P.length = 0 ∨ P.length = N) : f_home_of [pileD N ls, lotD P] = none := by
  have c := bad_e (ls := ls) (r := [.none, .none, .none]) h hb
  unfold hBad at c
  unfold f_home_of
  rw [fnF_e]
  show (g_home_of [pileD N ls, lotD P, .none, .none, .none]).bind _ = _
  unfold g_home_of
  have t : ∀ s : SF, sSeq (sIf (bOr (bNot (bE (xCall f_is_lot (xCons (xV 0) (xCons (xV 1) xNil))))) (bOr (bE (x2 dEq (xL oLen (xCons (xV 1) xNil)) (xK (.int 0)))) (bE (x2 dEq (xL oLen (xCons (xV 1) xNil)) (x2 dIx (xV 0) (xK (.int 0))))))) sNo sNil) s [pileD N ls, lotD P, .none, .none, .none] = none := fun s => by
    rw [sSeq_e, if_t c]
    rfl
  rw [t]
  rfl
theorem put_no {N : Nat} {ls : List Lf} {P : List Int} (h : IsLot N P) (hb : P.length = 0 ∨ P.length = N) : f_put_together [pileD N ls, lotD P] = none := by
  unfold f_put_together
  rw [fnF_e]
  show (g_put_together [pileD N ls, lotD P, .none, .none, .none, .none]).bind _ = _
  unfold g_put_together
  have c : xCall f_home_of (xCons (xV 0) (xCons (xV 1) xNil)) [pileD N ls, lotD P, .none, .none, .none, .none] = none := by
    show (f_home_of [pileD N ls, lotD P]).map _ = _
    rw [home_no h hb]
    rfl
  have t : ∀ s : SF, sSeq (sSet 2 (xCall f_home_of (xCons (xV 0) (xCons (xV 1) xNil)))) s [pileD N ls, lotD P, .none, .none, .none, .none] = none := fun s => by
    rw [sSeq_e, sSet_e, c]
    rfl
  rw [t]
  rfl
def refX : XD := [("word", .str "lot"), ("at", .int (-1))]
theorem home_r {N : Nat} {ls : List Lf} {P : List Int} (h : IsLot N P) (hb : P.length = 0 ∨ P.length = N) : r_home_of [pileD N ls, lotD P] = some refX := by
  have c := bad_e (ls := ls) (r := [.none, .none, .none]) h hb
  unfold hBad at c
  show ((rg_home_of [pileD N ls, lotD P, .none, .none, .none]).map _) = _
  unfold rg_home_of rfIf
  rw [c]
  rfl
theorem put_r {N : Nat} {ls : List Lf} {P : List Int} (h : IsLot N P) (hb : P.length = 0 ∨ P.length = N) : r_put_together [pileD N ls, lotD P] = some refX := by
  show ((rg_put_together [pileD N ls, lotD P, .none, .none, .none, .none]).map _) = _
  have e : rg_put_together [pileD N ls, lotD P, .none, .none, .none, .none] = some (refX, [pileD N ls, lotD P, .none, .none, .none, .none]) := by
    show ((r_home_of [pileD N ls, lotD P]).map fun x => (x, [pileD N ls, lotD P, .none, .none, .none, .none])) = _
    rw [home_r h hb]
    rfl
  rw [e]
  rfl
theorem f_refused_e {N : Nat} {ls : List Lf} {P : List Int} (h : IsLot N P) (hb : P.length = 0 ∨ P.length = N) : f__law_refused [pileD N ls, lotD P] = some (.bool true, [pileD N ls, lotD P]) := by
  obtain ⟨su, esu⟩ : ∃ s : SF, s = sSet 2 (x2 dAdd (xV 2) (xL oInt (xCons (xAnd (x2 dEq (x1 (dFld "word") (xV 3)) (xK (.str "lot"))) (x2 dEq (x1 (dFld "at") (xV 3)) (x1 dNeg (xK (.int 1))))) xNil))) := ⟨_, rfl⟩
  have hs : ∀ i : Int, su [pileD N ls, lotD P, .int i, exD refX] = some (.nx [pileD N ls, lotD P, .int (i + 1), exD refX]) := fun i => by
    have q1 : x2 dEq (x1 (dFld "word") (xV 3)) (xK (.str "lot")) [pileD N ls, lotD P, .int i, exD refX] = some (.bool true) := by
      show dEq (.str "lot") (.str "lot") = _
      have s1 : SeqAt.shaped (.str "lot") = true := by decide +kernel
      unfold dEq
      rw [s1]
      show some (PyData.bool (PyData.eqv (.str "lot") (.str "lot"))) = _
      rw [PyData.eqv]
      simp
    have q2 : x2 dEq (x1 (dFld "at") (xV 3)) (x1 dNeg (xK (.int 1))) [pileD N ls, lotD P, .int i, exD refX] = some (.bool true) := by
      show dEq (.int (-1)) (.int (-1)) = _
      rw [dEq_e]
      rfl
    have q3 : xL oInt (xCons (xAnd (x2 dEq (x1 (dFld "word") (xV 3)) (xK (.str "lot"))) (x2 dEq (x1 (dFld "at") (xV 3)) (x1 dNeg (xK (.int 1))))) xNil) [pileD N ls, lotD P, .int i, exD refX] = some (.int 1) := by
      rw [xL1 (d := .bool true) (by rw [xAnd_e, q1, Option.bind_some, toB_e, Option.bind_some, if_pos rfl, q2])]
      rfl
    rw [esu, sSet_e, x2_of (d := .int i) rfl q3, dAdd_e]
    rfl
  have t1 : sTry 3 (sDrop (mOf (xCall f_put_together (xCons (xV 0) (xCons (xV 1) xNil))))) (rfC r_put_together (xCons (xV 0) (xCons (xV 1) xNil))) su [pileD N ls, lotD P, .int 0, .none] = some (.nx [pileD N ls, lotD P, .int 1, exD refX]) := by
    unfold sTry
    have e1 : sDrop (mOf (xCall f_put_together (xCons (xV 0) (xCons (xV 1) xNil)))) [pileD N ls, lotD P, .int 0, .none] = none := by
      rw [sDrop_e, mOf_e]
      show (((f_put_together [pileD N ls, lotD P]).map _).map _).bind _ = _
      rw [put_no h hb]
      rfl
    have e2 : rfC r_put_together (xCons (xV 0) (xCons (xV 1) xNil)) [pileD N ls, lotD P, .int 0, .none] = some (refX, [pileD N ls, lotD P, .int 0, .none]) := by
      show ((r_put_together [pileD N ls, lotD P]).map fun x => (x, [pileD N ls, lotD P, .int 0, .none])) = _
      rw [put_r h hb]
      rfl
    rw [e1, e2]
    show ((su [pileD N ls, lotD P, .int 0, exD refX]).bind _) = _
    rw [hs]
    rfl
  have t2 : ∀ x : D, sTry 3 (sDrop (mOf (xCall f_home_of (xCons (xV 0) (xCons (xV 1) xNil))))) (rfC r_home_of (xCons (xV 0) (xCons (xV 1) xNil))) su [pileD N ls, lotD P, .int 1, x] = some (.nx [pileD N ls, lotD P, .int 2, exD refX]) := fun x => by
    unfold sTry
    have e1 : sDrop (mOf (xCall f_home_of (xCons (xV 0) (xCons (xV 1) xNil)))) [pileD N ls, lotD P, .int 1, x] = none := by
      rw [sDrop_e, mOf_e]
      show (((f_home_of [pileD N ls, lotD P]).map _).map _).bind _ = _
      rw [home_no h hb]
      rfl
    have e2 : rfC r_home_of (xCons (xV 0) (xCons (xV 1) xNil)) [pileD N ls, lotD P, .int 1, x] = some (refX, [pileD N ls, lotD P, .int 1, x]) := by
      show ((r_home_of [pileD N ls, lotD P]).map fun y => (y, [pileD N ls, lotD P, .int 1, x])) = _
      rw [home_r h hb]
      rfl
    rw [e1, e2]
    show ((su [pileD N ls, lotD P, .int 1, exD refX]).bind _) = _
    rw [hs]
    rfl
  subst esu
  refine fn_rt (δ' := [pileD N ls, lotD P, .int 2, exD refX]) ?_ rfl
  show g__law_refused [pileD N ls, lotD P, .none, .none] = _
  unfold g__law_refused
  rw [sSeq_nx (δ' := [pileD N ls, lotD P, .int 0, .none]) rfl, sSeq_nx t1, sSeq_nx (t2 _)]
  refine ret_of ?_
  show dEq (.int 2) (.int 2) = _
  rw [dEq_e]
  rfl
end LawK04

set_option linter.all false
set_option maxRecDepth 10000
namespace LawK04
open PySem Pv
/-! k04: the law's own homes, the opposite order, without loops -/
theorem fi_rng {q p : Nat → Bool} {v : Nat} (hv : q v = true) (hp : ∀ u, p u = decide (u = v)) : ∀ n : Nat, v < n → ((List.range n).filter q).findIdx? p = some ((List.range v).countP q)
  | 0, h => absurd h (Nat.not_lt_zero _)
  | n + 1, h => by
    rw [List.range_succ, List.filter_append, List.findIdx?_append]
    rcases Nat.lt_or_ge v n with c | c
    · rw [fi_rng hv hp n c]
      rfl
    · have e : v = n := by omega
      subst e
      have h1 : ((List.range v).filter q).findIdx? p = none := by
        rw [List.findIdx?_eq_none_iff]
        intro u hu
        rw [hp, decide_eq_false]
        have := List.mem_range.mp (List.mem_filter.mp hu).1
        omega
      rw [h1, List.filter_cons_of_pos hv, List.countP_eq_length_filter]
      simp [List.findIdx?_cons, hp]
def lst (N : Nat) (P : List Int) : List D := ((List.range N).filter fun u : Nat => kp P (u : Int)).map fun u : Nat => .int ((0 : Int) + (u : Int))
theorem index_e {N : Nat} {P : List Int} {v : Nat} (hv : v < N) (hk : kp P (v : Int) = true) : dIndex (.list (lst N P)) (.int (v : Int)) = some (.int (rk P v : Nat)) := by
  have fl : (lst N P).all flatD = true := by
    rw [List.all_eq_true]
    intro d hd
    unfold lst at hd
    obtain ⟨u, _, rfl⟩ := List.mem_map.mp hd
    rfl
  show (if flatD (.int (v : Int)) && (lst N P).all flatD then ((lst N P).findIdx? fun z => PyData.eqv z (.int (v : Int))).map fun (n : Nat) => PyData.int n else none) = _
  rw [fl, flat_int, Bool.and_self, if_pos rfl]
  have e : (lst N P).findIdx? (fun z => PyData.eqv z (.int (v : Int))) = some (rk P v) := by
    unfold lst
    rw [List.findIdx?_map]
    refine fi_rng (q := fun u : Nat => kp P (u : Int)) hk (fun u => ?_) N hv
    show PyData.eqv (.int ((0 : Int) + (u : Int))) (.int (v : Int)) = _
    rw [eqv_int, Int.zero_add]
    by_cases z : u = v
    · rw [z]; simp
    · rw [decide_eq_false z]; exact beq_eq_false_iff_ne.mpr (by omega)
  rw [e]
  rfl
theorem f_lhome_e {N : Nat} {P : List Int} (h : IsLot N P) (hne : P ≠ []) (hN : N ≤ 1000) : f__law_home [.int N, lotD P] = some (lotD (hom N P), [.int N, lotD P]) := by
  have sz := size_le
  have hh := h.2 _ (head_mem hne)
  have u1 : xCmp (lOf rng1 (xCons (xV 0) xNil)) (gSet 3) (bOr (bE (x2 dNotIn (xV 3) (xV 1))) (bE (x2 dEq (xV 3) (x2 dIx (xV 1) (xK (.int 0)))))) (xV 3) [.int N, lotD P, .none, .none, .none] = some (.list (lst N P)) := by
    unfold lst
    refine xCmp_g (fun k : Nat => .int ((0 : Int) + (k : Int))) (fun u : Nat => kp P (u : Int)) (fun u : Nat => .int ((0 : Int) + (u : Int))) (fun u : Nat => [.int N, lotD P, .none, .int ((0 : Int) + (u : Int)), .none]) (List.range N) (rng_of rfl (by omega)) (by rw [List.length_range]; omega) fun u hu => ⟨rfl, ?_, fun _ => rfl⟩
    have b1 : bE (x2 dNotIn (xV 3) (xV 1)) [.int N, lotD P, .none, .int ((0 : Int) + (u : Int)), .none] = some (!P.contains (u : Int)) := bE_of (by rw [x2_of (d := .int ((0 : Int) + (u : Int))) (e := lotD P) rfl rfl, Int.zero_add, dNotIn_lot])
    have b2 : bE (x2 dEq (xV 3) (x2 dIx (xV 1) (xK (.int 0)))) [.int N, lotD P, .none, .int ((0 : Int) + (u : Int)), .none] = some ((u : Int) == P.headD 0) := bE_of (by rw [x2_of (d := .int ((0 : Int) + (u : Int))) (e := .int (P.headD 0)) rfl (by rw [x2_of (d := lotD P) (e := .int 0) rfl rfl, head_at hne]), Int.zero_add, dEq_e])
    unfold kp
    cases hq : (!P.contains (u : Int)) with
    | true => rw [hq] at b1; rw [or_t b1]; rfl
    | false => rw [hq] at b1; rw [or_f b1 b2]; rfl
  obtain ⟨δ', l, a, e⟩ := for_rng (i := 3) (n := N) (f := xCons (xV 0) xNil) (b := sIf (bE (x2 dIn (xV 3) (xV 1))) (sDrop (xApp 4 (mOf (x2 dIndex (xV 2) (x2 dIx (xV 1) (xK (.int 0))))))) (sDrop (xApp 4 (mOf (x2 dIndex (xV 2) (xV 3)))))) (δ := [.int N, lotD P, .list (lst N P), .none, .list []])
    (fun j δ => ∃ a, δ = [.int N, lotD P, .list (lst N P), a, .list ((hom j P).map .int)]) rfl (by omega) ⟨_, rfl⟩ fun j δ hj ⟨a, e⟩ => by
      subst e
      refine ⟨[.int N, lotD P, .list (lst N P), .int j, .list ((hom (j + 1) P).map .int)], ?_, _, rfl⟩
      have b1 : bE (x2 dIn (xV 3) (xV 1)) [.int N, lotD P, .list (lst N P), .int j, .list ((hom j P).map .int)] = some (P.contains (j : Int)) := bE_of (by rw [x2_of (d := .int j) (e := lotD P) rfl rfl, dIn_lot])
      show sIf _ _ _ [.int N, lotD P, .list (lst N P), .int j, .list ((hom j P).map .int)] = _
      rw [hom_snoc]
      cases hq : P.contains (j : Int) with
      | true =>
        rw [hq] at b1
        have e : x2 dIndex (xV 2) (x2 dIx (xV 1) (xK (.int 0))) [.int N, lotD P, .list (lst N P), .int j, .list ((hom j P).map .int)] = some (.int (hm P (j : Int))) := by
          have hk : kp P (((P.headD 0).toNat : Nat) : Int) = true := by unfold kp; rw [Int.toNat_of_nonneg hh.1]; simp
          have i := index_e (N := N) (v := (P.headD 0).toNat) (by omega) hk
          rw [Int.toNat_of_nonneg hh.1] at i
          rw [x2_of (d := .list (lst N P)) (e := .int (P.headD 0)) rfl (by rw [x2_of (d := lotD P) (e := .int 0) rfl rfl, head_at hne]), i]
          unfold hm
          rw [if_pos hq]
        rw [if_t b1, appI e (xs := hom j P) rfl (by rw [hom_len]; omega)]
        rfl
      | false =>
        rw [hq] at b1
        have e : x2 dIndex (xV 2) (xV 3) [.int N, lotD P, .list (lst N P), .int j, .list ((hom j P).map .int)] = some (.int (hm P (j : Int))) := by
          have hk : kp P (j : Int) = true := by unfold kp; rw [hq]; rfl
          rw [x2_of (d := .list (lst N P)) (e := .int j) rfl rfl, index_e hj hk]
          unfold hm
          rw [hq]
          rfl
        rw [if_f b1, appI e (xs := hom j P) rfl (by rw [hom_len]; omega)]
        rfl
  subst e
  refine fn_rt (δ' := [.int N, lotD P, .list (lst N P), a, .list ((hom N P).map .int)]) ?_ rfl
  show g__law_home [.int N, lotD P, .none, .none, .none] = _
  unfold g__law_home
  rw [set_of u1]
  show sSeq _ _ [.int N, lotD P, .list (lst N P), .none, .none] = _
  rw [sSeq_nx (δ' := [.int N, lotD P, .list (lst N P), .none, .list []]) rfl, sSeq_nx l]
  exact ret_of (tpl rfl)
theorem f_lput_e {N : Nat} {ls : List Lf} {P : List Int} (hp : IsPile N ls) (h : IsLot N P) (hne : P ≠ []) (hN : N ≤ 1000) : f__law_put [pileD N ls, lotD P] = some (pileD ((N : Int) - P.length + 1) (put P ls), [pileD N ls, lotD P]) := by
  have i0 : ∀ r : List D, x2 dIx (xV 0) (xK (.int 0)) (pileD N ls :: r) = some (.int N) := fun r => by rw [x2_of (d := pileD N ls) (e := .int 0) rfl rfl, dIx_pile0]
  have i1 : ∀ r : List D, x2 dIx (xV 0) (xK (.int 1)) (pileD N ls :: r) = some (leavesD ls) := fun r => by rw [x2_of (d := pileD N ls) (e := .int 1) rfl rfl, dIx_pile1]
  have u1 : xCall f__law_home (xCons (x2 dIx (xV 0) (xK (.int 0))) (xCons (xV 1) xNil)) [pileD N ls, lotD P, .none, .none, .none] = some (lotD (hom N P)) := call2 (i0 _) rfl (f_lhome_e h hne hN)
  have l0 : ∀ (l : Lf) (a b c : D), x2 dIx (xV 4) (xK (.int 0)) [a, b, c, .none, leafD l] = some (.int l.1) := fun l a b c => by rw [x2_of (d := leafD l) (e := .int 0) rfl rfl, at_leaf0]
  have u2 : xCmp (lSeq (x2 dIx (xV 0) (xK (.int 1)))) (gSet 4) (bOr (bE (x2 dNotIn (x2 dIx (xV 4) (xK (.int 0))) (xV 1))) (bE (x2 dNotIn (x2 dIx (xV 4) (xK (.int 1))) (xV 1)))) (xV 4) [pileD N ls, lotD P, lotD (hom N P), .none, .none] = some (.list ((ls.filter (nb P)).map leafD)) := by
    refine xCmp_g leafD (nb P) leafD (fun l => [pileD N ls, lotD P, lotD (hom N P), .none, leafD l]) ls (by rw [lSeq_e, i1]; rfl) hp.sz fun l _ => ⟨rfl, ?_, fun _ => rfl⟩
    exact nb_e (q := xV 1) (a := l.1) (b := l.2) (by rw [x2_of (d := leafD l) (e := .int 0) rfl rfl, at_leaf0]) (by rw [x2_of (d := leafD l) (e := .int 1) rfl rfl, at_leaf1]) rfl
  have u3 : xCmp (lSeq (xV 3)) (gSet 4) bYes (xL mkTup (xCons (x2 dIx (xV 2) (x2 dIx (xV 4) (xK (.int 0)))) (xCons (x2 dIx (xV 2) (x2 dIx (xV 4) (xK (.int 1)))) xNil))) [pileD N ls, lotD P, lotD (hom N P), .list ((ls.filter (nb P)).map leafD), .none] = some (.list ((put P ls).map leafD)) := by
    unfold put
    rw [List.map_map]
    refine xCmp_m leafD (leafD ∘ hlf P) (fun l => [pileD N ls, lotD P, lotD (hom N P), .list ((ls.filter (nb P)).map leafD), leafD l]) (ls.filter (nb P)) rfl (Nat.le_trans (List.length_filter_le _ _) hp.sz) fun l hl => ⟨rfl, ?_⟩
    have hl := (List.mem_filter.mp hl).1
    have f1 := hp.fst l hl
    have f2 := hp.snd l hl
    refine tp2 ?_ ?_
    · rw [x2_of (d := lotD (hom N P)) (e := .int l.1) rfl (by rw [x2_of (d := leafD l) (e := .int 0) rfl rfl, at_leaf0])]; exact dIx_hom f1.1 f1.2
    · rw [x2_of (d := lotD (hom N P)) (e := .int l.2) rfl (by rw [x2_of (d := leafD l) (e := .int 1) rfl rfl, at_leaf1])]; exact dIx_hom f2.1 f2.2
  refine fn_rt (δ' := [pileD N ls, lotD P, lotD (hom N P), .list ((ls.filter (nb P)).map leafD), .none]) ?_ rfl
  show g__law_put [pileD N ls, lotD P, .none, .none, .none] = _
  unfold g__law_put
  rw [set_of u1]
  show sSeq _ _ [pileD N ls, lotD P, lotD (hom N P), .none, .none] = _
  rw [set_of u2]
  show sRet _ [pileD N ls, lotD P, lotD (hom N P), .list ((ls.filter (nb P)).map leafD), .none] = _
  refine ret_of (pile_of ?_ u3)
  rw [x2_of (d := .int ((N : Int) - P.length)) (e := .int 1) (by rw [x2_of (i0 _) (len_lot (P := P) rfl), dSub_e]) rfl, dAdd_e]
def nolo (s : Int) (ls : List Lf) : List Lf := ls.filter fun l => !(l == (s, s))
theorem dNe_leaf (l m : Lf) : dNe (leafD l) (leafD m) = some (.bool (!(l == m))) := by
  have h := eqv_leaf l m
  unfold dEq at h
  unfold dNe
  split at h
  · rename_i c
    rw [if_pos c]
    have e : PyData.eqv (leafD l) (leafD m) = (l == m) := by
      have := Option.some.inj h
      exact PyData.bool.inj this
    rw [e]
  · cases h
theorem f_nolo_e {N : Int} {ls : List Lf} {s : Int} (hl : ls.length ≤ sizeLine) : f__law_without_loops [pileD N ls, .int s] = some (pileD N (nolo s ls), [pileD N ls, .int s]) := by
  have i0 : x2 dIx (xV 0) (xK (.int 0)) [pileD N ls, .int s, .none] = some (.int N) := by rw [x2_of (d := pileD N ls) (e := .int 0) rfl rfl, dIx_pile0]
  have u : xCmp (lSeq (x2 dIx (xV 0) (xK (.int 1)))) (gSet 2) (bE (x2 dNe (xV 2) (xL mkTup (xCons (xV 1) (xCons (xV 1) xNil))))) (xV 2) [pileD N ls, .int s, .none] = some (.list ((nolo s ls).map leafD)) := by
    refine xCmp_g leafD (fun l => !(l == (s, s))) leafD (fun l => [pileD N ls, .int s, leafD l]) ls (by rw [lSeq_e, x2_of (d := pileD N ls) (e := .int 1) rfl rfl, dIx_pile1]; rfl) hl fun l _ => ⟨rfl, bE_of ?_, fun _ => rfl⟩
    rw [x2_of (d := leafD l) (e := leafD (s, s)) rfl (tp2 rfl rfl), dNe_leaf]
  refine fn_rt (δ' := [pileD N ls, .int s, .none]) ?_ rfl
  show g__law_without_loops [pileD N ls, .int s, .none] = _
  unfold g__law_without_loops
  exact ret_of (pile_of i0 u)
theorem setIx_e {i j k : Nat} {m : EM} {g : EF} {δ δ' : List D} {ds : List D} {d : D} (h : m δ = some (d, δ')) (hj : g δ' = some (.int (k : Nat))) (hi : δ'[i]? = some (.list ds)) (hk : k < ds.length) : sSetIx i m g δ = some (.nx (δ'.set i (.list (ds.set k d)))) := by
  unfold sSetIx
  rw [h, Option.bind_some, hj, Option.bind_some]
  show ((getL δ' i).bind fun ds => (L2.ixN ds.length (k : Int)).bind fun n => some (Out.nx (δ'.set i (.list (ds.set n d))))) = _
  rw [getL_e hi, Option.bind_some, ixN_nat hk]
  rfl
theorem f_opp_e {M : Nat} {nm : List Int} (h : Ord M nm) (hM : M ≤ 1000) : f__law_opposite [lotD nm] = some (lotD (opp M nm M), [lotD nm]) := by
  have sz := size_le
  have n0 : ∀ r : List D, xCons (xL oLen (xCons (xV 0) xNil)) xNil (lotD nm :: r) = some [.int M] := fun r => by
    rw [xCons_e, len_lot (P := nm) rfl, h.len]
    rfl
  have u1 : xCmp (lOf rng1 (xCons (xL oLen (xCons (xV 0) xNil)) xNil)) (gSet 2) bYes (xK (.int 0)) [lotD nm, .none, .none] = some (.list ((opp M nm 0).map .int)) := by
    rw [cmp_rng (n0 _) (by omega)]
    have e : (rngD 0 M).map (fun _ => PyData.int 0) = (opp M nm 0).map PyData.int := by
      rw [opp, List.map_replicate]
      refine List.eq_replicate_iff.mpr ⟨by rw [List.length_map, rng_len], fun x hx => ?_⟩
      obtain ⟨_, _, rfl⟩ := List.mem_map.mp hx
      rfl
    rw [e]
  obtain ⟨δ', l, a, e⟩ := for_rng (i := 2) (n := M) (f := xCons (xL oLen (xCons (xV 0) xNil)) xNil) (b := sSetIx 1 (mOf (xV 2)) (x2 dIx (xV 0) (xV 2))) (δ := [lotD nm, .list ((opp M nm 0).map .int), .none]) (fun j δ => ∃ a, δ = [lotD nm, .list ((opp M nm j).map .int), a]) (n0 _) (by omega) ⟨_, rfl⟩ fun j δ hj ⟨a, e⟩ => by
    subst e
    have b := h.ga (i := (j : Int)) (by omega) (by omega)
    refine ⟨[lotD nm, .list ((opp M nm (j + 1)).map .int), .int j], ?_, _, rfl⟩
    have i : x2 dIx (xV 0) (xV 2) [lotD nm, .list ((opp M nm j).map .int), .int j] = some (.int (((ga nm j).toNat : Nat) : Int)) := by
      rw [x2_of (d := lotD nm) (e := .int j) rfl rfl, dIx_lot (by omega) (by rw [h.len]; omega), Int.toNat_of_nonneg b.1]
    show sSetIx _ _ _ [lotD nm, .list ((opp M nm j).map .int), .int j] = _
    rw [setIx_e (j := 0) (ds := (opp M nm j).map .int) (d := .int j) (δ' := [lotD nm, .list ((opp M nm j).map .int), .int j]) rfl i rfl (by rw [List.length_map, opp_len]; omega), opp, List.map_set]
    rfl
  subst e
  refine fn_rt (δ' := [lotD nm, .list ((opp M nm M).map .int), a]) ?_ rfl
  show g__law_opposite [lotD nm, .none, .none] = _
  unfold g__law_opposite
  rw [set_of u1]
  show sSeq _ _ [lotD nm, .list ((opp M nm 0).map .int), .none] = _
  rw [sSeq_nx l]
  exact ret_of (tpl rfl)
end LawK04

set_option linter.all false
set_option maxRecDepth 10000
namespace LawK04
open PySem Pv
/-! k04: turns -/
section
variable {δ : List D} {f g : EF} {d a b : D}
theorem sm (h1 : f δ = some d) (h2 : g δ = some d) (h : okS 6 d = true) : xCall (f__law_same 6) (xCons f (xCons g xNil)) δ = some (.bool true) := call2 h1 h2 (same_refl 6 d h)
theorem smN (h1 : f δ = some d) (h2 : g δ = some d) (h : okS 6 d = true) : bNot (bE (xCall (f__law_same 6) (xCons f (xCons g xNil)))) δ = some false := bN_of (bE_of (sm h1 h2 h))
theorem call1K {F : List D → Option (D × List D)} {r : D} {x : List D} (h1 : f δ = some a) (h2 : F [a] = some (r, x)) : xCall F (xRo [0] (xCons f xNil)) δ = some r := by
  have e : xRo [0] (xCons f xNil) δ = some [a] := by rw [xRo_e, xCons_e, h1]; rfl
  rw [xCall_e, e, Option.bind_some, h2]
  rfl
theorem call2K {F : List D → Option (D × List D)} {r : D} {x : List D} (h1 : f δ = some a) (h2 : g δ = some b) (h3 : F [b, a] = some (r, x)) : xCall F (xRo [1, 0] (xCons f (xCons g xNil))) δ = some r := by
  have e : xRo [1, 0] (xCons f (xCons g xNil)) δ = some [b, a] := by rw [xRo_e, xCons_e, h1, Option.bind_some, xCons_e, h2]; rfl
  rw [xCall_e, e, Option.bind_some, h3]
  rfl
theorem call2J {F : List D → Option (D × List D)} {r : D} {x : List D} (h1 : f δ = some a) (h2 : g δ = some b) (h3 : F [a, b] = some (r, x)) : xCall F (xRo [0, 1] (xCons f (xCons g xNil))) δ = some r := by
  have e : xRo [0, 1] (xCons f (xCons g xNil)) δ = some [a, b] := by rw [xRo_e, xCons_e, h1, Option.bind_some, xCons_e, h2]; rfl
  rw [xCall_e, e, Option.bind_some, h3]
  rfl
end
theorem ok_leaves {ls : List Lf} (h : ls.length ≤ sizeLine) : okS 5 (leavesD ls) = true := by
  show (decide ((ls.map leafD).length ≤ sizeLine) && (ls.map leafD).all (okS 4)) = true
  rw [List.length_map, decide_eq_true h, Bool.true_and, List.all_eq_true]
  intro d hd
  obtain ⟨l, _, rfl⟩ := List.mem_map.mp hd
  show (decide (2 ≤ sizeLine) && (okS 3 (.int l.1) && (okS 3 (.int l.2) && true))) = true
  rw [decide_eq_true (by have := size_le; omega)]
  rfl
theorem ok_pile {n : Int} {ls : List Lf} (h : ls.length ≤ sizeLine) : okS 6 (pileD n ls) = true := by
  show (decide (2 ≤ sizeLine) && (okS 5 (.int n) && (okS 5 (leavesD ls) && true))) = true
  rw [decide_eq_true (by have := size_le; omega), ok_leaves h]
  rfl
theorem ok_lot {ws : List Int} (h : ws.length ≤ sizeLine) : okS 6 (lotD ws) = true := by
  show (decide ((ws.map PyData.int).length ≤ sizeLine) && (ws.map PyData.int).all (okS 5)) = true
  rw [List.length_map, decide_eq_true h, Bool.true_and, List.all_eq_true]
  intro d hd
  obtain ⟨w, _, rfl⟩ := List.mem_map.mp hd
  rfl
theorem ok_int (i : Int) : okS 6 (.int i) = true := rfl
/-! ### orders -/
theorem ga_nat (nm : List Int) (k : Nat) : ga nm (k : Int) = nm.getD k 0 := rfl
theorem ord_tab {M : Nat} {op : List Int} (h : op.length = M) : op = (rngI M).map (ga op) := by
  refine List.ext_getElem (by rw [List.length_map, rngI_len, h]) fun i h1 h2 => ?_
  rw [List.getElem_map]
  unfold rngI
  rw [List.getElem_map, List.getElem_range, Int.zero_add, ga_nat]
  simp [h1]
theorem gl_tab (ls : List Lf) : (rngI ls.length).map (gl ls) = ls := by
  refine List.ext_getElem (by rw [List.length_map, rngI_len]) fun i h1 h2 => ?_
  rw [List.getElem_map]
  unfold rngI
  rw [List.getElem_map, List.getElem_range, Int.zero_add]
  show ls.getD i (0, 0) = _
  simp [h2]
theorem ga_map {nm : List Int} {f : Int → Int} {i : Int} (h0 : 0 ≤ i) (h1 : i < nm.length) : ga (nm.map f) i = f (ga nm i) := by
  have e := ga_at h0 h1
  unfold ga at e ⊢
  rw [List.getD_eq_getElem?_getD, List.getElem?_map, e]
  rfl
theorem gl_map {ls : List Lf} {f : Lf → Lf} {i : Int} (h0 : 0 ≤ i) (h1 : i < ls.length) : gl (ls.map f) i = f (gl ls i) := by
  have e := gl_at h0 h1
  unfold gl at e ⊢
  rw [List.getD_eq_getElem?_getD, List.getElem?_map, e]
  rfl
theorem gl_dl {ls : List Lf} {de : List Int} {i : Int} (h0 : 0 ≤ i) (h1 : i < de.length) : gl (dl ls de) i = gl ls (ga de i) := by
  have e := ga_at h0 h1
  unfold dl
  have e2 : (de.map (gl ls))[i.toNat]? = some (gl ls (ga de i)) := by rw [List.getElem?_map, e]; rfl
  show (de.map (gl ls)).getD i.toNat (0, 0) = _
  rw [List.getD_eq_getElem?_getD, e2]
  rfl
theorem dl_len (ls : List Lf) (de : List Int) : (dl ls de).length = de.length := by simp [dl]
theorem dl_map {ls : List Lf} {de : List Int} {f : Lf → Lf} (h : Ord ls.length de) : dl (ls.map f) de = (dl ls de).map f := by
  unfold dl
  rw [List.map_map]
  refine List.map_congr_left fun i hi => ?_
  have := h.mem.mp hi
  exact gl_map this.1 this.2
theorem dl_dl {ls : List Lf} {de an : List Int} (h2 : ∀ i ∈ an, 0 ≤ i ∧ i < (de.length : Int)) : dl (dl ls de) an = dl ls (an.map (ga de)) := by
  show an.map (gl (dl ls de)) = (an.map (ga de)).map (gl ls)
  rw [List.map_map]
  exact List.map_congr_left fun i hi => gl_dl (h2 i hi).1 (h2 i hi).2
theorem ga_opp {M : Nat} {nm : List Int} (h : Ord M nm) {j : Int} (hj : 0 ≤ j ∧ j < M) : ga nm (ga (opp M nm M) j) = j := by
  have ho := opp_ord h
  have b := ho.ga hj.1 hj.2
  have c := h.ga b.1 b.2
  exact ga_inj ho c hj (opp_ga h b)
theorem dl_opp {ls : List Lf} {de : List Int} (h : Ord ls.length de) : dl (dl ls de) (opp ls.length de ls.length) = ls := by
  have ho := opp_ord h
  rw [dl_dl fun i hi => by rw [h.len]; exact ho.mem.mp hi]
  have e : (opp ls.length de ls.length).map (ga de) = rngI ls.length := by
    rw [ord_tab (M := ls.length) ho.len, List.map_map]
    have : (rngI ls.length).map (fun j => j) = rngI ls.length := by simp
    refine Eq.trans (List.map_congr_left fun j hj => ?_) this
    exact ga_opp h (rngI_mem.mp hj)
  rw [e]
  exact gl_tab ls
theorem Ord.comp {M : Nat} {nm ag : List Int} (h : Ord M nm) (h' : Ord M ag) : Ord M (nm.map (LawK04.ga ag)) := by
  refine ord_of (by rw [List.length_map, h.len]) ?_ fun i hi => ?_
  · refine List.pairwise_map.mpr ?_
    refine h.nd.imp_of_mem fun {x y} hx hy hne e => hne (ga_inj h' (h.mem.mp hx) (h.mem.mp hy) e)
  · obtain ⟨j, hj, rfl⟩ := List.mem_map.mp hi
    have := h.mem.mp hj
    exact h'.ga this.1 this.2
theorem pile_map {N : Nat} {ls : List Lf} {f : Lf → Lf} (h : IsPile N ls) (hf : ∀ l ∈ ls, (0 ≤ (f l).1 ∧ (f l).1 < (N : Int)) ∧ 0 ≤ (f l).2 ∧ (f l).2 < (N : Int)) : IsPile N (ls.map f) := by
  refine ⟨by rw [List.length_map]; exact h.len, fun l hl => ?_, fun l hl => ?_⟩ <;> obtain ⟨m, hm, rfl⟩ := List.mem_map.mp hl
  · exact (hf m hm).1
  · exact (hf m hm).2
theorem pile_sw {N : Nat} {ls : List Lf} (h : IsPile N ls) : IsPile N (ls.map sw) := pile_map h fun l hl => ⟨h.snd l hl, h.fst l hl⟩
theorem pile_rn {N : Nat} {ls : List Lf} {nm : List Int} (h : IsPile N ls) (o : Ord N nm) : IsPile N (ls.map (rn nm)) := pile_map h fun l hl => ⟨o.ga (h.fst l hl).1 (h.fst l hl).2, o.ga (h.snd l hl).1 (h.snd l hl).2⟩
theorem pile_dl {N : Nat} {ls : List Lf} {de : List Int} (h : IsPile N ls) (o : Ord ls.length de) : IsPile N (dl ls de) := by
  have hm : ∀ l ∈ dl ls de, l ∈ ls := fun l hl => by
    unfold dl at hl
    obtain ⟨i, hi, rfl⟩ := List.mem_map.mp hl
    have := o.mem.mp hi
    exact gl_mem this.1 this.2
  exact ⟨by rw [dl_len, o.len]; exact h.len, fun l hl => h.fst l (hm l hl), fun l hl => h.snd l (hm l hl)⟩
theorem f_turns {N : Nat} {ls : List Lf} {nm ag de an : List Int} (hp : IsPile N ls) (hN : N ≤ 1000) (hl : ls.length ≤ 1000) (o1 : Ord N nm) (o2 : Ord N ag) (o3 : Ord ls.length de) (o4 : Ord ls.length an) :
    f__law_turns [pileD N ls, lotD nm, lotD ag, lotD de, lotD an] = some (.bool true, [pileD N ls, lotD nm, lotD ag, lotD de, lotD an]) := by
  have sz := size_le
  have hs : ls.length ≤ sizeLine := by omega
  have lt : (ls.map sw).length = ls.length := List.length_map _
  have lc : (ls.map (rn nm)).length = ls.length := List.length_map _
  have ll : (dl ls de).length = ls.length := by rw [dl_len, o3.len]
  have pc := pile_rn hp o1
  have pl := pile_dl hp o3
  have ob := o1.comp o2
  have oo1 := opp_ord o1
  have oo3 := opp_ord o3
  have e1 : (ls.map sw).map sw = ls := by
    rw [List.map_map]
    exact (List.map_congr_left fun l _ => rfl).trans (List.map_id ls)
  have e2 : (ls.map (rn nm)).map (rn (opp N nm N)) = ls := by
    rw [List.map_map]
    refine (List.map_congr_left (g := id) fun l hl => ?_).trans (List.map_id ls)
    show (ga (opp N nm N) (ga nm l.1), ga (opp N nm N) (ga nm l.2)) = l
    rw [opp_ga o1 (hp.fst l hl), opp_ga o1 (hp.snd l hl)]
  have e3 : (ls.map (rn nm)).map (rn ag) = ls.map (rn (nm.map (ga ag))) := by
    rw [List.map_map]
    refine List.map_congr_left fun l hl => ?_
    show (ga ag (ga nm l.1), ga ag (ga nm l.2)) = (ga (nm.map (ga ag)) l.1, ga (nm.map (ga ag)) l.2)
    rw [ga_map (hp.fst l hl).1 (by rw [o1.len]; exact (hp.fst l hl).2), ga_map (hp.snd l hl).1 (by rw [o1.len]; exact (hp.snd l hl).2)]
  have e4 : dl (dl ls de) (opp ls.length de ls.length) = ls := dl_opp o3
  have e5 : dl (dl ls de) an = dl ls (an.map (ga de)) := dl_dl fun i hi => by rw [o3.len]; exact o4.mem.mp hi
  have e6 : dl (ls.map (rn nm)) de = (dl ls de).map (rn nm) := dl_map o3
  have e7 : (dl (ls.map (rn nm)) de).map sw = dl ((ls.map sw).map (rn nm)) de := by
    rw [List.map_map, dl_map o3, dl_map o3, List.map_map]
    rfl
  have o3t : Ord ((ls.map sw).map (rn nm)).length de := by rw [List.length_map, List.length_map]; exact o3
  have o3c : Ord (ls.map (rn nm)).length de := by rw [lc]; exact o3
  have o4l : Ord (dl ls de).length an := by rw [ll]; exact o4
  have oo3l : Ord (dl ls de).length (opp ls.length de ls.length) := by rw [ll]; exact oo3
  -- what is set
  have q0 : ∀ (l : Lf) (δ : List D) (i : Nat), δ[i]? = some (leafD l) → x2 dIx (xV i) (xK (.int 0)) δ = some (.int l.1) := fun l δ i h => by rw [x2_of (d := leafD l) (e := .int 0) h rfl, at_leaf0]
  have q1 : ∀ (l : Lf) (δ : List D) (i : Nat), δ[i]? = some (leafD l) → x2 dIx (xV i) (xK (.int 1)) δ = some (.int l.2) := fun l δ i h => by rw [x2_of (d := leafD l) (e := .int 1) h rfl, at_leaf1]
  obtain ⟨P, eP⟩ : ∃ P, P = pileD N ls := ⟨_, rfl⟩
  have u1 : xL mkTup (xCons (xV 5) (xCons (xL oTup (xCons (xCmp (lSeq (xV 6)) (gSet 8) bYes (xL mkTup (xCons (x2 dIx (xV 8) (xK (.int 1))) (xCons (x2 dIx (xV 8) (xK (.int 0))) xNil)))) xNil)) xNil)) [pileD N ls, lotD nm, lotD ag, lotD de, lotD an, .int N, leavesD ls, .none, .none, .none, .none, .none, .none, .none] = some (pileD N (ls.map sw)) := by
    refine pile_of rfl ?_
    rw [List.map_map]
    exact xCmp_m leafD (leafD ∘ sw) (fun l => [pileD N ls, lotD nm, lotD ag, lotD de, lotD an, .int N, leavesD ls, .none, leafD l, .none, .none, .none, .none, .none]) ls rfl hs fun l _ => ⟨rfl, tp2 (q1 l _ _ rfl) (q0 l _ _ rfl)⟩
  have u2 : xL mkTup (xCons (xV 5) (xCons (xL oTup (xCons (xCmp (lSeq (xV 6)) (gSet 8) bYes (xL mkTup (xCons (x2 dIx (xV 1) (x2 dIx (xV 8) (xK (.int 0)))) (xCons (x2 dIx (xV 1) (x2 dIx (xV 8) (xK (.int 1)))) xNil)))) xNil)) xNil)) [pileD N ls, lotD nm, lotD ag, lotD de, lotD an, .int N, leavesD ls, pileD N (ls.map sw), .none, .none, .none, .none, .none, .none] = some (pileD N (ls.map (rn nm))) := by
    refine pile_of rfl ?_
    rw [List.map_map]
    refine xCmp_m leafD (leafD ∘ rn nm) (fun l => [pileD N ls, lotD nm, lotD ag, lotD de, lotD an, .int N, leavesD ls, pileD N (ls.map sw), leafD l, .none, .none, .none, .none, .none]) ls rfl hs fun l hl => ⟨rfl, tp2 ?_ ?_⟩
    · rw [x2_of (d := lotD nm) rfl (q0 l _ _ rfl)]; exact dIx_lot (hp.fst l hl).1 (by rw [o1.len]; exact (hp.fst l hl).2)
    · rw [x2_of (d := lotD nm) rfl (q1 l _ _ rfl)]; exact dIx_lot (hp.snd l hl).1 (by rw [o1.len]; exact (hp.snd l hl).2)
  have u3 : xL oTup (xCons (xCmp (lSeq (xV 1)) (gSet 11) bYes (x2 dIx (xV 2) (xV 11))) xNil) [pileD N ls, lotD nm, lotD ag, lotD de, lotD an, .int N, leavesD ls, pileD N (ls.map sw), .none, pileD N (ls.map (rn nm)), .none, .none, .none, .none] = some (lotD (nm.map (ga ag))) := by
    refine tpl ?_
    rw [List.map_map]
    refine cmp_ord (od := nm) (PyData.int ∘ ga ag) rfl (by rw [o1.len]; omega) fun w hw => ?_
    have := o1.mem.mp hw
    rw [x2_of (d := lotD ag) (e := .int w) rfl rfl]
    exact dIx_lot this.1 (by rw [o2.len]; exact this.2)
  have u4 : xL mkTup (xCons (xV 5) (xCons (xL oTup (xCons (xCmp (lSeq (xV 3)) (gSet 13) bYes (x2 dIx (xV 6) (xV 13))) xNil)) xNil)) [pileD N ls, lotD nm, lotD ag, lotD de, lotD an, .int N, leavesD ls, pileD N (ls.map sw), .none, pileD N (ls.map (rn nm)), lotD (nm.map (ga ag)), .none, .none, .none] = some (pileD N (dl ls de)) := by
    refine pile_of rfl ?_
    unfold dl
    rw [List.map_map]
    refine cmp_ord (od := de) (leafD ∘ gl ls) rfl (by rw [o3.len]; omega) fun w hw => ?_
    have := o3.mem.mp hw
    rw [x2_of (d := leavesD ls) (e := .int w) rfl rfl]
    exact dIx_lvs this.1 this.2
  obtain ⟨δ, eδ⟩ : ∃ δ : List D, δ = [pileD N ls, lotD nm, lotD ag, lotD de, lotD an, .int N, leavesD ls, pileD N (ls.map sw), .none, pileD N (ls.map (rn nm)), lotD (nm.map (ga ag)), .none, pileD N (dl ls de), .none] := ⟨_, rfl⟩
  have u5 : xL oTup (xCons (xCmp (lSeq (xV 4)) (gSet 13) bYes (x2 dIx (xV 3) (xV 13))) xNil) δ = some (lotD (an.map (ga de))) := by
    refine tpl ?_
    rw [List.map_map]
    refine cmp_ord (od := an) (PyData.int ∘ ga de) (by rw [eδ]; rfl) (by rw [o4.len]; omega) fun w hw => ?_
    have := o4.mem.mp hw
    rw [x2_of (d := lotD de) (e := .int w) (by rw [eδ]; rfl) (by rw [eδ]; rfl)]
    exact dIx_lot this.1 (by rw [o3.len]; exact this.2)
  -- what is looked at
  have c1 : ∀ x y z u v w : D, bOr (bNot (bE (xCall (f__law_same 6) (xCons (xCall f_backwards (xRo [0] (xCons (xV 0) xNil))) (xCons (xV 7) xNil))))) (bNot (bE (xCall (f__law_same 6) (xCons (xCall f_backwards (xCons (xV 7) xNil)) (xCons (xV 0) xNil))))) [pileD N ls, lotD nm, lotD ag, lotD de, lotD an, .int N, leavesD ls, pileD N (ls.map sw), x, y, z, u, v, w] = some false := fun x y z u v w =>
    or_f (smN (call1K rfl (f_backwards_e hs)) rfl (ok_pile (by omega))) (smN (call1 (a := pileD N (ls.map sw)) rfl (f_backwards_e (by omega))) (by rw [e1]; rfl) (ok_pile (by rw [e1]; omega)))
  have c2 : bNot (bE (xCall (f__law_same 6) (xCons (xCall f_renamed (xRo [1, 0] (xCons (xV 1) (xCons (xV 0) xNil)))) (xCons (xV 9) xNil)))) [pileD N ls, lotD nm, lotD ag, lotD de, lotD an, .int N, leavesD ls, pileD N (ls.map sw), .none, pileD N (ls.map (rn nm)), .none, .none, .none, .none] = some false :=
    smN (call2K rfl rfl (f_renamed_e hp o1 hN)) rfl (ok_pile (by omega))
  have c3 : bNot (bE (xCall (f__law_same 6) (xCons (xCall f_renamed (xCons (xV 9) (xCons (xCall f__law_opposite (xCons (xV 1) xNil)) xNil))) (xCons (xV 0) xNil)))) [pileD N ls, lotD nm, lotD ag, lotD de, lotD an, .int N, leavesD ls, pileD N (ls.map sw), .none, pileD N (ls.map (rn nm)), .none, .none, .none, .none] = some false :=
    smN (call2 (a := pileD N (ls.map (rn nm))) rfl (call1 rfl (f_opp_e o1 hN)) (f_renamed_e pc oo1 hN)) (by rw [e2]; rfl) (ok_pile (by rw [e2]; omega))
  have c4 : bNot (bE (xCall (f__law_same 6) (xCons (xCall f_renamed (xCons (xV 9) (xCons (xV 2) xNil))) (xCons (xCall f_renamed (xCons (xV 0) (xCons (xV 10) xNil))) xNil)))) [pileD N ls, lotD nm, lotD ag, lotD de, lotD an, .int N, leavesD ls, pileD N (ls.map sw), .none, pileD N (ls.map (rn nm)), lotD (nm.map (ga ag)), .none, .none, .none] = some false :=
    smN (call2 (a := pileD N (ls.map (rn nm))) rfl rfl (f_renamed_e pc o2 hN)) (by rw [e3]; exact call2 rfl rfl (f_renamed_e hp ob hN)) (ok_pile (by rw [List.length_map]; omega))
  have c5 : bOr (bNot (bE (xCall (f__law_same 6) (xCons (xCall f_dealt (xCons (xV 0) (xCons (xV 3) xNil))) (xCons (xV 12) xNil))))) (bNot (bE (xCall (f__law_same 6) (xCons (xCall f_dealt (xCons (xV 12) (xCons (xCall f__law_opposite (xCons (xV 3) xNil)) xNil))) (xCons (xV 0) xNil))))) δ = some false := by
    subst eδ
    exact or_f (smN (call2 rfl rfl (f_dealt_e o3 hl)) rfl (ok_pile (by omega))) (smN (call2 (a := pileD N (dl ls de)) rfl (call1 rfl (f_opp_e o3 hl)) (f_dealt_e oo3l (by omega))) (by rw [e4]; rfl) (ok_pile (by rw [e4]; omega)))
  have c6 : bNot (bE (xCall (f__law_same 6) (xCons (xCall f_dealt (xRo [0, 1] (xCons (xV 12) (xCons (xV 4) xNil)))) (xCons (xCall f_dealt (xCons (xV 0) (xCons (xL oTup (xCons (xCmp (lSeq (xV 4)) (gSet 13) bYes (x2 dIx (xV 3) (xV 13))) xNil)) xNil))) xNil)))) δ = some false := by
    have h1 : xV 12 δ = some (pileD N (dl ls de)) := by rw [eδ]; rfl
    have h2 : xV 4 δ = some (lotD an) := by rw [eδ]; rfl
    have h3 : xV 0 δ = some (pileD N ls) := by rw [eδ]; rfl
    exact smN (call2J h1 h2 (f_dealt_e o4l (by omega))) (by rw [e5]; exact call2 h3 u5 (f_dealt_e (o4.comp o3) hl)) (ok_pile (by rw [dl_len, o4.len]; omega))
  have c7 : bNot (bE (xCall (f__law_same 6) (xCons (xCall f_dealt (xCons (xV 9) (xCons (xV 3) xNil))) (xCons (xCall f_renamed (xCons (xV 12) (xCons (xV 1) xNil))) xNil)))) δ = some false := by
    subst eδ
    exact smN (call2 (a := pileD N (ls.map (rn nm))) rfl rfl (f_dealt_e o3c (by omega))) (by rw [e6]; exact call2 (a := pileD N (dl ls de)) rfl rfl (f_renamed_e pl o1 hN)) (ok_pile (by rw [dl_len, o3.len]; omega))
  have c8 : xCall (f__law_same 6) (xCons (xCall f_backwards (xCons (xCall f_dealt (xCons (xV 9) (xCons (xV 3) xNil))) xNil)) (xCons (xCall f_dealt (xCons (xCall f_renamed (xCons (xV 7) (xCons (xV 1) xNil))) (xCons (xV 3) xNil))) xNil)) δ = some (.bool true) := by
    subst eδ
    refine sm (d := pileD N ((dl (ls.map (rn nm)) de).map sw)) (call1 (call2 (a := pileD N (ls.map (rn nm))) rfl rfl (f_dealt_e o3c (by omega))) (f_backwards_e (by rw [dl_len, o3.len]; omega))) ?_ (ok_pile (by rw [List.length_map, dl_len, o3.len]; omega))
    rw [e7]
    exact call2 (call2 (a := pileD N (ls.map sw)) rfl rfl (f_renamed_e (pile_sw hp) o1 hN)) rfl (f_dealt_e o3t (by rw [List.length_map, List.length_map]; omega))
  refine fn_rt (δ' := δ) ?_ (by rw [eδ]; rfl)
  show g__law_turns [pileD N ls, lotD nm, lotD ag, lotD de, lotD an, .none, .none, .none, .none, .none, .none, .none, .none, .none] = _
  unfold g__law_turns
  rw [sSeq_nx (δ' := [pileD N ls, lotD nm, lotD ag, lotD de, lotD an, .int N, leavesD ls, .none, .none, .none, .none, .none, .none, .none]) rfl, set_of u1]
  show sSeq _ _ [pileD N ls, lotD nm, lotD ag, lotD de, lotD an, .int N, leavesD ls, pileD N (ls.map sw), .none, .none, .none, .none, .none, .none] = _
  rw [pass_if (c1 _ _ _ _ _ _), set_of u2]
  show sSeq _ _ [pileD N ls, lotD nm, lotD ag, lotD de, lotD an, .int N, leavesD ls, pileD N (ls.map sw), .none, pileD N (ls.map (rn nm)), .none, .none, .none, .none] = _
  rw [pass_if c2, pass_if c3, set_of u3]
  show sSeq _ _ [pileD N ls, lotD nm, lotD ag, lotD de, lotD an, .int N, leavesD ls, pileD N (ls.map sw), .none, pileD N (ls.map (rn nm)), lotD (nm.map (ga ag)), .none, .none, .none] = _
  rw [pass_if c4, set_of u4]
  show sSeq _ _ [pileD N ls, lotD nm, lotD ag, lotD de, lotD an, .int N, leavesD ls, pileD N (ls.map sw), .none, pileD N (ls.map (rn nm)), lotD (nm.map (ga ag)), .none, pileD N (dl ls de), .none] = _
  rw [← eδ, pass_if c5, pass_if c6, pass_if c7]
  exact ret_of c8
end LawK04

set_option linter.all false
set_option maxRecDepth 10000
namespace LawK04
open PySem Pv
/-! k04: longer, both -/
theorem put_app (P : List Int) (xs ys : List Lf) : put P (xs ++ ys) = put P xs ++ put P ys := by unfold put; rw [List.filter_append, List.map_append]
theorem put_eq {P : List Int} {p : Lf → Bool} {h : Lf → Lf} : ∀ {xs : List Lf}, (∀ l ∈ xs, nb P l = p l ∧ (p l = true → hlf P l = h l)) → put P xs = (xs.filter p).map h
  | [], _ => rfl
  | l :: xs, hc => by
    obtain ⟨h1, h2⟩ := hc l List.mem_cons_self
    have ih := put_eq (xs := xs) fun m hm => hc m (List.mem_cons_of_mem _ hm)
    unfold put at ih ⊢
    cases q : p l with
    | true => rw [List.filter_cons_of_pos (by rw [h1, q]), List.filter_cons_of_pos q, List.map_cons, List.map_cons, ih, h2 q]
    | false => rw [List.filter_cons_of_neg (by rw [h1, q]; exact Bool.false_ne_true), List.filter_cons_of_neg (by rw [q]; exact Bool.false_ne_true), ih]
theorem put_none {P : List Int} {xs : List Lf} (h : ∀ l ∈ xs, nb P l = false) : put P xs = [] := by
  unfold put
  rw [List.filter_eq_nil_iff.mpr fun l hl => by rw [h l hl]; exact Bool.false_ne_true]
  rfl
theorem rk_low {P : List Int} : ∀ {n : Nat}, (∀ u : Nat, u < n → kp P (u : Int) = true) → rk P n = n
  | 0, _ => rfl
  | n + 1, h => by rw [rk_succ, rk_low fun u hu => h u (by omega), h n (by omega), if_pos rfl]
theorem leaf_eq (l : Lf) (s : Int) : (l == (s, s)) = (l.1 == s && l.2 == s) := rfl
/-! ### a leaf parted, its new word put to its last one -/
theorem prt_put {N : Nat} {ls : List Lf} {k : Nat} {l : Lf} (hp : IsPile N ls) (hk : ls[k]? = some l) : put [l.2, (N : Int)] (prt N ls k l) = nolo l.2 ls := by
  have hl := List.mem_of_getElem? hk
  have b1 := hp.fst l hl
  have b2 := hp.snd l hl
  obtain ⟨c, ec⟩ : ∃ c, c = l.2 := ⟨_, rfl⟩
  rw [← ec] at b2 ⊢
  have cn : ∀ w : Int, ([c, (N : Int)] : List Int).contains w = (w == c || w == (N : Int)) := fun w => by
    rw [List.contains_cons, List.contains_cons, List.contains_nil, Bool.or_false]
  have hk1 : ∀ u : Nat, u < N → kp [c, (N : Int)] (u : Int) = true := fun u hu => by
    unfold kp
    rw [cn, beq_eq_false_iff_ne.mpr (show (u : Int) ≠ (N : Int) by omega), Bool.or_false]
    show (!((u : Int) == c) || (u : Int) == c) = true
    cases ((u : Int) == c) <;> rfl
  have hmw : ∀ w : Int, 0 ≤ w ∧ w < N → hm [c, (N : Int)] w = w := fun w hw => by
    unfold hm
    have e : (if ([c, (N : Int)] : List Int).contains w = true then (([c, (N : Int)] : List Int).headD 0).toNat else w.toNat) = w.toNat := by
      by_cases z : w = c
      · rw [z]; simp
      · rw [if_neg (by rw [cn, beq_eq_false_iff_ne.mpr z, beq_eq_false_iff_ne.mpr (by omega)]; exact Bool.false_ne_true)]
    rw [e, rk_low fun u hu => hk1 u (by omega)]
    omega
  have hmN : hm [c, (N : Int)] (N : Int) = c := by
    unfold hm
    rw [if_pos (by rw [cn]; simp)]
    show ((rk [c, (N : Int)] c.toNat : Nat) : Int) = c
    rw [rk_low fun u hu => hk1 u (by omega)]
    omega
  have low : ∀ xs : List Lf, (∀ x ∈ xs, x ∈ ls) → put [c, (N : Int)] xs = nolo c xs := fun xs hx => by
    have := put_eq (P := [c, (N : Int)]) (p := fun l => !(l == (c, c))) (h := id) (xs := xs) fun x hxx => by
      have m := hx x hxx
      have f1 := hp.fst x m
      have f2 := hp.snd x m
      refine ⟨?_, fun _ => ?_⟩
      · unfold nb
        rw [cn, cn, beq_eq_false_iff_ne.mpr (show x.1 ≠ (N : Int) by omega), beq_eq_false_iff_ne.mpr (show x.2 ≠ (N : Int) by omega), Bool.or_false, Bool.or_false, leaf_eq]
      · unfold hlf
        rw [hmw _ f1, hmw _ f2]
        rfl
    rw [this, List.map_id]
    rfl
  have el : ls = ls.take k ++ [l] ++ ls.drop (k + 1) := by
    have h1 := (List.getElem?_eq_some_iff.mp hk)
    obtain ⟨h2, h3⟩ := h1
    have := List.take_append_drop k ls
    rw [List.drop_eq_getElem_cons h2, h3] at this
    rw [List.append_assoc]
    exact this.symm
  have mid : put [c, (N : Int)] [(l.1, (N : Int))] = nolo c [l] := by
    have := put_eq (P := [c, (N : Int)]) (p := fun m => !(l == (c, c))) (h := fun _ => l) (xs := [(l.1, (N : Int))]) fun x hx => by
      have ex : x = (l.1, (N : Int)) := by simpa using hx
      subst ex
      refine ⟨?_, fun _ => ?_⟩
      · unfold nb
        show (!(([c, (N : Int)] : List Int).contains l.1 && ([c, (N : Int)] : List Int).contains (N : Int))) = _
        rw [cn, cn, beq_eq_false_iff_ne.mpr (show l.1 ≠ (N : Int) by omega), Bool.or_false, leaf_eq, ← ec]
        simp
      · unfold hlf
        show (hm [c, (N : Int)] l.1, hm [c, (N : Int)] (N : Int)) = l
        rw [hmw _ b1, hmN, ec]
    rw [this]
    unfold nolo
    cases h : !(l == (c, c)) with
    | true => simp [h]
    | false => simp [h]
  have las : put [c, (N : Int)] [((N : Int), c)] = [] := put_none fun x hx => by
    have ex : x = ((N : Int), c) := by simpa using hx
    subst ex
    unfold nb
    show (!(([c, (N : Int)] : List Int).contains (N : Int) && ([c, (N : Int)] : List Int).contains c)) = _
    rw [cn, cn]
    simp
  unfold prt
  rw [← ec, put_app, put_app, put_app, las, mid, low _ fun x hx => List.mem_of_mem_take hx, low _ fun x hx => List.mem_of_mem_drop hx, List.append_nil]
  conv => rhs; rw [el]
  unfold nolo
  rw [List.filter_append, List.filter_append]
theorem prt_len {N : Nat} {ls : List Lf} {k : Nat} {l : Lf} (hk : ls[k]? = some l) : (prt N ls k l).length = ls.length + 1 := by
  have h := (List.getElem?_eq_some_iff.mp hk).1
  unfold prt
  simp only [List.length_append, List.length_take, List.length_drop, List.length_singleton]
  omega
theorem prt_mem {N : Nat} {ls : List Lf} {k : Nat} {l : Lf} {m : Lf} : m ∈ prt N ls k l → m ∈ ls ∨ m = (l.1, (N : Int)) ∨ m = ((N : Int), l.2) := fun h => by
  unfold prt at h
  simp only [List.mem_append, List.mem_singleton] at h
  rcases h with ((h | h) | h) | h
  · exact .inl (List.mem_of_mem_take h)
  · exact .inr (.inl h)
  · exact .inl (List.mem_of_mem_drop h)
  · exact .inr (.inr h)
theorem prt_pile {N : Nat} {ls : List Lf} {k : Nat} {l : Lf} (hp : IsPile N ls) (hl : ls.length ≤ 1000) (hk : ls[k]? = some l) : IsPile (N + 1) (prt N ls k l) := by
  have hm := List.mem_of_getElem? hk
  have b1 := hp.fst l hm
  have b2 := hp.snd l hm
  refine ⟨by rw [prt_len hk]; omega, fun m h => ?_, fun m h => ?_⟩ <;> rcases prt_mem h with q | q | q
  · have := hp.fst m q; omega
  · rw [q]; show 0 ≤ l.1 ∧ l.1 < ((N + 1 : Nat) : Int); omega
  · rw [q]; show 0 ≤ (N : Int) ∧ (N : Int) < ((N + 1 : Nat) : Int); omega
  · have := hp.snd m q; omega
  · rw [q]; show 0 ≤ (N : Int) ∧ (N : Int) < ((N + 1 : Nat) : Int); omega
  · rw [q]; show 0 ≤ l.2 ∧ l.2 < ((N + 1 : Nat) : Int); omega
def lBody : SF := sSeq (sUnp (x2 dIx (xV 3) (xV 4)) (gTupD [5, 6])) (sSeq (sSet 7 (xL mkTup (xCons (x2 dAdd (xV 2) (xK (.int 1))) (xCons (x2 dPlus (x2 dPlus (x2 dPlus (xSlT (xV 3) oNo (oInt1 (xV 4))) (xL mkTup (xCons (xL mkTup (xCons (xV 5) (xCons (xV 2) xNil))) xNil))) (xSlT (xV 3) (oInt1 (x2 dAdd (xV 4) (xK (.int 1)))) oNo)) (xL mkTup (xCons (xL mkTup (xCons (xV 2) (xCons (xV 6) xNil))) xNil))) xNil)))) (sSeq (sIf (bNot (bE (xCall (f__law_same 6) (xCons (xCall f_parted (xCons (xV 0) (xCons (xV 4) xNil))) (xCons (xV 7) xNil))))) (sRet (xK (.bool false))) sNil) (sIf (bAnd (bE (x2 dGt (xV 2) (xK (.int 1)))) (bNot (bE (xCall (f__law_same 6) (xCons (xCall f_put_together (xCons (xV 7) (xCons (xL mkTup (xCons (xV 6) (xCons (xV 2) xNil))) xNil))) (xCons (xCall f__law_without_loops (xCons (xV 0) (xCons (xV 6) xNil))) xNil)))))) (sRet (xK (.bool false))) sNil)))
theorem nolo_len (s : Int) (ls : List Lf) : (nolo s ls).length ≤ ls.length := List.length_filter_le _ _
theorem lBody_e {N : Nat} {ls : List Lf} {s : D} {k : Nat} {l : Lf} (x y z : D) (hp : IsPile N ls) (hN : N ≤ 900) (hl : ls.length ≤ 900) (hk : ls[k]? = some l) : lBody [pileD N ls, s, .int N, leavesD ls, .int (k : Nat), x, y, z] = some (.nx [pileD N ls, s, .int N, leavesD ls, .int (k : Nat), .int l.1, .int l.2, pileD ((N + 1 : Nat) : Int) (prt N ls k l)]) := by
  have sz := size_le
  have hk' := (List.getElem?_eq_some_iff.mp hk).1
  have hm := List.mem_of_getElem? hk
  have b2 := hp.snd l hm
  have u1 : sUnp (x2 dIx (xV 3) (xV 4)) (gTupD [5, 6]) [pileD N ls, s, .int N, leavesD ls, .int (k : Nat), x, y, z] = some (.nx [pileD N ls, s, .int N, leavesD ls, .int (k : Nat), .int l.1, .int l.2, z]) := by
    rw [sUnp_e, x2_of (d := leavesD ls) (e := .int (k : Nat)) rfl rfl, atI_leaves hk]
    rfl
  have u2 : xL mkTup (xCons (x2 dAdd (xV 2) (xK (.int 1))) (xCons (x2 dPlus (x2 dPlus (x2 dPlus (xSlT (xV 3) oNo (oInt1 (xV 4))) (xL mkTup (xCons (xL mkTup (xCons (xV 5) (xCons (xV 2) xNil))) xNil))) (xSlT (xV 3) (oInt1 (x2 dAdd (xV 4) (xK (.int 1)))) oNo)) (xL mkTup (xCons (xL mkTup (xCons (xV 2) (xCons (xV 6) xNil))) xNil))) xNil)) [pileD N ls, s, .int N, leavesD ls, .int (k : Nat), .int l.1, .int l.2, z] = some (pileD ((N + 1 : Nat) : Int) (prt N ls k l)) := by
    refine tp2 ?_ (prt_of rfl rfl rfl rfl rfl hk' (by omega))
    show some (PyData.int ((N : Int) + 1)) = _
    rw [Int.natCast_add]
    rfl
  obtain ⟨δ, eδ⟩ : ∃ δ : List D, δ = [pileD N ls, s, .int N, leavesD ls, .int (k : Nat), .int l.1, .int l.2, pileD ((N + 1 : Nat) : Int) (prt N ls k l)] := ⟨_, rfl⟩
  have c1 : bNot (bE (xCall (f__law_same 6) (xCons (xCall f_parted (xCons (xV 0) (xCons (xV 4) xNil))) (xCons (xV 7) xNil)))) δ = some false := by
    subst eδ
    exact smN (call2 rfl rfl (f_parted_e hk (by omega))) rfl (ok_pile (by rw [prt_len hk]; omega))
  have c2 : bAnd (bE (x2 dGt (xV 2) (xK (.int 1)))) (bNot (bE (xCall (f__law_same 6) (xCons (xCall f_put_together (xCons (xV 7) (xCons (xL mkTup (xCons (xV 6) (xCons (xV 2) xNil))) xNil))) (xCons (xCall f__law_without_loops (xCons (xV 0) (xCons (xV 6) xNil))) xNil))))) δ = some false := by
    have g : bE (x2 dGt (xV 2) (xK (.int 1))) δ = some (decide ((1 : Int) < N)) := bE_of (by rw [eδ]; rfl)
    cases q : decide ((1 : Int) < N) with
    | false => rw [q] at g; exact and_f g
    | true =>
      rw [q] at g
      have hN1 := of_decide_eq_true q
      refine and_t g ?_
      have lot : IsLot ((N + 1 : Nat) : Int) [l.2, (N : Int)] := by
        refine ⟨by simp; omega, fun w hw => ?_⟩
        simp only [List.mem_cons, List.not_mem_nil, or_false] at hw
        rcases hw with e | e <;> omega
      have pe := f_put_e (prt_pile hp (by omega) hk) lot (by simp) (by show 2 ≠ N + 1; omega) (by omega)
      have es : ((N + 1 : Nat) : Int) - ((([l.2, (N : Int)] : List Int).length : Nat) : Int) + 1 = (N : Int) := by
        show ((N + 1 : Nat) : Int) - ((2 : Nat) : Int) + 1 = (N : Int)
        omega
      rw [es, prt_put hp hk] at pe
      subst eδ
      exact smN (call2 rfl (tp2 rfl rfl) pe) (call2 rfl rfl (f_nolo_e (by omega))) (ok_pile (by have := nolo_len l.2 ls; omega))
  unfold lBody
  rw [sSeq_nx u1, set_of u2]
  show sSeq _ _ [pileD N ls, s, .int N, leavesD ls, .int (k : Nat), .int l.1, .int l.2, pileD ((N + 1 : Nat) : Int) (prt N ls k l)] = _
  rw [← eδ, pass_if c1, if_f c2]
  rfl
theorem f_longer {N : Nat} {ls : List Lf} {s : Int} (hp : IsPile N ls) (hN : N ≤ 900) (hl : ls.length ≤ 900) (h0 : 0 ≤ s) (h1 : s < N) : f__law_longer [pileD N ls, .int s] = some (.bool true, [pileD N ls, .int s]) := by
  have sz := size_le
  have c1 : bNot (bE (xCall (f__law_same 6) (xCons (xCall f_hung (xRo [1, 0] (xCons (xV 1) (xCons (xV 0) xNil)))) (xCons (xL mkTup (xCons (xV 2) (xCons (x2 dPlus (xV 3) (xL mkTup (xCons (xL mkTup (xCons (xV 1) (xCons (xV 1) xNil))) xNil))) xNil))) xNil)))) [pileD N ls, .int s, .int N, leavesD ls, .none, .none, .none, .none] = some false :=
    smN (call2K rfl rfl (f_hung_e h0 h1 (by omega))) (tp2 rfl (pl_of rfl (one_of rfl rfl) (by simp; omega))) (ok_pile (by simp; omega))
  obtain ⟨δ', l, a, b, c, d, e⟩ := for_rng (i := 4) (n := ls.length) (f := xCons (xL oLen (xCons (xV 3) xNil)) xNil) (b := lBody) (δ := [pileD N ls, .int s, .int N, leavesD ls, .none, .none, .none, .none]) (fun _ δ => ∃ a b c d, δ = [pileD N ls, .int s, .int N, leavesD ls, a, b, c, d])
    (by show some [PyData.int ((ls.map leafD).length : Nat)] = _; rw [List.length_map]) (by omega) ⟨_, _, _, _, rfl⟩ fun j δ hj ⟨a, b, c, d, e⟩ => by
      subst e
      exact ⟨_, lBody_e b c d hp hN hl (List.getElem?_eq_getElem hj), _, _, _, _, rfl⟩
  subst e
  unfold lBody at l
  refine fn_rt (δ' := [pileD N ls, .int s, .int N, leavesD ls, a, b, c, d]) ?_ rfl
  show g__law_longer [pileD N ls, .int s, .none, .none, .none, .none, .none, .none] = _
  unfold g__law_longer
  rw [sSeq_nx (δ' := [pileD N ls, .int s, .int N, leavesD ls, .none, .none, .none, .none]) rfl, pass_if c1, sSeq_nx l]
  rfl
end LawK04

set_option linter.all false
set_option maxRecDepth 10000
namespace LawK04
open PySem Pv
/-! k04: both -/
def wds (N M : Nat) : List Int := (List.range M).map fun i : Nat => mv N (i : Int)
theorem wds_len (N M : Nat) : (wds N M).length = M := by simp [wds]
theorem mv_0 (N : Nat) : mv N 0 = 0 := rfl
theorem mv_pos {N : Nat} {w : Int} (h : 0 < w) : mv N w = N + w - 1 := by unfold mv; rw [if_neg (by omega)]
theorem wds_at {N M : Nat} {w : Int} (h0 : 0 ≤ w) (h1 : w < M) : ga (wds N M) w = mv N w := by
  have h : w.toNat < M := by omega
  have e : (wds N M)[w.toNat]? = some (mv N w) := by
    unfold wds
    rw [List.getElem?_map, List.getElem?_range h]
    show some (mv N ((w.toNat : Nat) : Int)) = _
    rw [Int.toNat_of_nonneg h0]
  unfold ga
  rw [List.getD_eq_getElem?_getD, e]
  rfl
theorem wds_snoc (N k : Nat) : wds N (k + 1) = wds N k ++ [mv N (k : Int)] := by unfold wds; rw [List.range_succ, List.map_append]; rfl
theorem wds_mem {N M : Nat} (hN : 1 ≤ N) (hM : 1 ≤ M) {w : Int} (hw : 0 ≤ w ∧ w < (N : Int) + M - 1) : w ∈ wds N M ↔ w = 0 ∨ (N : Int) ≤ w := by
  unfold wds
  rw [List.mem_map]
  constructor
  · rintro ⟨i, hi, rfl⟩
    have hi := List.mem_range.mp hi
    unfold mv
    by_cases z : (i : Int) = 0
    · rw [if_pos z]; exact .inl rfl
    · rw [if_neg z]; exact .inr (by omega)
  · rintro (e | e)
    · exact ⟨0, List.mem_range.mpr (by omega), by rw [e]; rfl⟩
    · refine ⟨(w - N + 1).toNat, List.mem_range.mpr (by omega), ?_⟩
      rw [Int.toNat_of_nonneg (by omega), mv_pos (by omega)]
      omega
theorem wds_lot {N M : Nat} (hN : 1 ≤ N) (hM : 1 ≤ M) : IsLot ((N + M - 1 : Nat) : Int) (wds N M) := by
  unfold wds
  refine ⟨List.pairwise_map.mpr (List.pairwise_lt_range.imp fun {i j} h => ?_), fun w hw => ?_⟩
  · unfold mv
    rw [if_neg (show ¬ (j : Int) = 0 by omega)]
    split <;> omega
  · obtain ⟨i, hi, rfl⟩ := List.mem_map.mp hw
    have hi := List.mem_range.mp hi
    unfold mv
    split <;> omega
theorem wds_head {N M : Nat} : (wds N M).headD 0 = 0 := by
  cases M with
  | zero => rfl
  | succ M => unfold wds; rw [List.range_succ_eq_map]; rfl
theorem rngI_head {N : Nat} : (rngI N).headD 0 = 0 := by
  cases N with
  | zero => rfl
  | succ N => unfold rngI; rw [List.range_succ_eq_map]; rfl
theorem rngI_lotT {N T : Nat} (h : N ≤ T) : IsLot (T : Int) (rngI N) := ⟨(rngI_lot N).1, fun w hw => by have := (rngI_lot N).2 w hw; omega⟩
theorem cont_rng {N : Nat} {w : Int} (h : 0 ≤ w) : (rngI N).contains w = decide (w < (N : Int)) := by
  by_cases q : w < (N : Int)
  · rw [decide_eq_true q]; simpa using rngI_mem.mpr ⟨h, q⟩
  · rw [decide_eq_false q]
    have : w ∉ rngI N := fun z => q (rngI_mem.mp z).2
    simpa using this
/-! the words of the first heap put together -/
theorem rk_rng {N : Nat} (hN : 1 ≤ N) : ∀ k : Nat, rk (rngI N) (k + 1) = if k < N then 1 else k - N + 2
  | 0 => by
    have e : rk (rngI N) 1 = 1 := rk_low fun u hu => by
      have : u = 0 := by omega
      subst this
      unfold kp
      rw [rngI_head]
      simp
    rw [e, if_pos (by omega)]
  | k + 1 => by
    rw [rk_succ, rk_rng hN k]
    unfold kp
    rw [cont_rng (by omega), rngI_head, beq_eq_false_iff_ne.mpr (show ((k + 1 : Nat) : Int) ≠ 0 by omega), Bool.or_false]
    by_cases q : k + 1 < N
    · rw [if_pos (by omega), if_pos q, decide_eq_true (by omega)]; rfl
    · rw [decide_eq_false (by omega), if_neg q]
      by_cases q2 : k < N
      · rw [if_pos q2]; simp; omega
      · rw [if_neg q2]; simp; omega
theorem hm_rng {N : Nat} (hN : 1 ≤ N) {w : Int} (h : 0 ≤ w) : hm (rngI N) w = if w < N then 0 else w - N + 1 := by
  unfold hm
  rw [cont_rng h, rngI_head]
  by_cases q : w < (N : Int)
  · rw [decide_eq_true q, if_pos rfl, if_pos q]; rfl
  · rw [decide_eq_false q, if_neg Bool.false_ne_true, if_neg q]
    obtain ⟨k, ek⟩ : ∃ k, w.toNat = k + 1 := ⟨w.toNat - 1, by omega⟩
    rw [ek, rk_rng hN k]
    split <;> omega
theorem hm_rng_mv {N : Nat} (hN : 1 ≤ N) {w : Int} (h : 0 ≤ w) : hm (rngI N) (mv N w) = w := by
  unfold mv
  by_cases q : w = 0
  · rw [if_pos q, hm_rng hN (by omega), if_pos (by omega), q]
  · rw [if_neg q, hm_rng hN (by omega), if_neg (by omega)]; omega
theorem mv_lt {N : Nat} {w : Int} (hN : 1 ≤ N) (h : 0 ≤ w) : mv N w < (N : Int) ↔ w = 0 := by
  unfold mv
  split <;> omega
theorem mv_nn {N : Nat} {w : Int} (h : 0 ≤ w) : 0 ≤ mv N w := by unfold mv; split <;> omega
theorem both1 {N M : Nat} {ls es : List Lf} (hp : IsPile N ls) (he : IsPile M es) (hN : 1 ≤ N) : put (rngI N) (ls ++ es.map (ml N)) = nolo 0 es := by
  rw [put_app, put_none fun l hl => by
    have f1 := hp.fst l hl
    have f2 := hp.snd l hl
    unfold nb
    rw [cont_rng f1.1, cont_rng f2.1, decide_eq_true f1.2, decide_eq_true f2.2]
    rfl, List.nil_append]
  have key : ∀ xs : List Lf, (∀ l ∈ xs, l ∈ es) → put (rngI N) (xs.map (ml N)) = nolo 0 xs := by
    intro xs
    induction xs with
    | nil => intro _; rfl
    | cons l xs ih =>
      intro hx
      have f1 := he.fst l (hx l List.mem_cons_self)
      have f2 := he.snd l (hx l List.mem_cons_self)
      have ih := ih fun m hm => hx m (List.mem_cons_of_mem _ hm)
      have n1 : nb (rngI N) (ml N l) = !(l == (0, 0)) := by
        unfold nb ml
        show (!((rngI N).contains (mv N l.1) && (rngI N).contains (mv N l.2))) = _
        rw [cont_rng (mv_nn f1.1), cont_rng (mv_nn f2.1), leaf_eq]
        by_cases q1 : l.1 = 0
        · by_cases q2 : l.2 = 0
          · rw [decide_eq_true ((mv_lt hN f1.1).mpr q1), decide_eq_true ((mv_lt hN f2.1).mpr q2), q1, q2]; rfl
          · rw [decide_eq_false (fun z => q2 ((mv_lt hN f2.1).mp z)), beq_eq_false_iff_ne.mpr q2, Bool.and_false, Bool.and_false]
        · rw [decide_eq_false (fun z => q1 ((mv_lt hN f1.1).mp z)), beq_eq_false_iff_ne.mpr q1, Bool.false_and, Bool.false_and]
      have n2 : hlf (rngI N) (ml N l) = l := by
        unfold hlf ml
        show (hm (rngI N) (mv N l.1), hm (rngI N) (mv N l.2)) = l
        rw [hm_rng_mv hN f1.1, hm_rng_mv hN f2.1]
      unfold put nolo at ih ⊢
      rw [List.map_cons]
      cases q : !(l == (0, 0)) with
      | true => rw [List.filter_cons_of_pos (by rw [n1, q]), List.filter_cons_of_pos (p := fun m : Lf => !(m == (0, 0))) (a := l) q, List.map_cons, ih, n2]
      | false => rw [List.filter_cons_of_neg (by rw [n1, q]; exact Bool.false_ne_true), List.filter_cons_of_neg (p := fun m : Lf => !(m == (0, 0))) (a := l) (by show ¬ (!(l == (0, 0))) = true; rw [q]; exact Bool.false_ne_true), ih]
  exact key es fun _ h => h
/-! the words of the second heap put together -/
theorem cont_wds {N M : Nat} (hN : 1 ≤ N) (hM : 1 ≤ M) {w : Int} (hw : 0 ≤ w ∧ w < (N : Int) + M - 1) : (wds N M).contains w = (w == 0 || decide ((N : Int) ≤ w)) := by
  have h := wds_mem hN hM hw
  by_cases q : w ∈ wds N M
  · rw [List.contains_iff_mem.mpr q]
    rcases h.mp q with e | e
    · rw [e]; rfl
    · rw [decide_eq_true e, Bool.or_true]
  · have q' : (wds N M).contains w = false := by simpa using q
    have n1 : w ≠ 0 := fun z => q (h.mpr (.inl z))
    have n2 : ¬ (N : Int) ≤ w := fun z => q (h.mpr (.inr z))
    rw [q', beq_eq_false_iff_ne.mpr n1, decide_eq_false n2]
    rfl
theorem hm_wds {N M : Nat} (hN : 1 ≤ N) (hM : 1 ≤ M) {w : Int} (hw : 0 ≤ w ∧ w < N) : hm (wds N M) w = w := by
  unfold hm
  have hk : ∀ u : Nat, u < N → kp (wds N M) (u : Int) = true := fun u hu => by
    unfold kp
    rw [wds_head, cont_wds hN hM ⟨by omega, by omega⟩, decide_eq_false (by omega), Bool.or_false]
    cases ((u : Int) == 0) <;> rfl
  rw [wds_head, cont_wds hN hM ⟨by omega, by omega⟩, decide_eq_false (by omega), Bool.or_false]
  by_cases z : w = 0
  · rw [z]; rfl
  · rw [beq_eq_false_iff_ne.mpr z, if_neg Bool.false_ne_true, rk_low fun u hu => hk u (by omega)]; omega
theorem mv_top {N M : Nat} {w : Int} (hN : 1 ≤ N) (h : 0 ≤ w ∧ w < (M : Int)) : mv N w < (N : Int) + M - 1 := by unfold mv; split <;> omega
theorem both2 {N M : Nat} {ls es : List Lf} (hp : IsPile N ls) (he : IsPile M es) (hN : 1 ≤ N) (hM : 1 ≤ M) : put (wds N M) (ls ++ es.map (ml N)) = nolo 0 ls := by
  have z2 : put (wds N M) (es.map (ml N)) = [] := put_none fun m hm => by
    obtain ⟨l, hl, rfl⟩ := List.mem_map.mp hm
    have f1 := he.fst l hl
    have f2 := he.snd l hl
    have g : ∀ w : Int, 0 ≤ w ∧ w < (M : Int) → (wds N M).contains (mv N w) = true := fun w hw => by
      rw [cont_wds hN hM ⟨mv_nn hw.1, mv_top hN hw⟩]
      unfold mv
      by_cases q : w = 0
      · rw [if_pos q]; rfl
      · rw [if_neg q, decide_eq_true (by omega), Bool.or_true]
    unfold nb ml
    show (!((wds N M).contains (mv N l.1) && (wds N M).contains (mv N l.2))) = false
    rw [g _ f1, g _ f2]
    rfl
  have z1 := put_eq (P := wds N M) (p := fun l => !(l == (0, 0))) (h := id) (xs := ls) fun l hl => by
    have f1 := hp.fst l hl
    have f2 := hp.snd l hl
    refine ⟨?_, fun _ => ?_⟩
    · unfold nb
      rw [cont_wds hN hM ⟨by omega, by omega⟩, cont_wds hN hM ⟨by omega, by omega⟩, decide_eq_false (by omega), decide_eq_false (by omega), Bool.or_false, Bool.or_false, leaf_eq]
    · unfold hlf
      rw [hm_wds hN hM f1, hm_wds hN hM f2]
      rfl
  rw [put_app, z1, z2, List.append_nil, List.map_id]
  rfl
theorem join_pile {N M : Nat} {ls es : List Lf} (hp : IsPile N ls) (he : IsPile M es) (hN : 1 ≤ N) (hM : 1 ≤ M) (h1 : ls.length ≤ 1000) (h2 : es.length ≤ 1000) : IsPile (N + M - 1) (ls ++ es.map (ml N)) := by
  refine ⟨by rw [List.length_append, List.length_map]; omega, fun l hl => ?_, fun l hl => ?_⟩ <;> rcases List.mem_append.mp hl with q | q
  · have := hp.fst l q; omega
  · obtain ⟨m, hm, rfl⟩ := List.mem_map.mp q
    have f := he.fst m hm
    have a1 := mv_nn (N := N) f.1
    have a2 := mv_top hN f
    show 0 ≤ mv N m.1 ∧ mv N m.1 < ((N + M - 1 : Nat) : Int)
    omega
  · have := hp.snd l q; omega
  · obtain ⟨m, hm, rfl⟩ := List.mem_map.mp q
    have f := he.snd m hm
    have a1 := mv_nn (N := N) f.1
    have a2 := mv_top hN f
    show 0 ≤ mv N m.2 ∧ mv N m.2 < ((N + M - 1 : Nat) : Int)
    omega
theorem rng2_e {n : Nat} (h : n ≤ 1000000) : rng2 [.int 1, .int ((1 + n : Nat) : Int)] = some (rngD 1 n) := by
  have e : rng2 [.int 1, .int ((1 + n : Nat) : Int)] = if (-(2 ^ 62) ≤ (1 : Int) ∧ (1 : Int) < 2 ^ 62) ∧ (-(2 ^ 62) ≤ ((1 + n : Nat) : Int) ∧ ((1 + n : Nat) : Int) < 2 ^ 62) then some (rngD 1 (((1 + n : Nat) : Int) - 1).toNat) else none := rfl
  have e2 : (((1 + n : Nat) : Int) - 1).toNat = n := by omega
  rw [e, if_pos ⟨⟨by omega, by omega⟩, by omega, by omega⟩, e2]
theorem rngD1_get {n j : Nat} {d : D} (h : (rngD 1 n)[j]? = some d) : d = .int ((1 + j : Nat) : Int) ∧ j < n := by
  unfold rngD at h
  rw [List.getElem?_map] at h
  obtain ⟨k, h1, rfl⟩ := Option.map_eq_some_iff.mp h
  obtain ⟨h2, h3⟩ := List.getElem?_eq_some_iff.mp h1
  rw [List.length_range] at h2
  rw [List.getElem_range] at h3
  subst h3
  exact ⟨by rw [Int.natCast_add]; rfl, h2⟩
theorem f_both {N M : Nat} {ls es : List Lf} (hp : IsPile N ls) (he : IsPile M es) (hN : 1 ≤ N) (hM : 1 ≤ M) (hN2 : N ≤ 400) (hM2 : M ≤ 400) (h1 : ls.length ≤ 900) (h2 : es.length ≤ 900) : f__law_both [pileD N ls, pileD M es] = some (.bool true, [pileD N ls, pileD M es]) := by
  have sz := size_le
  have jp := join_pile hp he hN hM (by omega) (by omega)
  have i00 : ∀ r : List D, x2 dIx (xV 0) (xK (.int 0)) (pileD N ls :: r) = some (.int N) := fun r => by rw [x2_of (d := pileD N ls) (e := .int 0) rfl rfl, dIx_pile0]
  have i01 : ∀ r : List D, x2 dIx (xV 0) (xK (.int 1)) (pileD N ls :: r) = some (leavesD ls) := fun r => by rw [x2_of (d := pileD N ls) (e := .int 1) rfl rfl, dIx_pile1]
  have i10 : ∀ r : List D, x2 dIx (xV 1) (xK (.int 0)) (pileD N ls :: pileD M es :: r) = some (.int M) := fun r => by rw [x2_of (d := pileD M es) (e := .int 0) rfl rfl, dIx_pile0]
  have i11 : ∀ r : List D, x2 dIx (xV 1) (xK (.int 1)) (pileD N ls :: pileD M es :: r) = some (leavesD es) := fun r => by rw [x2_of (d := pileD M es) (e := .int 1) rfl rfl, dIx_pile1]
  obtain ⟨m, rfl⟩ : ∃ m, M = 1 + m := ⟨M - 1, by omega⟩
  have q1 : lOf rng2 (xCons (xK (.int 1)) (xCons (x2 dIx (xV 1) (xK (.int 0))) xNil)) [pileD N ls, pileD ((1 + m : Nat) : Int) es, .int N, .list [.int 0], .none, .none, .none, .none] = some (rngD 1 m) := by
    have e : xCons (xK (.int 1)) (xCons (x2 dIx (xV 1) (xK (.int 0))) xNil) [pileD N ls, pileD ((1 + m : Nat) : Int) es, .int N, .list [.int 0], .none, .none, .none, .none] = some [.int 1, .int ((1 + m : Nat) : Int)] := by
      rw [xCons_e, xK_e, Option.bind_some, xCons_e, i10]
      rfl
    rw [lOf_e, e, Option.bind_some, rng2_e (by omega)]
  obtain ⟨δ', l, a, e⟩ := forL_inv (tg := gSet 4) (b := sDrop (xApp 3 (mOf (x2 dSub (x2 dAdd (xV 2) (xV 4)) (xK (.int 1)))))) (fun j δ => ∃ a, δ = [pileD N ls, pileD ((1 + m : Nat) : Int) es, .int N, .list ((wds N (1 + j)).map .int), a, .none, .none, .none]) (rngD 1 m) 0 [pileD N ls, pileD ((1 + m : Nat) : Int) es, .int N, .list [.int 0], .none, .none, .none, .none] ⟨.none, rfl⟩ fun j d δ hd ⟨a, e⟩ => by
    subst e
    rw [Nat.zero_add]
    obtain ⟨rfl, hj⟩ := rngD1_get hd
    refine ⟨_, [pileD N ls, pileD ((1 + m : Nat) : Int) es, .int N, .list ((wds N (1 + (j + 1))).map .int), .int ((1 + j : Nat) : Int), .none, .none, .none], rfl, ?_, _, rfl⟩
    have v : x2 dSub (x2 dAdd (xV 2) (xV 4)) (xK (.int 1)) [pileD N ls, pileD ((1 + m : Nat) : Int) es, .int N, .list ((wds N (1 + j)).map .int), .int ((1 + j : Nat) : Int), .none, .none, .none] = some (.int (mv N ((1 + j : Nat) : Int))) := by
      rw [mv_pos (by omega)]
      rfl
    have := appI (i := 3) v (xs := wds N (1 + j)) rfl (by rw [wds_len]; omega)
    rw [show 1 + (j + 1) = (1 + j) + 1 by omega, wds_snoc]
    exact this
  subst e
  rw [Nat.zero_add, show (rngD 1 m).length = m by simp [rngD]] at l
  have l' : sFor (lOf rng2 (xCons (xK (.int 1)) (xCons (x2 dIx (xV 1) (xK (.int 0))) xNil))) (gSet 4) (sDrop (xApp 3 (mOf (x2 dSub (x2 dAdd (xV 2) (xV 4)) (xK (.int 1)))))) [pileD N ls, pileD ((1 + m : Nat) : Int) es, .int N, .list [.int 0], .none, .none, .none, .none] = some (.nx [pileD N ls, pileD ((1 + m : Nat) : Int) es, .int N, .list ((wds N (1 + m)).map .int), a, .none, .none, .none]) := by
    rw [sFor_e, q1]
    exact l
  have q2 : xL oTup (xCons (xCmp (lSeq (x2 dIx (xV 1) (xK (.int 1)))) (gSet 6) bYes (xL mkTup (xCons (x2 dIx (xV 3) (x2 dIx (xV 6) (xK (.int 0)))) (xCons (x2 dIx (xV 3) (x2 dIx (xV 6) (xK (.int 1)))) xNil)))) xNil) [pileD N ls, pileD ((1 + m : Nat) : Int) es, .int N, .list ((wds N (1 + m)).map .int), a, .none, .none, .none] = some (leavesD (es.map (ml N))) := by
    refine tpl ?_
    rw [List.map_map]
    refine xCmp_m leafD (leafD ∘ ml N) (fun l => [pileD N ls, pileD ((1 + m : Nat) : Int) es, .int N, .list ((wds N (1 + m)).map .int), a, .none, leafD l, .none]) es (by rw [lSeq_e, i11]; rfl) (by omega) fun l hl => ⟨rfl, ?_⟩
    have f1 := he.fst l hl
    have f2 := he.snd l hl
    have w : ∀ x : Int, 0 ≤ x ∧ x < ((1 + m : Nat) : Int) → dIx (.list ((wds N (1 + m)).map .int)) (.int x) = some (.int (mv N x)) := fun x hx => by
      rw [← wds_at (N := N) hx.1 hx.2]
      exact dIx_lot hx.1 (by rw [wds_len]; exact hx.2)
    refine tp2 ?_ ?_
    · rw [x2_of (d := .list ((wds N (1 + m)).map .int)) (e := .int l.1) rfl (by rw [x2_of (d := leafD l) (e := .int 0) rfl rfl, at_leaf0])]; exact w _ f1
    · rw [x2_of (d := .list ((wds N (1 + m)).map .int)) (e := .int l.2) rfl (by rw [x2_of (d := leafD l) (e := .int 1) rfl rfl, at_leaf1])]; exact w _ f2
  have q3 := pl_of (i01 [pileD ((1 + m : Nat) : Int) es, .int N, .list ((wds N (1 + m)).map .int), a, .none, .none, .none]) q2 (by rw [List.length_map]; omega)
  obtain ⟨J, eJ⟩ : ∃ J, J = ls ++ es.map (ml N) := ⟨_, rfl⟩
  rw [← eJ] at q3 jp
  have lJ : J.length ≤ 2000 := by rw [eJ, List.length_append, List.length_map]; omega
  have eT : (N : Int) + ((1 + m : Nat) : Int) - 1 = ((N + (1 + m) - 1 : Nat) : Int) := by omega
  have q4 : xL mkTup (xCons (x2 dSub (x2 dAdd (xV 2) (x2 dIx (xV 1) (xK (.int 0)))) (xK (.int 1))) (xCons (xV 5) xNil)) [pileD N ls, pileD ((1 + m : Nat) : Int) es, .int N, .list ((wds N (1 + m)).map .int), a, leavesD J, .none, .none] = some (pileD ((N + (1 + m) - 1 : Nat) : Int) J) := by
    refine tp2 ?_ rfl
    rw [x2_of (d := .int ((N : Int) + ((1 + m : Nat) : Int))) (e := .int 1) (by rw [x2_of (d := .int N) rfl (i10 _), dAdd_e]) rfl, dSub_e, eT]
  obtain ⟨δ, eδ⟩ : ∃ δ : List D, δ = [pileD N ls, pileD ((1 + m : Nat) : Int) es, .int N, .list ((wds N (1 + m)).map .int), a, leavesD J, .none, pileD ((N + (1 + m) - 1 : Nat) : Int) J] := ⟨_, rfl⟩
  have c1 : bNot (bE (xCall (f__law_same 6) (xCons (xCall f_joined (xRo [1, 0] (xCons (xV 1) (xCons (xV 0) xNil)))) (xCons (xV 7) xNil)))) δ = some false := by
    have fj := f_joined_e (N := N) (ls := ls) hM he (by omega) (by omega)
    rw [eT, ← eJ] at fj
    subst eδ
    exact smN (call2K rfl rfl fj) rfl (ok_pile (by omega))
  have c2 : sIf (bE (x2 dGt (x2 dIx (xV 1) (xK (.int 0))) (xK (.int 1)))) (sIf (bNot (bE (xCall (f__law_same 6) (xCons (xCall f_put_together (xCons (xV 7) (xCons (xL oTup (xCons (x1 oLstRng (xV 2)) xNil)) xNil))) (xCons (xCall f__law_without_loops (xCons (xV 1) (xCons (xK (.int 0)) xNil))) xNil))))) (sRet (xK (.bool false))) sNil) sNil δ = some (.nx δ) := by
    have g : bE (x2 dGt (x2 dIx (xV 1) (xK (.int 0))) (xK (.int 1))) δ = some (decide ((1 : Int) < ((1 + m : Nat) : Int))) := bE_of (by rw [eδ, x2_of (i10 _) rfl]; rfl)
    cases q : decide ((1 : Int) < ((1 + m : Nat) : Int)) with
    | false => rw [q] at g; rw [if_f g]; rfl
    | true =>
      rw [q] at g
      have hm1 := of_decide_eq_true q
      rw [if_t g]
      have pe := f_put_e jp (rngI_lotT (N := N) (by omega)) (fun z => by have := rngI_len N; rw [z] at this; simp at this; omega) (by rw [rngI_len]; omega) (by omega)
      have es2 : ((N + (1 + m) - 1 : Nat) : Int) - ((rngI N).length : Nat) + 1 = ((1 + m : Nat) : Int) := by rw [rngI_len]; omega
      rw [es2, eJ, both1 hp he hN, ← eJ] at pe
      have r : xL oTup (xCons (x1 oLstRng (xV 2)) xNil) δ = some (lotD (rngI N)) := tpl (by rw [x1_of (d := .int N) (by rw [eδ]; rfl), lst_rng (by omega), rngD_I])
      have h7 : xV 7 δ = some (pileD ((N + (1 + m) - 1 : Nat) : Int) J) := by rw [eδ]; rfl
      have h1' : xV 1 δ = some (pileD ((1 + m : Nat) : Int) es) := by rw [eδ]; rfl
      rw [if_f (smN (call2 h7 r pe) (call2 h1' rfl (f_nolo_e (by omega))) (ok_pile (by have := nolo_len 0 es; omega)))]
      rfl
  have c3 : sIf (bE (x2 dGt (xV 2) (xK (.int 1)))) (sIf (bNot (bE (xCall (f__law_same 6) (xCons (xCall f_put_together (xCons (xV 7) (xCons (xL oTup (xCons (xV 3) xNil)) xNil))) (xCons (xCall f__law_without_loops (xCons (xV 0) (xCons (xK (.int 0)) xNil))) xNil))))) (sRet (xK (.bool false))) sNil) sNil δ = some (.nx δ) := by
    have g : bE (x2 dGt (xV 2) (xK (.int 1))) δ = some (decide ((1 : Int) < N)) := bE_of (by rw [eδ]; rfl)
    cases q : decide ((1 : Int) < N) with
    | false => rw [q] at g; rw [if_f g]; rfl
    | true =>
      rw [q] at g
      have hn1 := of_decide_eq_true q
      rw [if_t g]
      have pe := f_put_e jp (wds_lot (N := N) (M := 1 + m) hN hM) (fun z => by have := wds_len N (1 + m); rw [z] at this; simp at this; omega) (by rw [wds_len]; omega) (by omega)
      have es2 : ((N + (1 + m) - 1 : Nat) : Int) - ((wds N (1 + m)).length : Nat) + 1 = (N : Int) := by rw [wds_len]; omega
      rw [es2, eJ, both2 hp he hN hM, ← eJ] at pe
      have r : xL oTup (xCons (xV 3) xNil) δ = some (lotD (wds N (1 + m))) := tpl (by rw [eδ]; rfl)
      have h7 : xV 7 δ = some (pileD ((N + (1 + m) - 1 : Nat) : Int) J) := by rw [eδ]; rfl
      have h0' : xV 0 δ = some (pileD N ls) := by rw [eδ]; rfl
      rw [if_f (smN (call2 h7 r pe) (call2 h0' rfl (f_nolo_e (by omega))) (ok_pile (by have := nolo_len 0 ls; omega)))]
      rfl
  refine fn_rt (δ' := δ) ?_ (by rw [eδ]; rfl)
  show g__law_both [pileD N ls, pileD ((1 + m : Nat) : Int) es, .none, .none, .none, .none, .none, .none] = _
  unfold g__law_both
  rw [set_of (i00 _)]
  show sSeq _ _ [pileD N ls, pileD ((1 + m : Nat) : Int) es, .int N, .none, .none, .none, .none, .none] = _
  have u3 : xL mkLst (xCons (xK (.int 0)) xNil) [pileD N ls, pileD ((1 + m : Nat) : Int) es, .int N, .none, .none, .none, .none, .none] = some (.list [.int 0]) := by rw [xL1 rfl]; exact mkL _ (by simp)
  rw [set_of u3]
  show sSeq _ _ [pileD N ls, pileD ((1 + m : Nat) : Int) es, .int N, .list [.int 0], .none, .none, .none, .none] = _
  rw [sSeq_nx l', set_of q3]
  show sSeq _ _ [pileD N ls, pileD ((1 + m : Nat) : Int) es, .int N, .list ((wds N (1 + m)).map .int), a, leavesD J, .none, .none] = _
  rw [set_of q4]
  show sSeq _ _ [pileD N ls, pileD ((1 + m : Nat) : Int) es, .int N, .list ((wds N (1 + m)).map .int), a, leavesD J, .none, pileD ((N + (1 + m) - 1 : Nat) : Int) J] = _
  rw [← eδ, pass_if c1, sSeq_nx c2, sSeq_nx c3]
  exact ret_of rfl
end LawK04

set_option linter.all false
set_option maxRecDepth 10000
namespace LawK04
open PySem Pv
/-! k04: homes of homes -/
theorem rk_int (P : List Int) (n : Nat) : rk P n = (rngI n).countP (kp P) := by
  unfold rk rngI
  rw [List.countP_map]
  refine List.countP_congr fun u _ => ?_
  show kp P (u : Int) = true ↔ kp P ((0 : Int) + (u : Int)) = true
  rw [Int.zero_add]
theorem cnt_part (P : List Int) (xs : List Int) : xs.countP (fun w => P.contains w) + xs.countP (fun w => !P.contains w) = xs.length := by
  induction xs with
  | nil => rfl
  | cons x xs ih =>
    rw [List.countP_cons, List.countP_cons, List.length_cons]
    cases q : P.contains x with
    | true => rw [if_pos rfl, if_neg (show ¬ (!true) = true by decide)]; omega
    | false => rw [if_neg (show ¬ false = true by decide), if_pos (show (!false) = true from rfl)]; omega
theorem lot_cnt {N : Nat} {P : List Int} (h : IsLot N P) : (rngI N).countP (fun w => P.contains w) = P.length := by
  rw [List.countP_eq_length_filter]
  refine List.Perm.length_eq ((List.perm_ext_iff_of_nodup ((asc_nd (rngI_lot N).1).filter _) h.nd).mpr fun w => ?_)
  rw [List.mem_filter, rngI_mem]
  exact ⟨fun z => by simpa using z.2, fun z => ⟨h.2 w z, by simpa using z⟩⟩
theorem rk_all {N : Nat} {P : List Int} (h : IsLot N P) (hne : P ≠ []) : rk P N = N - P.length + 1 := by
  have hm0 := head_mem hne
  have h1 := cnt_part P (rngI N)
  rw [lot_cnt h, rngI_len] at h1
  have p : ((rngI N).filter (kp P)).Perm (P.headD 0 :: (rngI N).filter fun w => !P.contains w) := by
    refine (List.perm_ext_iff_of_nodup ((asc_nd (rngI_lot N).1).filter _) (List.nodup_cons.mpr ⟨fun z => ?_, (asc_nd (rngI_lot N).1).filter _⟩)).mpr fun w => ?_
    · have := (List.mem_filter.mp z).2
      rw [Bool.not_eq_true', List.contains_iff_mem.mpr hm0] at this
      cases this
    · rw [List.mem_cons, List.mem_filter, List.mem_filter, rngI_mem]
      unfold kp
      rw [Bool.or_eq_true, beq_iff_eq]
      constructor
      · rintro ⟨a, b | b⟩
        · exact .inr ⟨a, b⟩
        · exact .inl b
      · rintro (a | ⟨a, b⟩)
        · exact ⟨by rw [a]; exact h.2 _ hm0, .inr a⟩
        · exact ⟨a, .inl b⟩
  rw [rk_int, List.countP_eq_length_filter, p.length_eq, List.length_cons, ← List.countP_eq_length_filter]
  omega
def rp (P : List Int) (w : Int) : Int := if P.contains w then P.headD 0 else w
theorem hm_rp (P : List Int) (w : Int) : hm P w = (rk P (rp P w).toNat : Nat) := by
  unfold hm rp
  split <;> rfl
theorem kp_rp {P : List Int} {w : Int} : kp P (rp P w) = true := by
  unfold kp rp
  cases q : P.contains w with
  | true => rw [if_pos rfl]; simp
  | false => rw [if_neg Bool.false_ne_true, q]; rfl
theorem rp_in {N : Nat} {P : List Int} (h : IsLot N P) (hne : P ≠ []) {w : Int} (hw : 0 ≤ w ∧ w < (N : Int)) : 0 ≤ rp P w ∧ rp P w < (N : Int) := by
  unfold rp
  split
  · exact h.2 _ (head_mem hne)
  · exact hw
theorem rk_lt {P : List Int} {u v : Nat} (hk : kp P (u : Int) = true) (h : u < v) : rk P u < rk P v := by
  have := rk_mono P (m := u + 1) (n := v) h
  rw [rk_succ, hk, if_pos rfl] at this
  omega
theorem rk_inj {P : List Int} {u v : Int} (hu0 : 0 ≤ u) (hv0 : 0 ≤ v) (hu : kp P u = true) (hv : kp P v = true) (e : rk P u.toNat = rk P v.toNat) : u = v := by
  obtain ⟨a, rfl⟩ := Int.eq_ofNat_of_zero_le hu0
  obtain ⟨b, rfl⟩ := Int.eq_ofNat_of_zero_le hv0
  rw [Int.toNat_natCast, Int.toNat_natCast] at e
  rcases Nat.lt_trichotomy a b with q | q | q
  · have := rk_lt hu q; omega
  · rw [q]
  · have := rk_lt hv q; omega
theorem hm_lt {N : Nat} {P : List Int} (h : IsLot N P) (hne : P ≠ []) {w : Int} (hw : 0 ≤ w ∧ w < (N : Int)) : hm P w < ((N - P.length + 1 : Nat) : Int) := by
  have b := rp_in h hne hw
  rw [hm_rp, ← rk_all h hne]
  have := rk_lt (P := P) (u := (rp P w).toNat) (v := N) (by rw [Int.toNat_of_nonneg b.1]; exact kp_rp) (by omega)
  omega
theorem hm_inj {N : Nat} {P : List Int} (h : IsLot N P) (hne : P ≠ []) {w v : Int} (hw : 0 ≤ w ∧ w < (N : Int)) (hv : 0 ≤ v ∧ v < (N : Int)) (e : hm P w = hm P v) : rp P w = rp P v := by
  rw [hm_rp, hm_rp] at e
  exact rk_inj (rp_in h hne hw).1 (rp_in h hne hv).1 kp_rp kp_rp (by omega)
theorem rp_out {P : List Int} {w : Int} (h : w ∉ P) : rp P w = w := by unfold rp; rw [if_neg (by simpa using h)]
theorem rp_inn {P : List Int} {w : Int} (h : w ∈ P) : rp P w = P.headD 0 := by unfold rp; rw [if_pos (by simpa using h)]
theorem hm_kp {P : List Int} {u : Nat} (h : kp P (u : Int) = true) : hm P (u : Int) = (rk P u : Nat) := by
  rw [hm_rp]
  have e : rp P (u : Int) = (u : Int) := by
    unfold rp
    unfold kp at h
    cases q : P.contains (u : Int) with
    | true =>
      rw [q] at h
      rw [if_pos rfl]
      exact (by simpa using h : (u : Int) = P.headD 0).symm
    | false => rw [if_neg Bool.false_ne_true]
  rw [e, Int.toNat_natCast]
theorem put_pile {N : Nat} {P : List Int} {ls : List Lf} (hp : IsPile N ls) (h : IsLot N P) (hne : P ≠ []) : IsPile (N - P.length + 1) (put P ls) := by
  have hl : (put P ls).length ≤ ls.length := by unfold put; rw [List.length_map]; exact List.length_filter_le _ _
  have hm : ∀ l ∈ put P ls, ∃ m ∈ ls, l = hlf P m := fun l hl => by
    unfold put at hl
    obtain ⟨m, hm, rfl⟩ := List.mem_map.mp hl
    exact ⟨m, (List.mem_filter.mp hm).1, rfl⟩
  refine ⟨Nat.le_trans hl hp.len, fun l hl => ?_, fun l hl => ?_⟩ <;> obtain ⟨m, hm, rfl⟩ := hm l hl
  · exact ⟨hm_nonneg _ _, hm_lt h hne (hp.fst m hm)⟩
  · exact ⟨hm_nonneg _ _, hm_lt h hne (hp.snd m hm)⟩
/-! ### the image -/
def img (N : Nat) (S W : List Int) : List Int := (rngI (N - S.length + 1)).filter fun w => (W.map (hm S)).contains w
structure Two (N : Nat) (S W : List Int) : Prop where
  s : IsLot N S
  w : IsLot N W
  ne : S ≠ []
  sub : ∀ x ∈ S, x ∈ W
section
variable {N : Nat} {S W : List Int}
theorem Two.wne (t : Two N S W) : W ≠ [] := fun z => by
  have := t.sub _ (head_mem t.ne)
  rw [z] at this
  cases this
theorem Two.w0 (t : Two N S W) : W.headD 0 ∈ W := head_mem t.wne
theorem img_lot (t : Two N S W) : IsLot ((N - S.length + 1 : Nat) : Int) (img N S W) := (rngI_lot _).flt _
theorem img_mem (t : Two N S W) {y : Int} : y ∈ img N S W ↔ ∃ v ∈ W, hm S v = y := by
  unfold img
  rw [List.mem_filter, List.contains_iff_mem, List.mem_map, rngI_mem]
  refine ⟨fun z => z.2, fun z => ⟨?_, z⟩⟩
  obtain ⟨v, hv, rfl⟩ := z
  exact ⟨hm_nonneg _ _, hm_lt t.s t.ne (t.w.2 v hv)⟩
theorem img_cont (t : Two N S W) {w : Int} (hw : 0 ≤ w ∧ w < (N : Int)) : (img N S W).contains (hm S w) = W.contains w := by
  by_cases q : w ∈ W
  · rw [List.contains_iff_mem.mpr q, List.contains_iff_mem.mpr ((img_mem t).mpr ⟨w, q, rfl⟩)]
  · have n : hm S w ∉ img N S W := fun z => by
      obtain ⟨v, hv, e⟩ := (img_mem t).mp z
      have r := hm_inj t.s t.ne (t.w.2 v hv) hw e
      rw [rp_out (fun z => q (t.sub w z))] at r
      by_cases c : v ∈ S
      · rw [rp_inn c] at r
        exact q (by rw [← r]; exact t.sub _ (head_mem t.ne))
      · rw [rp_out c] at r
        exact q (by rw [← r]; exact hv)
    have a : (img N S W).contains (hm S w) = false := by simpa using n
    have b : W.contains w = false := by simpa using q
    rw [a, b]
theorem head_min {M : Int} {I : List Int} {a : Int} (h : IsLot M I) (ha : a ∈ I) (hm : ∀ y ∈ I, a ≤ y) : I.headD 0 = a := by
  have h1 := head_le h ha
  have h2 := hm _ (head_mem (fun z => by rw [z] at ha; cases ha))
  omega
theorem w0_kp (t : Two N S W) : kp S (W.headD 0) = true := by
  unfold kp
  by_cases c : W.headD 0 ∈ S
  · have h1 := head_le t.w (t.sub _ (head_mem t.ne))
    have h2 := head_le t.s c
    have e : W.headD 0 = S.headD 0 := by omega
    rw [e]; simp
  · have : S.contains (W.headD 0) = false := by simpa using c
    rw [this]; rfl
theorem w0_rp (t : Two N S W) : rp S (W.headD 0) = W.headD 0 := by
  have h := w0_kp t
  unfold kp at h
  unfold rp
  cases q : S.contains (W.headD 0) with
  | true =>
    rw [q] at h
    rw [if_pos rfl]
    exact (by simpa using h : W.headD 0 = S.headD 0).symm
  | false => rw [if_neg Bool.false_ne_true]
theorem rp_w0 (t : Two N S W) {v : Int} (hv : v ∈ W) : W.headD 0 ≤ rp S v := by
  unfold rp
  split
  · exact head_le t.w (t.sub _ (head_mem t.ne))
  · exact head_le t.w hv
theorem img_head (t : Two N S W) : (img N S W).headD 0 = hm S (W.headD 0) := by
  refine head_min (img_lot t) ((img_mem t).mpr ⟨_, t.w0, rfl⟩) fun y hy => ?_
  obtain ⟨v, hv, rfl⟩ := (img_mem t).mp hy
  rw [hm_rp, hm_rp, w0_rp t]
  have := rp_w0 t hv
  have := rk_mono S (m := (W.headD 0).toNat) (n := (rp S v).toNat) (by omega)
  omega
theorem kp_both (t : Two N S W) {u : Nat} (hu : u < N) : (kp S (u : Int) && kp (img N S W) (rk S u : Nat)) = kp W (u : Int) := by
  cases q : kp S (u : Int) with
  | true =>
    rw [Bool.true_and]
    have e := hm_kp q
    have c := img_cont t (w := (u : Int)) ⟨by omega, by omega⟩
    unfold kp
    rw [← e, c, img_head t]
    have b : (hm S (u : Int) == hm S (W.headD 0)) = ((u : Int) == W.headD 0) := by
      by_cases z : (u : Int) = W.headD 0
      · rw [z]; simp
      · have n : hm S (u : Int) ≠ hm S (W.headD 0) := fun y => by
          have r := hm_inj t.s t.ne ⟨by omega, by omega⟩ (t.w.2 _ t.w0) y
          rw [w0_rp t] at r
          have r2 : rp S (u : Int) = (u : Int) := by
            unfold kp at q
            unfold rp
            cases q2 : S.contains (u : Int) with
            | true =>
              rw [q2] at q
              rw [if_pos rfl]
              exact (by simpa using q : (u : Int) = S.headD 0).symm
            | false => rw [if_neg Bool.false_ne_true]
          rw [r2] at r
          exact z r
        rw [beq_eq_false_iff_ne.mpr n, beq_eq_false_iff_ne.mpr z]
    rw [b]
  | false =>
    rw [Bool.false_and]
    unfold kp at q
    rw [Bool.or_eq_false_iff, Bool.not_eq_false', beq_eq_false_iff_ne] at q
    have hs : (u : Int) ∈ S := by simpa using q.1
    have h1 := head_le t.s hs
    have h2 := head_le t.w (t.sub _ (head_mem t.ne))
    unfold kp
    rw [List.contains_iff_mem.mpr (t.sub _ hs), beq_eq_false_iff_ne.mpr (show (u : Int) ≠ W.headD 0 by have := q.2; omega)]
    rfl
theorem rk_rk (t : Two N S W) : ∀ u : Nat, u ≤ N → rk (img N S W) (rk S u) = rk W u
  | 0, _ => rfl
  | u + 1, h => by
    have ih := rk_rk t u (by omega)
    have k := kp_both t (u := u) (by omega)
    rw [rk_succ S, rk_succ W, ← k]
    cases q : kp S (u : Int) with
    | true => rw [if_pos rfl, rk_succ, ih, Bool.true_and]
    | false => rw [if_neg Bool.false_ne_true, Nat.add_zero, ih, Bool.false_and, if_neg Bool.false_ne_true, Nat.add_zero]
theorem hm_hm (t : Two N S W) {w : Int} (hw : 0 ≤ w ∧ w < (N : Int)) : hm (img N S W) (hm S w) = hm W w := by
  have c := img_cont t hw
  rw [hm_rp (img N S W), hm_rp W]
  unfold rp
  rw [c]
  cases q : W.contains w with
  | true =>
    rw [if_pos rfl, if_pos rfl, img_head t, hm_rp, w0_rp t, Int.toNat_natCast, rk_rk t _ (by have := t.w.2 _ t.w0; omega)]
  | false =>
    rw [if_neg Bool.false_ne_true, if_neg Bool.false_ne_true, hm_rp S, rp_out (fun z => by rw [List.contains_iff_mem.mpr (t.sub w z)] at q; cases q), Int.toNat_natCast, rk_rk t _ (by omega)]
theorem img_len (t : Two N S W) : (img N S W).length = W.length - S.length + 1 := by
  have hd0 : S.headD 0 ∉ W.filter fun w => !S.contains w := fun z => by
    have := (List.mem_filter.mp z).2
    rw [Bool.not_eq_true', List.contains_iff_mem.mpr (head_mem t.ne)] at this
    cases this
  have hd : (S.headD 0 :: W.filter fun w => !S.contains w).Nodup := List.nodup_cons.mpr ⟨hd0, t.w.nd.filter _⟩
  have hin : ∀ x ∈ (S.headD 0 :: W.filter fun w => !S.contains w), (0 ≤ x ∧ x < (N : Int)) ∧ rp S x = x ∧ x ∈ W := fun x hx => by
    rcases List.mem_cons.mp hx with e | e
    · rw [e]; exact ⟨t.s.2 _ (head_mem t.ne), rp_inn (head_mem t.ne), t.sub _ (head_mem t.ne)⟩
    · have := List.mem_filter.mp e
      exact ⟨t.w.2 x this.1, rp_out (by simpa using this.2), this.1⟩
  have p : (img N S W).Perm ((S.headD 0 :: W.filter fun w => !S.contains w).map (hm S)) := by
    have hnd : ((S.headD 0 :: W.filter fun w => !S.contains w).map (hm S)).Nodup := List.pairwise_map.mpr (hd.imp_of_mem fun {x y} hx hy hne e => hne (by
      have r := hm_inj t.s t.ne (hin x hx).1 (hin y hy).1 e
      rw [(hin x hx).2.1, (hin y hy).2.1] at r
      exact r))
    refine (List.perm_ext_iff_of_nodup (img_lot t).nd hnd).mpr fun y => ?_
    · rw [img_mem t, List.mem_map]
      constructor
      · rintro ⟨v, hv, rfl⟩
        by_cases c : v ∈ S
        · refine ⟨S.headD 0, List.mem_cons_self, ?_⟩
          rw [hm_rp, hm_rp, rp_inn c, rp_inn (head_mem t.ne)]
        · exact ⟨v, List.mem_cons_of_mem _ (List.mem_filter.mpr ⟨hv, by simpa using c⟩), rfl⟩
      · rintro ⟨v, hv, rfl⟩
        exact ⟨v, (hin v hv).2.2, rfl⟩
  have h1 := cnt_part S W
  have h2 : W.countP (fun w => S.contains w) = S.length := by
    rw [List.countP_eq_length_filter]
    refine List.Perm.length_eq ((List.perm_ext_iff_of_nodup (t.w.nd.filter _) t.s.nd).mpr fun w => ?_)
    rw [List.mem_filter]
    exact ⟨fun z => by simpa using z.2, fun z => ⟨t.sub w z, by simpa using z⟩⟩
  rw [p.length_eq, List.length_map, List.length_cons, ← List.countP_eq_length_filter]
  omega
theorem hom_hom (t : Two N S W) : (hom N S).map (hm (img N S W)) = hom N W := by
  unfold hom
  rw [List.map_map]
  refine List.map_congr_left fun u hu => ?_
  have := List.mem_range.mp hu
  exact hm_hm t ⟨by omega, by omega⟩
theorem nb_img (t : Two N S W) {l : Lf} (h1 : 0 ≤ l.1 ∧ l.1 < (N : Int)) (h2 : 0 ≤ l.2 ∧ l.2 < (N : Int)) : nb (img N S W) (hlf S l) = nb W l := by
  unfold nb hlf
  show (!((img N S W).contains (hm S l.1) && (img N S W).contains (hm S l.2))) = _
  rw [img_cont t h1, img_cont t h2]
theorem nb_sub (t : Two N S W) {l : Lf} (h : nb W l = true) : nb S l = true := by
  unfold nb at h ⊢
  cases q : S.contains l.1 && S.contains l.2 with
  | false => rfl
  | true =>
    rw [Bool.and_eq_true, List.contains_iff_mem, List.contains_iff_mem] at q
    rw [List.contains_iff_mem.mpr (t.sub _ q.1), List.contains_iff_mem.mpr (t.sub _ q.2)] at h
    cases h
theorem put_cons (P : List Int) (l : Lf) (ls : List Lf) : put P (l :: ls) = if nb P l then hlf P l :: put P ls else put P ls := by
  unfold put
  cases q : nb P l with
  | true => rw [List.filter_cons_of_pos q]; rfl
  | false => rw [List.filter_cons_of_neg (by rw [q]; exact Bool.false_ne_true)]; rfl
theorem put_put (t : Two N S W) : ∀ {ls : List Lf}, IsPile N ls → put (img N S W) (put S ls) = put W ls
  | [], _ => rfl
  | l :: ls, hp => by
    have h1 := hp.fst l List.mem_cons_self
    have h2 := hp.snd l List.mem_cons_self
    have ih := put_put t (ls := ls) ⟨by have := hp.len; rw [List.length_cons] at this; omega, fun m hm => hp.fst m (List.mem_cons_of_mem _ hm), fun m hm => hp.snd m (List.mem_cons_of_mem _ hm)⟩
    rw [put_cons S, put_cons W]
    cases q : nb S l with
    | true =>
      rw [if_pos rfl, put_cons, nb_img t h1 h2, ih]
      have e : hlf (img N S W) (hlf S l) = hlf W l := by
        unfold hlf
        show (hm (img N S W) (hm S l.1), hm (img N S W) (hm S l.2)) = _
        rw [hm_hm t h1, hm_hm t h2]
      rw [e]
    | false =>
      have q2 : nb W l = false := by
        cases z : nb W l with
        | false => rfl
        | true => rw [nb_sub t z] at q; cases q
      rw [if_neg Bool.false_ne_true, q2, if_neg Bool.false_ne_true, ih]
theorem cnt_put {P : List Int} {p q : Lf → Bool} : ∀ {ls : List Lf}, (∀ l ∈ ls, (nb P l = true → p (hlf P l) = q l) ∧ (nb P l = false → q l = false)) → (put P ls).countP p = ls.countP q
  | [], _ => rfl
  | l :: ls, h => by
    have ih := cnt_put (ls := ls) fun m hm => h m (List.mem_cons_of_mem _ hm)
    obtain ⟨h1, h2⟩ := h l List.mem_cons_self
    rw [put_cons, List.countP_cons]
    cases z : nb P l with
    | true => rw [if_pos rfl, List.countP_cons, ih, h1 z]
    | false => rw [if_neg Bool.false_ne_true, ih, h2 z]; rfl
theorem gon_nb {P : List Int} {l : Lf} (h : nb P l = false) : gon P l = false := by
  unfold nb at h
  unfold gon
  rw [Bool.not_eq_false', Bool.and_eq_true] at h
  rw [h.1, h.2]
  rfl
theorem cut1 (t : Two N S W) {ls : List Lf} (hp : IsPile N ls) : (put S ls).countP (gon (img N S W)) = ls.countP (gon W) := by
  refine cnt_put fun l hl => ⟨fun _ => ?_, fun z => ?_⟩
  · unfold gon hlf
    show ((img N S W).contains (hm S l.1) && !(img N S W).contains (hm S l.2)) = _
    rw [img_cont t (hp.fst l hl), img_cont t (hp.snd l hl)]
  · refine gon_nb ?_
    cases y : nb W l with
    | false => rfl
    | true => rw [nb_sub t y] at z; cases z
theorem cut2 {P : List Int} {ls : List Lf} (hp : IsPile N ls) (h : IsLot N P) (hne : P ≠ []) : (put P ls).countP (gon [hm P (P.headD 0)]) = ls.countP (gon P) := by
  have key : ∀ w : Int, 0 ≤ w ∧ w < (N : Int) → ([hm P (P.headD 0)] : List Int).contains (hm P w) = P.contains w := fun w hw => by
    rw [List.contains_cons, List.contains_nil, Bool.or_false]
    by_cases q : w ∈ P
    · rw [List.contains_iff_mem.mpr q, hm_rp, hm_rp, rp_inn q, rp_inn (head_mem hne)]; simp
    · have q' : P.contains w = false := by simpa using q
      have n : hm P w ≠ hm P (P.headD 0) := fun z => by
        have r := hm_inj h hne hw (h.2 _ (head_mem hne)) z
        rw [rp_out q, rp_inn (head_mem hne)] at r
        exact q (by rw [r]; exact head_mem hne)
      rw [q', beq_eq_false_iff_ne.mpr n]
  refine cnt_put fun l hl => ⟨fun _ => ?_, fun z => gon_nb z⟩
  unfold gon hlf
  show (([hm P (P.headD 0)] : List Int).contains (hm P l.1) && !([hm P (P.headD 0)] : List Int).contains (hm P l.2)) = _
  rw [key _ (hp.fst l hl), key _ (hp.snd l hl)]
end
end LawK04

set_option linter.all false
set_option maxRecDepth 10000
namespace LawK04
open PySem Pv
/-! k04: lots -/
theorem rng_I {δ : List D} {f : EF} {n : Nat} (h : f δ = some (.int (n : Nat))) (hn : n ≤ 100000) : lOf rng1 (xCons f xNil) δ = some ((rngI n).map .int) := by
  have sz := size_le
  have e : xCons f xNil δ = some [.int (n : Nat)] := by rw [xCons_e, h]; rfl
  rw [rng_of e (by omega), rngD_I]
theorem lot_nil {N : Int} : IsLot N [] := ⟨.nil, fun _ h => nomatch h⟩
def pBody4 : SF := sIf (bAnd (bE (x2 dGt (xL oLen (xCons (xV 7) xNil)) (xK (.int 0)))) (bE (x2 dLt (xL oLen (xCons (xV 7) xNil)) (xV 3)))) (sSeq (sIf (bNot (bE (xCall (f__law_same 6) (xCons (xCall f_home_of (xRo [1, 0] (xCons (xV 7) (xCons (xV 0) xNil)))) (xCons (xCall f__law_home (xCons (xV 3) (xCons (xV 7) xNil))) xNil))))) (sRet (xK (.bool false))) sNil) (sIf (bNot (bE (xCall (f__law_same 6) (xCons (xCall f_put_together (xRo [1, 0] (xCons (xV 7) (xCons (xV 0) xNil)))) (xCons (xCall f__law_put (xCons (xV 0) (xCons (xV 7) xNil))) xNil))))) (sRet (xK (.bool false))) sNil)) sNil
theorem put_len (P : List Int) (ls : List Lf) : (put P ls).length ≤ ls.length := by unfold put; rw [List.length_map]; exact List.length_filter_le _ _
theorem pBody4_e {N : Nat} {ls : List Lf} {P : List Int} {δ : List D} (hp : IsPile N ls) (h : IsLot N P) (hN : N ≤ 1000) (h0 : δ[0]? = some (pileD N ls)) (h3 : δ[3]? = some (.int N)) (h7 : δ[7]? = some (lotD P)) : pBody4 δ = some (.nx δ) := by
  have sz := size_le
  have hz := hp.sz
  have g1 : bE (x2 dGt (xL oLen (xCons (xV 7) xNil)) (xK (.int 0))) δ = some (decide ((0 : Int) < (P.length : Nat))) := bE_of (by rw [x2_of (len_lot (P := P) h7) rfl, dGt_e])
  have g2 : bE (x2 dLt (xL oLen (xCons (xV 7) xNil)) (xV 3)) δ = some (decide (((P.length : Nat) : Int) < N)) := bE_of (by rw [x2_of (len_lot (P := P) h7) h3, dLt_e])
  unfold pBody4
  cases q1 : decide ((0 : Int) < (P.length : Nat)) with
  | false => rw [q1] at g1; rw [if_f (and_f g1)]; rfl
  | true =>
    rw [q1] at g1
    cases q2 : decide (((P.length : Nat) : Int) < N) with
    | false => rw [q2] at g2; rw [if_f (and_t g1 g2)]; rfl
    | true =>
      rw [q2] at g2
      have a1 := of_decide_eq_true q1
      have a2 := of_decide_eq_true q2
      have hne : P ≠ [] := fun z => by rw [z] at a1; exact absurd a1 (by decide)
      have hl : P.length ≠ N := by omega
      rw [if_t (and_t g1 g2), pass_if (smN (call2K h7 h0 (f_home_e (ls := ls) h hne hl hN)) (call2 h3 h7 (f_lhome_e h hne hN)) (ok_lot (by rw [hom_len]; omega))),
        if_f (smN (call2K h7 h0 (f_put_e hp h hne hl hN)) (call2 h0 h7 (f_lput_e hp h hne hN)) (ok_pile (by have := put_len P ls; omega)))]
      rfl
def wid (N : Nat) (S Mo : List Int) : List Int := (rngI N).filter fun w => S.contains w || Mo.contains w
theorem f_lots {N : Nat} {ls : List Lf} {S Mo : List Int} (hp : IsPile N ls) (hS : IsLot N S) (hN : N ≤ 1000) : f__law_lots [pileD N ls, lotD S, lotD Mo] = some (.bool true, [pileD N ls, lotD S, lotD Mo]) := by
  have sz := size_le
  have hz := hp.sz
  obtain ⟨W, eW⟩ : ∃ W, W = wid N S Mo := ⟨_, rfl⟩
  have hW : IsLot N W := by rw [eW]; exact (rngI_lot N).flt _
  have hSl := hS.len
  have hWl := hW.len
  have i00 : ∀ r : List D, x2 dIx (xV 0) (xK (.int 0)) (pileD N ls :: r) = some (.int N) := fun r => by rw [x2_of (d := pileD N ls) (e := .int 0) rfl rfl, dIx_pile0]
  have i01 : ∀ r : List D, x2 dIx (xV 0) (xK (.int 1)) (pileD N ls :: r) = some (leavesD ls) := fun r => by rw [x2_of (d := pileD N ls) (e := .int 1) rfl rfl, dIx_pile1]
  have u2 : xL oTup (xCons (x1 oLstRng (xV 3)) xNil) [pileD N ls, lotD S, lotD Mo, .int N, .none, .none, .none, .none, .none, .none, .none, .none, .none, .none, .none] = some (lotD (rngI N)) := tpl (by rw [x1_of (d := .int N) rfl, lst_rng hN, rngD_I])
  have c1 : bOr (bNot (bE (xCall f__law_refused (xCons (xV 0) (xCons (xL mkTup xNil) xNil))))) (bNot (bE (xCall f__law_refused (xCons (xV 0) (xCons (xV 4) xNil))))) [pileD N ls, lotD S, lotD Mo, .int N, lotD (rngI N), .none, .none, .none, .none, .none, .none, .none, .none, .none, .none] = some false := by
    refine or_f (bN_of (bE_of (call2 (b := lotD []) rfl ?_ (f_refused_e lot_nil (.inl rfl))))) (bN_of (bE_of (call2 rfl rfl (f_refused_e (rngI_lot N) (.inr (rngI_len N))))))
    show mkTup [] = _
    exact tup0
  have u3 : xL oTup (xCons (xCmp (lOf rng1 (xCons (xV 3) xNil)) (gSet 6) (bOr (bE (x2 dIn (xV 6) (xV 1))) (bE (x2 dIn (xV 6) (xV 2)))) (xV 6)) xNil) [pileD N ls, lotD S, lotD Mo, .int N, lotD (rngI N), .none, .none, .none, .none, .none, .none, .none, .none, .none, .none] = some (lotD W) := by
    refine tpl ?_
    rw [eW]
    refine xCmp_g PyData.int (fun w => S.contains w || Mo.contains w) PyData.int (fun w => [pileD N ls, lotD S, lotD Mo, .int N, lotD (rngI N), .none, .int w, .none, .none, .none, .none, .none, .none, .none, .none]) (rngI N) (rng_I rfl (by omega)) (by rw [rngI_len]; omega) fun w _ => ⟨rfl, ?_, fun _ => rfl⟩
    have b1 : bE (x2 dIn (xV 6) (xV 1)) [pileD N ls, lotD S, lotD Mo, .int N, lotD (rngI N), .none, .int w, .none, .none, .none, .none, .none, .none, .none, .none] = some (S.contains w) := bE_of (by rw [x2_of (d := .int w) (e := lotD S) rfl rfl, dIn_lot])
    have b2 : bE (x2 dIn (xV 6) (xV 2)) [pileD N ls, lotD S, lotD Mo, .int N, lotD (rngI N), .none, .int w, .none, .none, .none, .none, .none, .none, .none, .none] = some (Mo.contains w) := bE_of (by rw [x2_of (d := .int w) (e := lotD Mo) rfl rfl, dIn_lot])
    cases q : S.contains w with
    | true => rw [q] at b1; rw [or_t b1]; rfl
    | false => rw [q] at b1; rw [or_f b1 b2]; rfl
  obtain ⟨δ', l, a, e⟩ := forL_inv (tg := gSet 7) (b := pBody4) (fun _ δ => ∃ a, δ = [pileD N ls, lotD S, lotD Mo, .int N, lotD (rngI N), lotD W, .none, a, .none, .none, .none, .none, .none, .none, .none]) [lotD S, lotD W] 0 [pileD N ls, lotD S, lotD Mo, .int N, lotD (rngI N), lotD W, .none, .none, .none, .none, .none, .none, .none, .none, .none] ⟨_, rfl⟩ fun j d δ hd ⟨a, e⟩ => by
    subst e
    have hd := List.mem_of_getElem? hd
    simp only [List.mem_cons, List.not_mem_nil, or_false] at hd
    rcases hd with e | e
    · subst e
      exact ⟨_, _, rfl, pBody4_e hp hS hN rfl rfl rfl, _, rfl⟩
    · subst e
      exact ⟨_, _, rfl, pBody4_e hp hW hN rfl rfl rfl, _, rfl⟩
  subst e
  have l' : sFor (lSeq (xL mkLst (xCons (xV 1) (xCons (xV 5) xNil)))) (gSet 7) pBody4 [pileD N ls, lotD S, lotD Mo, .int N, lotD (rngI N), lotD W, .none, .none, .none, .none, .none, .none, .none, .none, .none] = some (.nx [pileD N ls, lotD S, lotD Mo, .int N, lotD (rngI N), lotD W, .none, a, .none, .none, .none, .none, .none, .none, .none]) := by
    rw [sFor_e, lSeq_e, xL2 (d := lotD S) (e := lotD W) rfl rfl, lst2]
    exact l
  unfold pBody4 at l'
  have e1 : bE (x2 dEq (xL oLen (xCons (xV 1) xNil)) (xK (.int 0))) [pileD N ls, lotD S, lotD Mo, .int N, lotD (rngI N), lotD W, .none, a, .none, .none, .none, .none, .none, .none, .none] = some (((S.length : Nat) : Int) == 0) := bE_of (by rw [x2_of (len_lot (P := S) rfl) rfl, dEq_e])
  have e2 : bE (x2 dEq (xL oLen (xCons (xV 5) xNil)) (xV 3)) [pileD N ls, lotD S, lotD Mo, .int N, lotD (rngI N), lotD W, .none, a, .none, .none, .none, .none, .none, .none, .none] = some (((W.length : Nat) : Int) == (N : Int)) := bE_of (by rw [x2_of (len_lot (P := W) rfl) rfl, dEq_e])
  have start : ∀ r : Option Out, (∀ s : SF, s = s → True) → True := fun _ _ => trivial
  by_cases hq : S.length = 0 ∨ W.length = N
  · have c2 : bOr (bE (x2 dEq (xL oLen (xCons (xV 1) xNil)) (xK (.int 0)))) (bE (x2 dEq (xL oLen (xCons (xV 5) xNil)) (xV 3))) [pileD N ls, lotD S, lotD Mo, .int N, lotD (rngI N), lotD W, .none, a, .none, .none, .none, .none, .none, .none, .none] = some true := by
      by_cases z : S.length = 0
      · rw [z] at e1; exact or_t e1
      · have z2 := hq.resolve_left z
        rw [beq_eq_false_iff_ne.mpr (by omega)] at e1
        rw [z2] at e2
        refine or_f e1 (e2.trans ?_)
        simp
    refine fn_rt (δ' := [pileD N ls, lotD S, lotD Mo, .int N, lotD (rngI N), lotD W, .none, a, .none, .none, .none, .none, .none, .none, .none]) ?_ rfl
    show g__law_lots [pileD N ls, lotD S, lotD Mo, .none, .none, .none, .none, .none, .none, .none, .none, .none, .none, .none, .none] = _
    unfold g__law_lots
    rw [set_of (i00 _)]
    show sSeq _ _ [pileD N ls, lotD S, lotD Mo, .int N, .none, .none, .none, .none, .none, .none, .none, .none, .none, .none, .none] = _
    rw [set_of u2]
    show sSeq _ _ [pileD N ls, lotD S, lotD Mo, .int N, lotD (rngI N), .none, .none, .none, .none, .none, .none, .none, .none, .none, .none] = _
    rw [pass_if c1, set_of u3]
    show sSeq _ _ [pileD N ls, lotD S, lotD Mo, .int N, lotD (rngI N), lotD W, .none, .none, .none, .none, .none, .none, .none, .none, .none] = _
    rw [sSeq_nx l']
    exact sSeq_rt (by rw [if_t c2]; rfl)
  · have hs0 : S.length ≠ 0 := fun z => hq (.inl z)
    have hwN : W.length ≠ N := fun z => hq (.inr z)
    have hne : S ≠ [] := fun z => hs0 (by rw [z]; rfl)
    have t : Two N S W := ⟨hS, hW, hne, fun x hx => by
      rw [eW]
      unfold wid
      rw [List.mem_filter, rngI_mem]
      exact ⟨hS.2 x hx, by rw [List.contains_iff_mem.mpr hx]; rfl⟩⟩
    have hSW : S.length ≤ W.length := hS.nd.length_le_of_subset t.sub
    have wne := t.wne
    have hsN : S.length ≠ N := by omega
    obtain ⟨NS, eNS⟩ : ∃ n, n = N - S.length + 1 := ⟨_, rfl⟩
    have cNS : (N : Int) - (S.length : Nat) + 1 = (NS : Nat) := by omega
    have pS := put_pile hp hS hne
    rw [← eNS] at pS
    have il := img_lot t
    rw [← eNS] at il
    have ilen := img_len t
    obtain ⟨I, eI⟩ : ∃ I, I = img N S W := ⟨_, rfl⟩
    rw [← eI] at il ilen
    have hW0 : 0 < W.length := List.length_pos_of_mem t.w0
    have ine : I ≠ [] := fun z => by rw [z] at ilen; simp at ilen
    have iN : I.length ≠ NS := by omega
    have cT : (NS : Int) - (I.length : Nat) + 1 = (N : Int) - (W.length : Nat) + 1 := by omega
    have lS := put_len S ls
    have lW := put_len W ls
    have c2 : bOr (bE (x2 dEq (xL oLen (xCons (xV 1) xNil)) (xK (.int 0)))) (bE (x2 dEq (xL oLen (xCons (xV 5) xNil)) (xV 3))) [pileD N ls, lotD S, lotD Mo, .int N, lotD (rngI N), lotD W, .none, a, .none, .none, .none, .none, .none, .none, .none] = some false := by
      rw [beq_eq_false_iff_ne.mpr (by omega)] at e1
      rw [beq_eq_false_iff_ne.mpr (by omega)] at e2
      exact or_f e1 e2
    have u4 : xCall f_home_of (xCons (xV 0) (xCons (xV 1) xNil)) [pileD N ls, lotD S, lotD Mo, .int N, lotD (rngI N), lotD W, .none, a, .none, .none, .none, .none, .none, .none, .none] = some (lotD (hom N S)) := call2 rfl rfl (f_home_e hS hne hsN hN)
    have u5 : xL oTup (xCons (xCmp (lOf rng1 (xCons (x2 dAdd (x2 dSub (xV 3) (xL oLen (xCons (xV 1) xNil))) (xK (.int 1))) xNil)) (gSet 6) (bE (x2 dIn (xV 6) (xCmp (lSeq (xV 5)) (gSet 10) bYes (x2 dIx (xV 8) (xV 10))))) (xV 6)) xNil) [pileD N ls, lotD S, lotD Mo, .int N, lotD (rngI N), lotD W, .none, a, lotD (hom N S), .none, .none, .none, .none, .none, .none] = some (lotD I) := by
      refine tpl ?_
      have n : x2 dAdd (x2 dSub (xV 3) (xL oLen (xCons (xV 1) xNil))) (xK (.int 1)) [pileD N ls, lotD S, lotD Mo, .int N, lotD (rngI N), lotD W, .none, a, lotD (hom N S), .none, .none, .none, .none, .none, .none] = some (.int (NS : Nat)) := by
        rw [x2_of (d := .int ((N : Int) - (S.length : Nat))) (e := .int 1) (by rw [x2_of (d := .int N) rfl (len_lot (P := S) rfl), dSub_e]) rfl, dAdd_e, cNS]
      rw [eI]
      unfold img
      rw [← eNS]
      refine xCmp_g PyData.int (fun w => (W.map (hm S)).contains w) PyData.int (fun w => [pileD N ls, lotD S, lotD Mo, .int N, lotD (rngI N), lotD W, .int w, a, lotD (hom N S), .none, .none, .none, .none, .none, .none]) (rngI NS) (rng_I n (by omega)) (by rw [rngI_len]; omega) fun w _ => ⟨rfl, bE_of ?_, fun _ => rfl⟩
      have k : xCmp (lSeq (xV 5)) (gSet 10) bYes (x2 dIx (xV 8) (xV 10)) [pileD N ls, lotD S, lotD Mo, .int N, lotD (rngI N), lotD W, .int w, a, lotD (hom N S), .none, .none, .none, .none, .none, .none] = some (.list ((W.map (hm S)).map .int)) := by
        rw [List.map_map]
        refine cmp_ord (od := W) (PyData.int ∘ hm S) rfl (by omega) fun v hv => ?_
        have := hW.2 v hv
        rw [x2_of (d := lotD (hom N S)) (e := .int v) rfl rfl]
        exact dIx_hom this.1 this.2
      rw [x2_of (d := .int w) rfl k]
      exact dIn_sq (sq_list _) w
    have u6 : xCall f_put_together (xCons (xV 0) (xCons (xV 1) xNil)) [pileD N ls, lotD S, lotD Mo, .int N, lotD (rngI N), lotD W, .none, a, lotD (hom N S), lotD I, .none, .none, .none, .none, .none] = some (pileD (NS : Nat) (put S ls)) := by
      rw [← cNS]
      exact call2 rfl rfl (f_put_e hp hS hne hsN hN)
    have pw := f_put_e hp hW wne hwN hN
    have c3 : bNot (bE (xCall (f__law_same 6) (xCons (xCall f_put_together (xCons (xV 11) (xCons (xV 9) xNil))) (xCons (xCall f_put_together (xCons (xV 0) (xCons (xV 5) xNil))) xNil)))) [pileD N ls, lotD S, lotD Mo, .int N, lotD (rngI N), lotD W, .none, a, lotD (hom N S), lotD I, .none, pileD (NS : Nat) (put S ls), .none, .none, .none] = some false := by
      have pi := f_put_e pS il ine iN (by omega)
      rw [cT, eI, put_put t hp, ← eI] at pi
      exact smN (call2 (a := pileD (NS : Nat) (put S ls)) (b := lotD I) rfl rfl pi) (call2 rfl rfl pw) (ok_pile (by omega))
    have u7 : xCall f_home_of (xCons (xV 11) (xCons (xV 9) xNil)) [pileD N ls, lotD S, lotD Mo, .int N, lotD (rngI N), lotD W, .none, a, lotD (hom N S), lotD I, .none, pileD (NS : Nat) (put S ls), .none, .none, .none] = some (lotD (hom NS I)) := call2 (a := pileD (NS : Nat) (put S ls)) (b := lotD I) rfl rfl (f_home_e il ine iN (by omega))
    have c4 : bNot (bE (xCall (f__law_same 6) (xCons (xL oTup (xCons (xCmp (lSeq (xV 8)) (gSet 6) bYes (x2 dIx (xV 12) (xV 6))) xNil)) (xCons (xCall f_home_of (xCons (xV 0) (xCons (xV 5) xNil))) xNil)))) [pileD N ls, lotD S, lotD Mo, .int N, lotD (rngI N), lotD W, .none, a, lotD (hom N S), lotD I, .none, pileD (NS : Nat) (put S ls), lotD (hom NS I), .none, .none] = some false := by
      have k : xL oTup (xCons (xCmp (lSeq (xV 8)) (gSet 6) bYes (x2 dIx (xV 12) (xV 6))) xNil) [pileD N ls, lotD S, lotD Mo, .int N, lotD (rngI N), lotD W, .none, a, lotD (hom N S), lotD I, .none, pileD (NS : Nat) (put S ls), lotD (hom NS I), .none, .none] = some (lotD (hom N W)) := by
        refine tpl ?_
        rw [← hom_hom t, ← eI, List.map_map]
        refine cmp_ord (od := hom N S) (PyData.int ∘ hm I) rfl (by rw [hom_len]; omega) fun v hv => ?_
        have hv' : 0 ≤ v ∧ v < ((NS : Nat) : Int) := by
          unfold hom at hv
          obtain ⟨u, hu, rfl⟩ := List.mem_map.mp hv
          have := List.mem_range.mp hu
          rw [eNS]
          exact ⟨hm_nonneg _ _, hm_lt hS hne ⟨by omega, by omega⟩⟩
        rw [x2_of (d := lotD (hom NS I)) (e := .int v) rfl rfl]
        exact dIx_hom hv'.1 hv'.2
      exact smN k (call2 rfl rfl (f_home_e hW wne hwN hN)) (ok_lot (by rw [hom_len]; omega))
    obtain ⟨δ, eδ⟩ : ∃ δ : List D, δ = [pileD N ls, lotD S, lotD Mo, .int N, lotD (rngI N), lotD W, .none, a, lotD (hom N S), lotD I, .none, pileD (NS : Nat) (put S ls), lotD (hom NS I), .int ((ls.countP (gon W) : Nat) : Int), .none] := ⟨_, rfl⟩
    have u8 : xL oLen (xCons (xCmp (lSeq (x2 dIx (xV 0) (xK (.int 1)))) (gSet 14) (bAnd (bE (x2 dIn (x2 dIx (xV 14) (xK (.int 0))) (xV 5))) (bE (x2 dNotIn (x2 dIx (xV 14) (xK (.int 1))) (xV 5)))) (xV 14)) xNil) [pileD N ls, lotD S, lotD Mo, .int N, lotD (rngI N), lotD W, .none, a, lotD (hom N S), lotD I, .none, pileD (NS : Nat) (put S ls), lotD (hom NS I), .none, .none] = some (.int ((ls.countP (gon W) : Nat) : Int)) := by
      have k : xCmp (lSeq (x2 dIx (xV 0) (xK (.int 1)))) (gSet 14) (bAnd (bE (x2 dIn (x2 dIx (xV 14) (xK (.int 0))) (xV 5))) (bE (x2 dNotIn (x2 dIx (xV 14) (xK (.int 1))) (xV 5)))) (xV 14) [pileD N ls, lotD S, lotD Mo, .int N, lotD (rngI N), lotD W, .none, a, lotD (hom N S), lotD I, .none, pileD (NS : Nat) (put S ls), lotD (hom NS I), .none, .none] = some (.list ((ls.filter (gon W)).map leafD)) := by
        refine xCmp_g leafD (gon W) leafD (fun l => [pileD N ls, lotD S, lotD Mo, .int N, lotD (rngI N), lotD W, .none, a, lotD (hom N S), lotD I, .none, pileD (NS : Nat) (put S ls), lotD (hom NS I), .none, leafD l]) ls (by rw [lSeq_e, i01]; rfl) hz fun l _ => ⟨rfl, ?_, fun _ => rfl⟩
        have b1 : bE (x2 dIn (x2 dIx (xV 14) (xK (.int 0))) (xV 5)) [pileD N ls, lotD S, lotD Mo, .int N, lotD (rngI N), lotD W, .none, a, lotD (hom N S), lotD I, .none, pileD (NS : Nat) (put S ls), lotD (hom NS I), .none, leafD l] = some (W.contains l.1) := bE_of (by rw [x2_of (d := .int l.1) (e := lotD W) (by rw [x2_of (d := leafD l) (e := .int 0) rfl rfl, at_leaf0]) rfl, dIn_lot])
        have b2 : bE (x2 dNotIn (x2 dIx (xV 14) (xK (.int 1))) (xV 5)) [pileD N ls, lotD S, lotD Mo, .int N, lotD (rngI N), lotD W, .none, a, lotD (hom N S), lotD I, .none, pileD (NS : Nat) (put S ls), lotD (hom NS I), .none, leafD l] = some (!W.contains l.2) := bE_of (by rw [x2_of (d := .int l.2) (e := lotD W) (by rw [x2_of (d := leafD l) (e := .int 1) rfl rfl, at_leaf1]) rfl, dNotIn_lot])
        unfold gon
        cases q : W.contains l.1 with
        | true => rw [q] at b1; rw [and_t b1 b2]; rfl
        | false => rw [q] at b1; rw [and_f b1]; rfl
      rw [xL1 k, oLen_l, List.length_map, List.countP_eq_length_filter]
    have g1 : xCall f_gates_of (xCons (xV 11) (xCons (xV 9) xNil)) δ = some (.int ((ls.countP (gon W) : Nat) : Int)) := by
      have f := f_gates (NS : Nat) (put S ls) I il (by omega)
      rw [sel_cnt, eI, cut1 t hp, ← eI] at f
      subst eδ
      exact call2 (a := pileD (NS : Nat) (put S ls)) (b := lotD I) rfl rfl f
    have g2 : xCall f_gates_of (xCons (xCall f_put_together (xCons (xV 0) (xCons (xV 5) xNil))) (xCons (xL mkTup (xCons (x2 dIx (xV 12) (x2 dIx (xV 8) (x2 dIx (xV 5) (xK (.int 0))))) xNil)) xNil)) δ = some (.int ((ls.countP (gon W) : Nat) : Int)) := by
      have w0 := hW.2 _ t.w0
      have h1 : x2 dIx (xV 5) (xK (.int 0)) δ = some (.int (W.headD 0)) := by rw [x2_of (d := lotD W) (e := .int 0) (by rw [eδ]; rfl) rfl, head_at wne]
      have h2 : x2 dIx (xV 8) (x2 dIx (xV 5) (xK (.int 0))) δ = some (.int (hm S (W.headD 0))) := by rw [x2_of (d := lotD (hom N S)) (by rw [eδ]; rfl) h1]; exact dIx_hom w0.1 w0.2
      have hb : 0 ≤ hm S (W.headD 0) ∧ hm S (W.headD 0) < ((NS : Nat) : Int) := by rw [eNS]; exact ⟨hm_nonneg _ _, hm_lt hS hne w0⟩
      have h3 : x2 dIx (xV 12) (x2 dIx (xV 8) (x2 dIx (xV 5) (xK (.int 0)))) δ = some (.int (hm W (W.headD 0))) := by
        rw [x2_of (d := lotD (hom NS I)) (by rw [eδ]; rfl) h2]
        have := dIx_hom (P := I) hb.1 hb.2
        rw [eI, hm_hm t w0, ← eI] at this
        exact this
      have lot1 : IsLot ((N : Int) - (W.length : Nat) + 1) [hm W (W.headD 0)] := by
        refine ⟨by simp, fun x hx => ?_⟩
        have ex : x = hm W (W.headD 0) := by simpa using hx
        have := hm_lt hW wne w0
        rw [ex]
        exact ⟨hm_nonneg _ _, by omega⟩
      have f := f_gates ((N : Int) - (W.length : Nat) + 1) (put W ls) [hm W (W.headD 0)] lot1 (by omega)
      rw [sel_cnt, cut2 hp hW wne] at f
      have h5 : xV 5 δ = some (lotD W) := by rw [eδ]; rfl
      have h0 : xV 0 δ = some (pileD N ls) := by rw [eδ]; rfl
      exact call2 (call2 h0 h5 pw) (tp1 h3) f
    have h13 : xV 13 δ = some (.int ((ls.countP (gon W) : Nat) : Int)) := by rw [eδ]; rfl
    refine fn_rt (δ' := δ) ?_ (by rw [eδ]; rfl)
    show g__law_lots [pileD N ls, lotD S, lotD Mo, .none, .none, .none, .none, .none, .none, .none, .none, .none, .none, .none, .none] = _
    unfold g__law_lots
    rw [set_of (i00 _)]
    show sSeq _ _ [pileD N ls, lotD S, lotD Mo, .int N, .none, .none, .none, .none, .none, .none, .none, .none, .none, .none, .none] = _
    rw [set_of u2]
    show sSeq _ _ [pileD N ls, lotD S, lotD Mo, .int N, lotD (rngI N), .none, .none, .none, .none, .none, .none, .none, .none, .none, .none] = _
    rw [pass_if c1, set_of u3]
    show sSeq _ _ [pileD N ls, lotD S, lotD Mo, .int N, lotD (rngI N), lotD W, .none, .none, .none, .none, .none, .none, .none, .none, .none] = _
    rw [sSeq_nx l', pass_if c2, set_of u4]
    show sSeq _ _ [pileD N ls, lotD S, lotD Mo, .int N, lotD (rngI N), lotD W, .none, a, lotD (hom N S), .none, .none, .none, .none, .none, .none] = _
    rw [set_of u5]
    show sSeq _ _ [pileD N ls, lotD S, lotD Mo, .int N, lotD (rngI N), lotD W, .none, a, lotD (hom N S), lotD I, .none, .none, .none, .none, .none] = _
    rw [set_of u6]
    show sSeq _ _ [pileD N ls, lotD S, lotD Mo, .int N, lotD (rngI N), lotD W, .none, a, lotD (hom N S), lotD I, .none, pileD (NS : Nat) (put S ls), .none, .none, .none] = _
    rw [pass_if c3, set_of u7]
    show sSeq _ _ [pileD N ls, lotD S, lotD Mo, .int N, lotD (rngI N), lotD W, .none, a, lotD (hom N S), lotD I, .none, pileD (NS : Nat) (put S ls), lotD (hom NS I), .none, .none] = _
    rw [pass_if c4, set_of u8]
    show sRet _ [pileD N ls, lotD S, lotD Mo, .int N, lotD (rngI N), lotD W, .none, a, lotD (hom N S), lotD I, .none, pileD (NS : Nat) (put S ls), lotD (hom NS I), .int ((ls.countP (gon W) : Nat) : Int), .none] = _
    rw [← eδ]
    refine ret_of ?_
    rw [xAnd_e, sm g1 h13 rfl, Option.bind_some, toB_e, Option.bind_some, if_pos rfl, sm g2 h13 rfl]
end LawK04

set_option linter.all false
set_option maxRecDepth 10000
namespace LawK04
open PySem Pv
/-! k04: is_book -/
abbrev Mp := List (Int × Int)
def mD (B : Mp) : List (D × D) := B.map fun p => (.int p.1, .int p.2)
def mget : Mp → Int → Option Int
  | [], _ => none
  | p :: B, k => if p.1 = k then some p.2 else mget B k
def val (B : Mp) (k : Int) : Int := (mget B k).getD 0
def upk (k v : Int) (p : Int × Int) : Int × Int := if p.1 = k then (p.1, v) else p
def mset (B : Mp) (k v : Int) : Mp := if (mget B k).isSome then B.map (upk k v) else B ++ [(k, v)]
theorem dct_mD (B : Mp) : dictOf (.dict (mD B)) = some (false, mD B) := by
  cases B <;> rfl
theorem mD_get (k : Int) : ∀ B : Mp, (posD (mD B) (.int k)).isSome = (mget B k).isSome ∧ getD' (mD B) (.int k) = (mget B k).map .int
  | [] => ⟨rfl, rfl⟩
  | p :: B => by
    obtain ⟨h1, h2⟩ := mD_get k B
    have e : posD (mD (p :: B)) (.int k) = if p.1 = k then some 0 else (posD (mD B) (.int k)).map (· + 1) := by
      show posD ((PyData.int p.1, PyData.int p.2) :: mD B) _ = _
      rw [posD_cons]
      show (if PyData.eqv (.int p.1) (.int k) = true then _ else _) = _
      rw [eqv_int]
      by_cases z : p.1 = k
      · rw [if_pos (by simpa using z), if_pos z]
      · rw [if_neg (by simpa using z), if_neg z]
    unfold getD'
    rw [e]
    by_cases z : p.1 = k
    · rw [if_pos z, mget, if_pos z]
      exact ⟨rfl, rfl⟩
    · rw [if_neg z, mget, if_neg z]
      refine ⟨by rw [Option.isSome_map]; exact h1, ?_⟩
      rw [← h2]
      unfold getD'
      cases posD (mD B) (.int k) <;> rfl
theorem mD_put (B : Mp) (k v : Int) : putD (mD B) (.int k) (.int v) = mD (mset B k v) := by
  unfold putD mset
  rw [(mD_get k B).1]
  cases (mget B k).isSome with
  | true =>
    rw [if_pos rfl, if_pos rfl]
    unfold mD
    rw [List.map_map, List.map_map]
    refine List.map_congr_left fun p _ => ?_
    show (if PyData.eqv (.int p.1) (.int k) = true then (PyData.int p.1, PyData.int v) else (PyData.int p.1, PyData.int p.2)) = (PyData.int (upk k v p).1, PyData.int (upk k v p).2)
    rw [eqv_int]
    unfold upk
    by_cases z : p.1 = k
    · rw [if_pos (by simpa using z), if_pos z]
    · rw [if_neg (by simpa using z), if_neg z]
  | false =>
    rw [if_neg Bool.false_ne_true, if_neg Bool.false_ne_true]
    unfold mD
    rw [List.map_append]
    rfl
theorem mget_map (k v k' : Int) : ∀ B : Mp, mget (B.map (upk k v)) k' = if k' = k then (mget B k).map fun _ => v else mget B k'
  | [] => by simp [mget]
  | p :: B => by
    rw [List.map_cons, mget, mget_map k v k' B, mget, mget]
    unfold upk
    by_cases z : p.1 = k
    · rw [if_pos z, if_pos z]
      by_cases y : k' = k
      · rw [if_pos (show p.1 = k' by rw [z, y]), if_pos y]; rfl
      · rw [if_neg (show ¬ p.1 = k' by rw [z]; exact fun q => y q.symm), if_neg y, if_neg y, if_neg (by rw [z]; exact fun q => y q.symm)]
    · rw [if_neg z, if_neg z]
      by_cases y : k' = k
      · rw [if_pos y, if_pos y, if_neg (by rw [y]; exact z)]
      · rw [if_neg y, if_neg y]
theorem mget_app (k v k' : Int) : ∀ B : Mp, mget (B ++ [(k, v)]) k' = (mget B k').or (if k = k' then some v else none)
  | [] => by
    show mget [(k, v)] k' = _
    simp [mget]
  | p :: B => by
    rw [List.cons_append, mget, mget, mget_app k v k' B]
    split <;> rfl
theorem val_set (B : Mp) (k v k' : Int) : val (mset B k v) k' = if k' = k then v else val B k' := by
  unfold val mset
  cases q : mget B k with
  | some x =>
    rw [Option.isSome_some, if_pos rfl, mget_map, q]
    split <;> rfl
  | none =>
    rw [Option.isSome_none, if_neg Bool.false_ne_true, mget_app]
    by_cases y : k' = k
    · rw [if_pos y, y, q, if_pos rfl]; rfl
    · rw [if_neg y, if_neg (fun z => y z.symm), Option.or_none]
theorem mset_len (B : Mp) (k v : Int) : (mset B k v).length ≤ B.length + 1 := by
  unfold mset
  split
  · rw [List.length_map]; omega
  · simp
def ustep (B : Mp) (l : Lf) : Mp := mset (mset B l.1 (val B l.1 - 1)) l.2 (val (mset B l.1 (val B l.1 - 1)) l.2 + 1)
def usur (xs : List Lf) : Mp := xs.foldl ustep []
theorem usur_snoc (xs : List Lf) (l : Lf) : usur (xs ++ [l]) = ustep (usur xs) l := by unfold usur; rw [List.foldl_append]; rfl
def sur (xs : List Lf) (k : Int) : Int := ((xs.countP fun l => l.2 == k : Nat) : Int) - ((xs.countP fun l => l.1 == k : Nat) : Int)
theorem usur_ok : ∀ (n : Nat) (xs : List Lf), xs.length = n → (∀ k, val (usur xs) k = sur xs k) ∧ (usur xs).length ≤ 2 * n
  | 0, xs, h => by
    have : xs = [] := List.length_eq_zero_iff.mp h
    subst this
    exact ⟨fun k => rfl, Nat.le_refl _⟩
  | n + 1, xs, h => by
    have hne : xs ≠ [] := fun z => by rw [z] at h; cases h
    obtain ⟨ys, l, rfl⟩ : ∃ ys l, xs = ys ++ [l] := ⟨xs.dropLast, xs.getLast hne, (List.dropLast_concat_getLast hne).symm⟩
    rw [List.length_append, List.length_singleton] at h
    obtain ⟨h1, h2⟩ := usur_ok n ys (by omega)
    rw [usur_snoc]
    refine ⟨fun k => ?_, ?_⟩
    · unfold ustep
      rw [val_set, val_set, val_set, h1, h1, h1]
      unfold sur
      rw [List.countP_append, List.countP_append, List.countP_cons, List.countP_cons, List.countP_nil, List.countP_nil]
      by_cases a : k = l.2
      · by_cases b : k = l.1
        · rw [if_pos a, if_pos (show l.2 = l.1 by rw [← a, b]), if_pos (by simpa using a.symm), if_pos (by simpa using b.symm), ← b]; omega
        · rw [if_pos a, if_neg (show ¬ l.2 = l.1 by rw [← a]; exact b), if_pos (by simpa using a.symm), if_neg (by simpa using fun z => b z.symm), ← a]; omega
      · by_cases b : k = l.1
        · rw [if_neg a, if_pos b, if_neg (by simpa using fun z => a z.symm), if_pos (by simpa using b.symm), ← b]; omega
        · rw [if_neg a, if_neg b, if_neg (by simpa using fun z => a z.symm), if_neg (by simpa using fun z => b z.symm)]; omega
    · unfold ustep
      have q1 := mset_len (usur ys) l.1 (val (usur ys) l.1 - 1)
      have q2 := mset_len (mset (usur ys) l.1 (val (usur ys) l.1 - 1)) l.2 (val (mset (usur ys) l.1 (val (usur ys) l.1 - 1)) l.2 + 1)
      omega
theorem get2_e {δ : List D} {i j : Nat} {B : Mp} {k : Int} (h1 : δ[i]? = some (.dict (mD B))) (h2 : δ[j]? = some (.int k)) : xDGet2 (xV i) (xV j) (xK (.int 0)) δ = some (.int (val B k)) := by
  unfold xDGet2
  rw [xV_e, h1, Option.bind_some, xV_e, h2, Option.bind_some, xK_e, Option.bind_some, dct_mD, Option.bind_some]
  show (if (true : Bool) = true then some ((getD' (mD B) (.int k)).getD (.int 0)) else none) = _
  rw [if_pos rfl, (mD_get k B).2]
  unfold val
  cases mget B k <;> rfl
theorem getK_e {δ : List D} {i : Nat} {B : Mp} (h1 : δ[i]? = some (.dict (mD B))) : getDctK δ i = some (mD B) := by
  unfold getDctK
  rw [h1]
theorem putK_e {δ : List D} {i j : Nat} {f : EF} {B : Mp} {k v : Int} (hf : f δ = some (.int v)) (h1 : δ[i]? = some (.dict (mD B))) (h2 : δ[j]? = some (.int k)) (hl : B.length ≤ 100000) : sPutK i (mOf f) (xV j) δ = some (.nx (δ.set i (.dict (mD (mset B k v))))) := by
  have sz := size_le
  unfold sPutK
  rw [mOf_e, hf]
  show ((xV j δ).bind fun k => if (ikey k).isSome then (getDctK δ i).bind fun kvd => if kvd.length < sizeLine then some (Out.nx (δ.set i (.dict (putD kvd k (.int v))))) else none else none) = _
  rw [xV_e, h2, Option.bind_some]
  show (if (true : Bool) = true then (getDctK δ i).bind fun kvd => if kvd.length < sizeLine then some (Out.nx (δ.set i (.dict (putD kvd (.int k) (.int v))))) else none else none) = _
  rw [if_pos rfl, getK_e h1, Option.bind_some, if_pos (by unfold mD; rw [List.length_map]; omega), mD_put]
theorem f_uneven {xs : List Lf} (hl : xs.length ≤ 10000) (ev : ∀ k, sur xs k = 0) : f_least_uneven [leavesD xs] = some (.none, [leavesD xs]) := by
  have sz := size_le
  have bz : ∀ j, (usur (xs.take j)).length ≤ 20000 := fun j => by
    have h := (usur_ok _ (xs.take j) rfl).2
    have h3 : (xs.take j).length ≤ xs.length := by rw [List.length_take]; omega
    omega
  obtain ⟨δ', l, a, b, e⟩ := forL_inv (tg := gTupD [2, 3]) (b := sSeq (sPutK 1 (mOf (x2 dSub (xDGet2 (xV 1) (xV 2) (xK (.int 0))) (xK (.int 1)))) (xV 2)) (sPutK 1 (mOf (x2 dAdd (xDGet2 (xV 1) (xV 3) (xK (.int 0))) (xK (.int 1)))) (xV 3))) (fun j δ => ∃ a b, δ = [leavesD xs, .dict (mD (usur (xs.take j))), a, b, .none, .none]) (xs.map leafD) 0 [leavesD xs, .dict [], .none, .none, .none, .none] ⟨.none, .none, by rw [List.take_zero]; rfl⟩ fun j dd δ hdd ⟨a, b, e⟩ => by
    subst e
    rw [Nat.zero_add]
    rw [List.getElem?_map] at hdd
    obtain ⟨l, hj, rfl⟩ := Option.map_eq_some_iff.mp hdd
    have b1 := bz j
    refine ⟨[leavesD xs, .dict (mD (usur (xs.take j))), .int l.1, .int l.2, .none, .none], [leavesD xs, .dict (mD (usur (xs.take (j + 1)))), .int l.1, .int l.2, .none, .none], rfl, ?_, .int l.1, .int l.2, rfl⟩
    have p1 := putK_e (δ := [leavesD xs, .dict (mD (usur (xs.take j))), .int l.1, .int l.2, .none, .none]) (i := 1) (j := 2) (B := usur (xs.take j)) (k := l.1) (v := val (usur (xs.take j)) l.1 - 1) (f := x2 dSub (xDGet2 (xV 1) (xV 2) (xK (.int 0))) (xK (.int 1))) (by rw [x2_of (get2_e (B := usur (xs.take j)) rfl rfl) rfl, dSub_e]) rfl rfl (by omega)
    have b2 := mset_len (usur (xs.take j)) l.1 (val (usur (xs.take j)) l.1 - 1)
    have p2 := putK_e (δ := [leavesD xs, .dict (mD (mset (usur (xs.take j)) l.1 (val (usur (xs.take j)) l.1 - 1))), .int l.1, .int l.2, .none, .none]) (i := 1) (j := 3) (B := mset (usur (xs.take j)) l.1 (val (usur (xs.take j)) l.1 - 1)) (k := l.2) (v := val (mset (usur (xs.take j)) l.1 (val (usur (xs.take j)) l.1 - 1)) l.2 + 1) (f := x2 dAdd (xDGet2 (xV 1) (xV 3) (xK (.int 0))) (xK (.int 1))) (by rw [x2_of (get2_e (B := mset (usur (xs.take j)) l.1 (val (usur (xs.take j)) l.1 - 1)) rfl rfl) rfl, dAdd_e]) rfl rfl (by omega)
    rw [sSeq_nx p1]
    refine p2.trans ?_
    rw [take_step hj, usur_snoc]
    rfl
  subst e
  rw [Nat.zero_add, List.length_map, List.take_length] at l
  have l2 : sFor (lSeq (xV 0)) (gTupD [2, 3]) (sSeq (sPutK 1 (mOf (x2 dSub (xDGet2 (xV 1) (xV 2) (xK (.int 0))) (xK (.int 1)))) (xV 2)) (sPutK 1 (mOf (x2 dAdd (xDGet2 (xV 1) (xV 3) (xK (.int 0))) (xK (.int 1)))) (xV 3))) [leavesD xs, .dict [], .none, .none, .none, .none] = some (.nx [leavesD xs, .dict (mD (usur xs)), a, b, .none, .none]) := l
  have v0 : ∀ k, val (usur xs) k = 0 := fun k => by rw [(usur_ok _ xs rfl).1, ev]
  have us := (usur_ok _ xs rfl).2
  have u3 : xCmp (lIt (xV 1)) (gSet 5) (bE (x2 dNe (x2 dDGet (xV 1) (xV 5)) (xK (.int 0)))) (xV 5) [leavesD xs, .dict (mD (usur xs)), a, b, .none, .none] = some (.list []) := by
    have src : lIt (xV 1) [leavesD xs, .dict (mD (usur xs)), a, b, .none, .none] = some ((usur xs).map fun p => .int p.1) := by
      show (dictOf (.dict (mD (usur xs)))).map (·.2.map Prod.fst) = _
      rw [dct_mD]
      show some ((mD (usur xs)).map Prod.fst) = _
      unfold mD
      rw [List.map_map]
      rfl
    have := xCmp_g (tg := gSet 5) (c := bE (x2 dNe (x2 dDGet (xV 1) (xV 5)) (xK (.int 0)))) (f := xV 5) (fun p : Int × Int => .int p.1) (fun _ => false) (fun _ => PyData.none) (fun p => [leavesD xs, .dict (mD (usur xs)), a, b, .none, .int p.1]) (usur xs) src (by omega) fun p hp => ⟨rfl, bE_of ?_, fun z => nomatch z⟩
    · rw [List.filter_eq_nil_iff.mpr fun _ _ => Bool.false_ne_true] at this
      exact this
    · have hg : (mget (usur xs) p.1).isSome := by
        generalize usur xs = B at hp
        induction B with
        | nil => cases hp
        | cons q B ih =>
          rw [mget]
          by_cases z : q.1 = p.1
          · rw [if_pos z]; rfl
          · rw [if_neg z]
            rcases List.mem_cons.mp hp with e | e
            · rw [e] at z; exact absurd rfl z
            · exact ih e
      obtain ⟨v, hv⟩ := Option.isSome_iff_exists.mp hg
      have v1 := v0 p.1
      unfold val at v1
      rw [hv] at v1
      have dg : x2 dDGet (xV 1) (xV 5) [leavesD xs, .dict (mD (usur xs)), a, b, .none, .int p.1] = some (.int v) := by
        show dDGet (.dict (mD (usur xs))) (.int p.1) = _
        unfold dDGet
        rw [dct_mD, Option.bind_some]
        show (if (true : Bool) = true then getD' (mD (usur xs)) (.int p.1) else none) = _
        rw [if_pos rfl, (mD_get p.1 (usur xs)).2, hv]
        rfl
      have v2 : v = 0 := v1
      rw [x2_of dg rfl, dNe_e, v2]
      rfl
  refine fn_rt (δ' := [leavesD xs, .dict (mD (usur xs)), a, b, .list [], .none]) ?_ rfl
  show g_least_uneven [leavesD xs, .none, .none, .none, .none, .none] = _
  unfold g_least_uneven
  rw [sSeq_nx (δ' := [leavesD xs, .dict [], .none, .none, .none, .none]) rfl, sSeq_nx l2, set_of u3]
  show sSeq _ _ [leavesD xs, .dict (mD (usur xs)), a, b, .list [], .none] = _
  exact sSeq_rt (by rw [if_t (c := bNot (bTr (xV 4))) rfl]; rfl)
/-! ### no bare word -/
def fadd (R : List Int) (w : Int) : List Int := if R.contains w then R else R ++ [w]
theorem fadd_ok {R : List Int} {w : Int} (h : R.Nodup) : (fadd R w).Nodup ∧ (∀ x, x ∈ fadd R w ↔ x ∈ R ∨ x = w) ∧ (fadd R w).length ≤ R.length + 1 := by
  unfold fadd
  by_cases c : w ∈ R
  · rw [if_pos (by simpa using c)]
    exact ⟨h, fun x => ⟨.inl, fun z => z.elim id fun z => by rw [z]; exact c⟩, by omega⟩
  · rw [if_neg (by simpa using c)]
    exact ⟨nd_snoc h c, fun x => by simp, by simp⟩
theorem rD_put (R : List Int) (w : Int) : putD (rD R) (.int w) (.bool true) = rD (fadd R w) := by
  unfold putD fadd
  rw [rD_pos]
  cases q : R.contains w with
  | true =>
    rw [if_pos rfl, if_pos rfl]
    unfold rD
    rw [List.map_map]
    refine List.map_congr_left fun p _ => ?_
    show (if PyData.eqv (.int p) (.int w) = true then (PyData.int p, PyData.bool true) else (PyData.int p, PyData.bool true)) = _
    rw [ite_self]
  | false =>
    rw [if_neg Bool.false_ne_true, if_neg Bool.false_ne_true]
    unfold rD
    rw [List.map_append]
    rfl
theorem dc_fst {δ : List D} : ∀ (xs : List Lf) (R : List Int), R.Nodup → R.length + xs.length ≤ 100000 → (∀ l : Lf, gTupD [3, 4] (leafD l) δ = some ((δ.set 3 (.int l.1)).set 4 (.int l.2))) → (∀ l : Lf, ((δ.set 3 (.int l.1)).set 4 (.int l.2))[3]? = some (.int l.1)) →
    ∃ R' : List Int, dcL (gTupD [3, 4]) (xV 3) (xK (.bool true)) δ (xs.map leafD) (rD R) = some (rD R') ∧ R'.Nodup ∧ ∀ x, x ∈ R' ↔ x ∈ R ∨ ∃ l ∈ xs, l.1 = x
  | [], R, h, _, _, _ => ⟨R, rfl, h, fun x => by simp⟩
  | l :: xs, R, h, hz, t1, t2 => by
    have sz := size_le
    obtain ⟨a1, a2, a3⟩ := fadd_ok (w := l.1) h
    rw [List.length_cons] at hz
    obtain ⟨R', e, n, m⟩ := dc_fst xs (fadd R l.1) a1 (by omega) t1 t2
    refine ⟨R', ?_, n, fun x => ?_⟩
    · rw [List.map_cons, dcL, t1, Option.bind_some, xV_e, t2, Option.bind_some, xK_e, Option.bind_some]
      have c : ((ikey (.int l.1)).isSome && decide ((rD R).length < sizeLine)) = true := by
        show (true && decide ((rD R).length < sizeLine)) = true
        rw [decide_eq_true (by unfold rD; rw [List.length_map]; omega)]
        rfl
      rw [if_pos c, rD_put]
      exact e
    · rw [m, a2]
      constructor
      · rintro ((z | z) | ⟨y, hy, z⟩)
        · exact .inl z
        · exact .inr ⟨l, List.mem_cons_self, z.symm⟩
        · exact .inr ⟨y, List.mem_cons_of_mem _ hy, z⟩
      · rintro (z | ⟨y, hy, z⟩)
        · exact .inl (.inl z)
        · rcases List.mem_cons.mp hy with q | q
          · rw [q] at z; exact .inl (.inr z.symm)
          · exact .inr ⟨y, q, z⟩
structure Book (M : Nat) (xs : List Lf) : Prop where
  pile : IsPile M xs
  len : xs.length ≤ 10000
  one : 1 ≤ M
  even : ∀ k, sur xs k = 0
  full : ∀ w : Int, 0 ≤ w → w < M → ∃ l ∈ xs, l.1 = w
  conn : ∀ w : Int, 0 ≤ w → w < M → Rch xs 0 w
theorem f_bare {M : Nat} {xs : List Lf} (b : Book M xs) : f_least_bare [.int M, leavesD xs] = some (.none, [.int M, leavesD xs]) := by
  have bl := b.len
  obtain ⟨R, e, n, m⟩ := dc_fst (δ := [.int M, leavesD xs, .none, .none, .none, .none]) xs [] .nil (by simp; omega) (fun _ => rfl) (fun _ => rfl)
  have hp : R.Perm (rngI M) := (List.perm_ext_iff_of_nodup n (asc_nd (rngI_lot M).1)).mpr fun x => by
    rw [m, rngI_mem]
    constructor
    · rintro (z | ⟨l, hl, z⟩)
      · cases z
      · rw [← z]; exact b.pile.fst l hl
    · rintro ⟨h0, h1⟩
      exact .inr (b.full x h0 h1)
  have hl : R.length = M := by rw [hp.length_eq, rngI_len]
  have u : xDc (lSeq (xV 1)) (gTupD [3, 4]) (xV 3) (xK (.bool true)) [.int M, leavesD xs, .none, .none, .none, .none] = some (.dict (rD R)) := by
    show ((dcL (gTupD [3, 4]) (xV 3) (xK (.bool true)) [.int M, leavesD xs, .none, .none, .none, .none] (xs.map leafD) (rD [])).map PyData.dict) = _
    rw [e]
    rfl
  have c : bE (x2 dEq (xL oLenD (xCons (xV 2) xNil)) (xV 0)) [.int M, leavesD xs, .dict (rD R), .none, .none, .none] = some true := bE_of (by
    have o : xL oLenD (xCons (xV 2) xNil) [.int M, leavesD xs, .dict (rD R), .none, .none, .none] = some (.int (M : Nat)) := by
      show ((dictOf (.dict (rD R))).bind fun p => if p.1 then none else some (PyData.int p.2.length)) = _
      rw [dct_rD, Option.bind_some]
      show some (PyData.int ((rD R).length : Nat)) = _
      unfold rD
      rw [List.length_map, hl]
    rw [x2_of o (e := .int (M : Nat)) rfl, dEq_e]
    simp)
  refine fn_rt (δ' := [.int M, leavesD xs, .dict (rD R), .none, .none, .none]) ?_ rfl
  show g_least_bare [.int M, leavesD xs, .none, .none, .none, .none] = _
  unfold g_least_bare
  rw [set_of u]
  show sSeq _ _ [.int M, leavesD xs, .dict (rD R), .none, .none, .none] = _
  exact sSeq_rt (by rw [if_t c]; rfl)
theorem f_book {M : Nat} {xs : List Lf} (b : Book M xs) (hM : M ≤ 1000) : f_is_book [pileD M xs] = some (.bool true, [pileD M xs]) := by
  have bl := b.len
  have h0 : (0 : Int) ∈ rngI M := rngI_mem.mpr ⟨by omega, by have := b.one; omega⟩
  obtain ⟨c, e, ca, cm, cs⟩ := f_piece (E := xs) (U := rngI M) (s := 0) (fun l hl => ⟨rngI_mem.mpr (b.pile.fst l hl), rngI_mem.mpr (b.pile.snd l hl)⟩) (rngI_lot M).1 (by rw [rngI_len]; exact hM) h0
  have cl : c.length = M := by
    have p : c.Perm (rngI M) := (List.perm_ext_iff_of_nodup (asc_nd ca) (asc_nd (rngI_lot M).1)).mpr fun x => ⟨cs x, fun z => (cm x).mpr (b.conn x (rngI_mem.mp z).1 (rngI_mem.mp z).2)⟩
    rw [p.length_eq, rngI_len]
  have wb : f_word_bonds [leavesD xs] = some (.dict (bD (bonds xs)), [leavesD xs]) := f_bonds rfl (by omega)
  have ff : f_first_fault [.int M, leavesD xs] = some (.none, [.int M, leavesD xs]) := by
    have u1 : xCall f_least_uneven (xCons (xV 1) xNil) [.int M, leavesD xs, .none, .none, .none] = some .none := call1 rfl (f_uneven bl b.even)
    have u2 : xCall f_least_bare (xCons (xV 0) (xCons (xV 1) xNil)) [.int M, leavesD xs, .none, .none, .none] = some .none := call2 rfl rfl (f_bare b)
    have u3 : xCall f_piece_by (xCons (xCall f_word_bonds (xCons (xV 1) xNil)) (xCons (xK (.int 0)) xNil)) [.int M, leavesD xs, .none, .none, .none] = some (lotD c) := call2 (call1 rfl wb) rfl e
    have c3 : bE (x2 dLt (xL oLen (xCons (xV 4) xNil)) (xV 0)) [.int M, leavesD xs, .none, .none, lotD c] = some false := bE_of (by
      rw [x2_of (len_lot (P := c) rfl) (e := .int (M : Nat)) rfl, dLt_e, cl, decide_eq_false (by omega)])
    refine fn_rt (δ' := [.int M, leavesD xs, .none, .none, lotD c]) ?_ rfl
    show g_first_fault [.int M, leavesD xs, .none, .none, .none] = _
    unfold g_first_fault
    rw [set_of u1]
    show sSeq _ _ [.int M, leavesD xs, .none, .none, .none] = _
    rw [pass_if (c := bE (x2 dNotN (xV 2) (xK .none))) rfl, set_of u2]
    show sSeq _ _ [.int M, leavesD xs, .none, .none, .none] = _
    rw [pass_if (c := bE (x2 dNotN (xV 3) (xK .none))) rfl, set_of u3]
    show sSeq _ _ [.int M, leavesD xs, .none, .none, lotD c] = _
    rw [pass_if c3]
    rfl
  have c1 : bNot (bE (xCall f_is_heap (xCons (xV 0) xNil))) [pileD M xs, .none, .none] = some false := bN_of (bE_of (call1 rfl (f_heap b.one b.pile)))
  have r : x2 dIsN (xCall f_first_fault (xCons (xV 1) (xCons (xV 2) xNil))) (xK .none) [pileD M xs, .int M, leavesD xs] = some (.bool true) := by rw [x2_of (call2 rfl rfl ff) rfl]; rfl
  refine fn_rt (δ' := [pileD M xs, .int M, leavesD xs]) ?_ rfl
  show g_is_book [pileD M xs, .none, .none] = _
  unfold g_is_book
  rw [pass_if c1, sSeq_nx (δ' := [pileD M xs, .int M, leavesD xs]) rfl]
  exact ret_of r
end LawK04

set_option linter.all false
set_option maxRecDepth 10000
namespace LawK04
open PySem Pv
/-! k04: books stay books -/
def Ev (xs : List Lf) : Prop := (xs.map Prod.fst).Perm (xs.map Prod.snd)
theorem cnt_f (xs : List Lf) (k : Int) : (xs.map Prod.fst).count k = xs.countP fun l => l.1 == k := by
  unfold List.count
  rw [List.countP_map]
  rfl
theorem cnt_s (xs : List Lf) (k : Int) : (xs.map Prod.snd).count k = xs.countP fun l => l.2 == k := by
  unfold List.count
  rw [List.countP_map]
  rfl
theorem ev_sur {xs : List Lf} : Ev xs ↔ ∀ k, sur xs k = 0 := by
  unfold Ev
  rw [List.perm_iff_count]
  refine forall_congr' fun k => ?_
  rw [cnt_f, cnt_s]
  unfold sur
  omega
theorem Rch.trans {E : List Lf} {s u w : Int} (h1 : Rch E s u) (h2 : Rch E u w) : Rch E s w := by
  induction h2 with
  | refl => exact h1
  | fwd hl _ ih => exact .fwd hl ih
  | bwd hl _ ih => exact .bwd hl ih
theorem Rch.symm {E : List Lf} {s w : Int} (h : Rch E s w) : Rch E w s := by
  induction h with
  | refl => exact .refl
  | fwd hl _ ih => exact (Rch.bwd hl .refl).trans ih
  | bwd hl _ ih => exact (Rch.fwd hl .refl).trans ih
/-- steps taken over into other leaves -/
theorem Rch.over {E E' : List Lf} {f : Int → Int} (h : ∀ l ∈ E, Rch E' (f l.1) (f l.2)) {s w : Int} (r : Rch E s w) : Rch E' (f s) (f w) := by
  induction r with
  | refl => exact .refl
  | fwd hl _ ih => exact ih.trans (h _ hl)
  | bwd hl _ ih => exact ih.trans (h _ hl).symm
theorem Rch.mono {E E' : List Lf} (h : ∀ l ∈ E, l ∈ E') {s w : Int} (r : Rch E s w) : Rch E' s w := r.over (f := id) fun l hl => .fwd (h l hl) .refl
/-! backwards, hung, joined, parted -/
theorem Book.sw {N : Nat} {ls : List Lf} (b : Book N ls) : Book N (ls.map sw) := by
  have e := ev_sur.mpr b.even
  refine ⟨pile_sw b.pile, by rw [List.length_map]; exact b.len, b.one, ev_sur.mp ?_, fun w h0 h1 => ?_, fun w h0 h1 => ?_⟩
  · unfold Ev at e ⊢
    rw [List.map_map, List.map_map]
    exact e.symm
  · obtain ⟨l, hl, rfl⟩ := b.full w h0 h1
    have : l.1 ∈ ls.map Prod.snd := e.mem_iff.mp (List.mem_map.mpr ⟨l, hl, rfl⟩)
    obtain ⟨m, hm, em⟩ := List.mem_map.mp this
    exact ⟨LawK04.sw m, List.mem_map.mpr ⟨m, hm, rfl⟩, em⟩
  · exact (b.conn w h0 h1).over (f := id) fun l hl => .bwd (l := LawK04.sw l) (List.mem_map.mpr ⟨l, hl, rfl⟩) .refl
theorem Book.hung {N : Nat} {ls : List Lf} (b : Book N ls) (hl : ls.length ≤ 9000) {s : Int} (h0 : 0 ≤ s) (h1 : s < N) : Book N (ls ++ [(s, s)]) := by
  have e := ev_sur.mpr b.even
  refine ⟨⟨by rw [List.length_append]; simp; omega, fun l hl => ?_, fun l hl => ?_⟩, by rw [List.length_append]; simp; omega, b.one, ev_sur.mp ?_, fun w h0 h1 => ?_, fun w h0 h1 => ?_⟩
  · rcases List.mem_append.mp hl with q | q
    · exact b.pile.fst l q
    · have : l = (s, s) := by simpa using q
      rw [this]; exact ⟨h0, h1⟩
  · rcases List.mem_append.mp hl with q | q
    · exact b.pile.snd l q
    · have : l = (s, s) := by simpa using q
      rw [this]; exact ⟨h0, h1⟩
  · unfold Ev at e ⊢
    rw [List.map_append, List.map_append]
    exact e.append (.refl _)
  · obtain ⟨l, hl, e⟩ := b.full w h0 h1
    exact ⟨l, List.mem_append_left _ hl, e⟩
  · exact (b.conn w h0 h1).mono fun l hl => List.mem_append_left _ hl
theorem Book.join {N M : Nat} {ls es : List Lf} (b : Book N ls) (c : Book M es) (h1 : ls.length ≤ 1000) (h2 : es.length ≤ 1000) : Book (N + M - 1) (ls ++ es.map (ml N)) := by
  have e1 := ev_sur.mpr b.even
  have e2 := ev_sur.mpr c.even
  have bo := b.one
  have co := c.one
  have hi : ∀ w : Int, (N : Int) ≤ w → w < ((N + M - 1 : Nat) : Int) → 0 ≤ w - N + 1 ∧ w - N + 1 < (M : Int) ∧ mv N (w - N + 1) = w := fun w a1 a2 => ⟨by omega, by omega, by rw [mv_pos (by omega)]; omega⟩
  refine ⟨join_pile b.pile c.pile bo co h1 h2, by rw [List.length_append, List.length_map]; omega, by omega, ev_sur.mp ?_, fun w h0 h1 => ?_, fun w h0 h1 => ?_⟩
  · unfold Ev at e1 e2 ⊢
    rw [List.map_append, List.map_append, List.map_map, List.map_map]
    refine e1.append ?_
    have := e2.map (mv N)
    rw [List.map_map, List.map_map] at this
    exact this
  · by_cases q : w < (N : Int)
    · obtain ⟨l, hl, e⟩ := b.full w h0 q
      exact ⟨l, List.mem_append_left _ hl, e⟩
    · obtain ⟨a1, a2, a3⟩ := hi w (by omega) h1
      obtain ⟨l, hl, e⟩ := c.full _ a1 a2
      exact ⟨ml N l, List.mem_append_right _ (List.mem_map.mpr ⟨l, hl, rfl⟩), by show mv N l.1 = w; rw [e, a3]⟩
  · by_cases q : w < (N : Int)
    · exact (b.conn w h0 q).mono fun l hl => List.mem_append_left _ hl
    · obtain ⟨a1, a2, a3⟩ := hi w (by omega) h1
      have := (c.conn _ a1 a2).over (f := mv N) (E' := ls ++ es.map (ml N)) fun l hl => .fwd (l := ml N l) (List.mem_append_right _ (List.mem_map.mpr ⟨l, hl, rfl⟩)) .refl
      rw [a3] at this
      exact this
theorem cut_at {ls : List Lf} {k : Nat} {l : Lf} (hk : ls[k]? = some l) : ls = ls.take k ++ [l] ++ ls.drop (k + 1) := by
  obtain ⟨h2, h3⟩ := List.getElem?_eq_some_iff.mp hk
  have := List.take_append_drop k ls
  rw [List.drop_eq_getElem_cons h2, h3] at this
  rw [List.append_assoc]
  exact this.symm
theorem Book.part {N : Nat} {ls : List Lf} (b : Book N ls) (hl : ls.length ≤ 1000) {k : Nat} {l : Lf} (hk : ls[k]? = some l) : Book (N + 1) (prt N ls k l) := by
  have e := ev_sur.mpr b.even
  have hm := List.mem_of_getElem? hk
  have f1 : (l.1, (N : Int)) ∈ prt N ls k l := by unfold prt; simp
  have f2 : ((N : Int), l.2) ∈ prt N ls k l := by unfold prt; simp
  have inn : ∀ m ∈ ls, m ∈ prt N ls k l ∨ m = l := fun m hm => by
    rw [cut_at hk] at hm
    simp only [List.mem_append, List.mem_singleton] at hm
    unfold prt
    simp only [List.mem_append, List.mem_singleton]
    rcases hm with (q | q) | q
    · exact .inl (.inl (.inl (.inl q)))
    · exact .inr q
    · exact .inl (.inl (.inr q))
  have ov : ∀ m ∈ ls, Rch (prt N ls k l) m.1 m.2 := fun m hm => by
    rcases inn m hm with q | q
    · exact .fwd q .refl
    · rw [q]
      exact (Rch.fwd (l := (l.1, (N : Int))) f1 .refl).trans (Rch.fwd (l := ((N : Int), l.2)) f2 .refl)
  have rl : ∀ w : Int, 0 ≤ w → w < N → Rch (prt N ls k l) 0 w := fun w h0 h1 => (b.conn w h0 h1).over (f := id) ov
  refine ⟨prt_pile b.pile hl hk, by rw [prt_len hk]; omega, by omega, ev_sur.mp ?_, fun w h0 h1 => ?_, fun w h0 h1 => ?_⟩
  · unfold Ev at e ⊢
    have c := cut_at hk
    unfold prt
    have a1 : (ls.take k ++ [(l.1, (N : Int))] ++ ls.drop (k + 1) ++ [((N : Int), l.2)]).map Prod.fst = ls.map Prod.fst ++ [(N : Int)] := by
      conv => rhs; rw [c]
      simp only [List.map_append, List.map_cons, List.map_nil]
    have a2 : ((ls.take k ++ [(l.1, (N : Int))] ++ ls.drop (k + 1) ++ [((N : Int), l.2)]).map Prod.snd).Perm (ls.map Prod.snd ++ [(N : Int)]) := by
      have r : ls.map Prod.snd ++ [(N : Int)] = (ls.take k).map Prod.snd ++ ([l.2] ++ ((ls.drop (k + 1)).map Prod.snd ++ [(N : Int)])) := by
        conv => lhs; rw [c]
        simp only [List.map_append, List.map_cons, List.map_nil, List.append_assoc]
      rw [r]
      simp only [List.map_append, List.map_cons, List.map_nil, List.append_assoc]
      refine .append (.refl _) ?_
      -- [N] ++ (D ++ [c]) and [c] ++ (D ++ [N])
      have p1 : ([(N : Int)] ++ ((ls.drop (k + 1)).map Prod.snd ++ [l.2])).Perm ((ls.drop (k + 1)).map Prod.snd ++ [l.2] ++ [(N : Int)]) := List.perm_append_comm
      have p2 : ([l.2] ++ ((ls.drop (k + 1)).map Prod.snd ++ [(N : Int)])).Perm ((ls.drop (k + 1)).map Prod.snd ++ [l.2] ++ [(N : Int)]) := by
        rw [← List.append_assoc]
        exact .append List.perm_append_comm (.refl _)
      exact p1.trans p2.symm
    rw [a1]
    exact (e.append (.refl _)).trans a2.symm
  · by_cases q : w < (N : Int)
    · obtain ⟨m, hm, e⟩ := b.full w h0 q
      rcases inn m hm with z | z
      · exact ⟨m, z, e⟩
      · exact ⟨_, f1, by rw [z] at e; exact e⟩
    · exact ⟨_, f2, by show (N : Int) = w; omega⟩
  · by_cases q : w < (N : Int)
    · exact rl w h0 q
    · have ew : w = (N : Int) := by omega
      rw [ew]
      have b1 := b.pile.fst l hm
      exact .fwd (l := (l.1, (N : Int))) f1 (rl l.1 b1.1 b1.2)
/-! put_together -/
theorem rk_onto (P : List Int) : ∀ n y : Nat, y < rk P n → ∃ u : Nat, u < n ∧ kp P (u : Int) = true ∧ rk P u = y
  | 0, y, h => absurd h (Nat.not_lt_zero _)
  | n + 1, y, h => by
    rw [rk_succ] at h
    by_cases q : y < rk P n
    · obtain ⟨u, h1, h2, h3⟩ := rk_onto P n y q
      exact ⟨u, by omega, h2, h3⟩
    · cases k : kp P (n : Int) with
      | true =>
        rw [k, if_pos rfl] at h
        exact ⟨n, by omega, k, by omega⟩
      | false =>
        rw [k, if_neg Bool.false_ne_true] at h
        omega
theorem hm_const {P : List Int} {a b : Int} (ha : a ∈ P) (hb : b ∈ P) : hm P a = hm P b := by rw [hm_rp, hm_rp, rp_inn ha, rp_inn hb]
theorem flt_split (p : Lf → Bool) : ∀ ls : List Lf, (ls.filter p ++ ls.filter fun l => !p l).Perm ls
  | [] => .nil
  | l :: ls => by
    have ih := flt_split p ls
    cases q : p l with
    | true =>
      rw [List.filter_cons_of_pos q, List.filter_cons_of_neg (p := fun l => !p l) (a := l) (by show ¬ (!p l) = true; rw [q]; exact Bool.false_ne_true)]
      exact ih.cons l
    | false =>
      rw [List.filter_cons_of_neg (by rw [q]; exact Bool.false_ne_true), List.filter_cons_of_pos (p := fun l => !p l) (a := l) (by show (!p l) = true; rw [q]; rfl)]
      exact List.perm_middle.trans (ih.cons l)
theorem put_ev {P : List Int} {ls : List Lf} (e : Ev ls) : Ev (put P ls) := by
  unfold Ev put at *
  have sp := flt_split (nb P) ls
  have h1 := ((sp.map Prod.fst).trans e).trans (sp.map Prod.snd).symm
  rw [List.map_append, List.map_append] at h1
  have h2 := h1.map (hm P)
  rw [List.map_append, List.map_append, List.map_map, List.map_map, List.map_map, List.map_map] at h2
  have d : (ls.filter fun l => !nb P l).map (hm P ∘ Prod.fst) = (ls.filter fun l => !nb P l).map (hm P ∘ Prod.snd) := List.map_congr_left fun l hl => by
    have q := (List.mem_filter.mp hl).2
    unfold nb at q
    rw [Bool.not_not, Bool.and_eq_true, List.contains_iff_mem, List.contains_iff_mem] at q
    exact hm_const q.1 q.2
  rw [d] at h2
  have h3 := (List.perm_append_right_iff _).mp h2
  rw [List.map_map, List.map_map]
  exact h3
theorem cross {N : Nat} {ls : List Lf} {P : List Int} (b : Book N ls) (h : IsLot N P) (hne : P ≠ []) (hl : P.length < N) : ∃ l ∈ ls, l.1 ∈ P ∧ l.2 ∉ P := by
  have e := ev_sur.mpr b.even
  -- some leaf crosses
  have c1 : ∃ l ∈ ls, ¬ (l.1 ∈ P ↔ l.2 ∈ P) := by
    refine Classical.byContradiction fun hn => ?_
    have st : ∀ l ∈ ls, (l.1 ∈ P ↔ l.2 ∈ P) := fun l hl => Classical.byContradiction fun z => hn ⟨l, hl, z⟩
    have all : ∀ w, Rch ls 0 w → ((0 : Int) ∈ P ↔ w ∈ P) := fun w r => by
      induction r with
      | refl => exact Iff.rfl
      | fwd hl _ ih => exact ih.trans (st _ hl)
      | bwd hl _ ih => exact ih.trans (st _ hl).symm
    have hh := h.2 _ (head_mem hne)
    have z0 : (0 : Int) ∈ P := (all _ (b.conn _ hh.1 hh.2)).mpr (head_mem hne)
    have := (asc_nd (rngI_lot N).1).length_le_of_subset (l₂ := P) fun w hw => by
      have hw := rngI_mem.mp hw
      exact (all w (b.conn w hw.1 hw.2)).mp z0
    rw [rngI_len] at this
    omega
  obtain ⟨l, hl, hc⟩ := c1
  by_cases h1 : l.1 ∈ P
  · exact ⟨l, hl, h1, fun h2 => hc ⟨fun _ => h2, fun _ => h1⟩⟩
  · have h2 : l.2 ∈ P := Classical.byContradiction fun z => hc ⟨fun y => absurd y h1, fun y => absurd y z⟩
    -- as many go in as out
    have g := ent_lea ls P
    have cc : ls.countP (fun l => P.contains l.2) = ls.countP (fun l => P.contains l.1) := by
      have := e.countP_eq fun w => P.contains w
      rw [List.countP_map, List.countP_map] at this
      exact this.symm
    rw [cc] at g
    have pos : 0 < ls.countP (com P) := List.countP_pos_iff.mpr ⟨l, hl, by
      unfold com
      rw [List.contains_iff_mem.mpr h2, show P.contains l.1 = false by simpa using h1]
      rfl⟩
    have pos2 : 0 < ls.countP (gon P) := by omega
    obtain ⟨m, hm, gm⟩ := List.countP_pos_iff.mp pos2
    unfold gon at gm
    rw [Bool.and_eq_true, Bool.not_eq_true', List.contains_iff_mem] at gm
    exact ⟨m, hm, gm.1, by simpa using gm.2⟩
theorem put_rch {N : Nat} {ls : List Lf} {P : List Int} {s w : Int} (r : Rch ls s w) : Rch (put P ls) (hm P s) (hm P w) := r.over (f := hm P) fun l hl => by
  cases q : nb P l with
  | true => exact .fwd (l := hlf P l) (by unfold put; exact List.mem_map.mpr ⟨l, List.mem_filter.mpr ⟨hl, q⟩, rfl⟩) .refl
  | false =>
    unfold nb at q
    rw [Bool.not_eq_false', Bool.and_eq_true, List.contains_iff_mem, List.contains_iff_mem] at q
    rw [hm_const q.1 q.2]
    exact .refl
theorem Book.putt {N : Nat} {ls : List Lf} {P : List Int} (b : Book N ls) (h : IsLot N P) (hne : P ≠ []) (hl : P.length < N) : Book (N - P.length + 1) (put P ls) := by
  have pl := put_len P ls
  have bl := b.len
  have ra := rk_all h hne
  have h0 : hm P 0 = 0 := by
    rw [hm_rp]
    have : (rp P 0).toNat = 0 := by
      unfold rp
      split
      · rename_i c
        have := head_le h (List.contains_iff_mem.mp c)
        omega
      · rfl
    rw [this]
    rfl
  have onto : ∀ y : Int, 0 ≤ y → y < ((N - P.length + 1 : Nat) : Int) → ∃ u : Int, (0 ≤ u ∧ u < (N : Int)) ∧ hm P u = y ∧ (u ∈ P → u = P.headD 0) := fun y y0 y1 => by
    obtain ⟨u, h1, h2, h3⟩ := rk_onto P N y.toNat (by rw [ra]; omega)
    refine ⟨(u : Int), ⟨by omega, by omega⟩, ?_, fun z => ?_⟩
    · rw [hm_kp h2, h3]; omega
    · unfold kp at h2
      rw [List.contains_iff_mem.mpr z] at h2
      simpa using h2
  refine ⟨put_pile b.pile h hne, by omega, by omega, ev_sur.mp (put_ev (ev_sur.mpr b.even)), fun y y0 y1 => ?_, fun y y0 y1 => ?_⟩
  · obtain ⟨u, hu, eu, hk⟩ := onto y y0 y1
    by_cases c : u ∈ P
    · obtain ⟨l, hl, l1, l2⟩ := cross b h hne hl
      refine ⟨hlf P l, ?_, by show hm P l.1 = y; rw [hm_const l1 c, eu]⟩
      unfold put
      refine List.mem_map.mpr ⟨l, List.mem_filter.mpr ⟨hl, ?_⟩, rfl⟩
      unfold nb
      rw [show P.contains l.2 = false by simpa using l2, Bool.and_false]
      rfl
    · obtain ⟨l, hl, e⟩ := b.full u hu.1 hu.2
      refine ⟨hlf P l, ?_, by show hm P l.1 = y; rw [e, eu]⟩
      unfold put
      refine List.mem_map.mpr ⟨l, List.mem_filter.mpr ⟨hl, ?_⟩, rfl⟩
      unfold nb
      rw [e, show P.contains u = false by simpa using c, Bool.false_and]
      rfl
  · obtain ⟨u, hu, eu, _⟩ := onto y y0 y1
    have := put_rch (N := N) (P := P) (b.conn u hu.1 hu.2)
    rw [h0, eu] at this
    exact this
/-! rings -/
theorem lvs_ev {W : List Int} (hW : W ≠ []) : Ev (lvs W) := by
  unfold Ev lvs
  rw [List.map_map, List.map_map]
  cases W with
  | nil => exact absurd rfl hW
  | cons a T =>
    have e1 : (List.range (a :: T).length).map (Prod.fst ∘ fun k => ((a :: T).getD k 0, (a :: T).getD ((k + 1) % (a :: T).length) 0)) = a :: T := by
      refine List.ext_getElem (by simp) fun i h1 h2 => ?_
      rw [List.getElem_map, List.getElem_range]
      show (a :: T).getD i 0 = _
      rw [List.getD_eq_getElem?_getD, List.getElem?_eq_getElem h2]
      rfl
    have e2 : (List.range (a :: T).length).map (Prod.snd ∘ fun k => ((a :: T).getD k 0, (a :: T).getD ((k + 1) % (a :: T).length) 0)) = T ++ [a] := by
      rw [List.length_cons, List.range_succ, List.map_append]
      congr 1
      · refine List.ext_getElem (by simp) fun i h1 h2 => ?_
        rw [List.getElem_map, List.getElem_range]
        show (a :: T).getD ((i + 1) % (T.length + 1)) 0 = _
        rw [Nat.mod_eq_of_lt (by omega)]
        simp [h2]
      · show [(a :: T).getD ((T.length + 1) % (T.length + 1)) 0] = [a]
        rw [Nat.mod_self]
        rfl
    rw [e1, e2]
    exact (List.perm_append_singleton a T).symm
theorem lvs_mem {W : List Int} {k : Nat} (hk : k < W.length) : (W.getD k 0, W.getD ((k + 1) % W.length) 0) ∈ lvs W := by
  unfold lvs
  exact List.mem_map.mpr ⟨k, List.mem_range.mpr hk, rfl⟩
theorem ring_book {N : Nat} {W : List Int} {ls : List Lf} (hp : ls.Perm (lvs W)) (hW : IsW N W) (ha : ∀ i : Nat, i < N → (i : Int) ∈ W) (h1 : 1 ≤ N) (hl : W.length ≤ 10000) : Book N ls := by
  have hne : W ≠ [] := fun z => by have := ha 0 h1; rw [z] at this; cases this
  have e := lvs_ev hne
  have ll : ls.length = W.length := by rw [hp.length_eq]; simp [lvs]
  have at_ : ∀ w : Int, 0 ≤ w → w < N → ∃ k, k < W.length ∧ W.getD k 0 = w := fun w h0 h1 => by
    have hm := ha w.toNat (by omega)
    rw [Int.toNat_of_nonneg h0] at hm
    obtain ⟨k, hk, e⟩ := List.mem_iff_getElem.mp hm
    exact ⟨k, hk, by simp [hk, e]⟩
  have path : ∀ k, k < W.length → Rch ls (W.getD 0 0) (W.getD k 0) := fun k => by
    induction k with
    | zero => intro _; exact .refl
    | succ k ih =>
      intro hk
      have m : (W.getD k 0, W.getD ((k + 1) % W.length) 0) ∈ ls := hp.mem_iff.mpr (lvs_mem (by omega))
      rw [Nat.mod_eq_of_lt hk] at m
      exact .fwd m (ih (by omega))
  refine ⟨⟨by omega, fun l hl => (lvs_in hW l (hp.mem_iff.mp hl)).1, fun l hl => (lvs_in hW l (hp.mem_iff.mp hl)).2⟩, by omega, h1, ev_sur.mp ?_, fun w h0 h2 => ?_, fun w h0 h2 => ?_⟩
  · unfold Ev at e ⊢
    exact ((hp.map _).trans e).trans (hp.map _).symm
  · obtain ⟨k, hk, ek⟩ := at_ w h0 h2
    exact ⟨_, hp.mem_iff.mpr (lvs_mem hk), ek⟩
  · obtain ⟨k, hk, ek⟩ := at_ w h0 h2
    obtain ⟨j, hj, ej⟩ := at_ 0 (by omega) (by omega)
    have r1 := path k hk
    have r2 := path j hj
    rw [ek] at r1
    rw [ej] at r2
    exact r2.symm.trans r1
end LawK04

set_option linter.all false
set_option maxRecDepth 10000
namespace LawK04
open PySem Pv
/-! k04: the law's books -/
def Good (d : D) : Prop := ∃ (M : Nat) (xs : List Lf), d = pileD M xs ∧ Book M xs ∧ M ≤ 900
theorem good_heap {d : D} (g : Good d) : f_is_heap [d] = some (.bool true, [d]) ∧ f_is_book [d] = some (.bool true, [d]) := by
  obtain ⟨M, xs, rfl, b, h⟩ := g
  exact ⟨f_heap b.one b.pile, f_book b (by omega)⟩
theorem app_of {δ : List D} {i : Nat} {f : EF} {d : D} {ds : List D} (hf : f δ = some d) (h : δ[i]? = some (.list ds)) (hl : ds.length ≤ 100000) : sDrop (xApp i (mOf f)) δ = some (.nx (δ.set i (.list (ds ++ [d])))) := by
  have sz := size_le
  exact drop_e (d := .none) (app_e hf h (by omega))
theorem all_app {p : D → Prop} {ds : List D} {d : D} (h : ∀ x ∈ ds, p x) (hd : p d) : ∀ x ∈ ds ++ [d], p x := fun x hx => by
  rcases List.mem_append.mp hx with q | q
  · exact h x q
  · have : x = d := by simpa using q
    rw [this]; exact hd
theorem f_books {N M : Nat} {ls es : List Lf} {s : Int} {P : List Int} (b : Book N ls) (c : Book M es) (hN : N ≤ 400) (hM : M ≤ 400) (h1 : ls.length ≤ 400) (h2 : es.length ≤ 400) (s0 : 0 ≤ s) (s1 : s < N) (hP : IsLot N P) :
    f__law_books [pileD N ls, pileD M es, .int s, lotD P] = some (.bool true, [pileD N ls, pileD M es, .int s, lotD P]) := by
  have sz := size_le
  have bo := b.one
  have co := c.one
  have i00 : ∀ r : List D, x2 dIx (xV 0) (xK (.int 0)) (pileD N ls :: r) = some (.int N) := fun r => by rw [x2_of (d := pileD N ls) (e := .int 0) rfl rfl, dIx_pile0]
  have ln : ∀ r : List D, xL oLen (xCons (x2 dIx (xV 0) (xK (.int 1))) xNil) (pileD N ls :: r) = some (.int ((ls.length : Nat) : Int)) := fun r => by rw [xL1 (d := leavesD ls) (by rw [x2_of (d := pileD N ls) (e := .int 1) rfl rfl, dIx_pile1])]; exact dLen_leaves ls
  obtain ⟨δ0, e0⟩ : ∃ δ : List D, δ = [pileD N ls, pileD M es, .int s, lotD P, .none, .none, .none] := ⟨_, rfl⟩
  have m1 : xCall f_backwards (xCons (xV 0) xNil) δ0 = some (pileD N (ls.map sw)) := by subst e0; exact call1 rfl (f_backwards_e (by omega))
  have m2 : xCall f_hung (xCons (xV 0) (xCons (xV 2) xNil)) δ0 = some (pileD N (ls ++ [(s, s)])) := by subst e0; exact call2 rfl rfl (f_hung_e s0 s1 (by omega))
  have eT : (N : Int) + (M : Nat) - 1 = ((N + M - 1 : Nat) : Int) := by omega
  have m3 : xCall f_joined (xCons (xV 0) (xCons (xV 1) xNil)) δ0 = some (pileD ((N + M - 1 : Nat) : Int) (ls ++ es.map (ml N))) := by
    subst e0
    have f := f_joined_e (N := N) (ls := ls) co c.pile (by omega) (by omega)
    rw [eT] at f
    exact call2 rfl rfl f
  have m4 : xCall f_dealt (xCons (xV 0) (xCons (xL oTup (xCons (x1 oLstRng (xL oLen (xCons (x2 dIx (xV 0) (xK (.int 1))) xNil))) xNil)) xNil)) δ0 = some (pileD N ls) := by
    subst e0
    have o : Ord ls.length (rngI ls.length) := ⟨.refl _⟩
    have f := f_dealt_e (n := N) o (by omega)
    have eq : dl ls (rngI ls.length) = ls := gl_tab ls
    rw [eq] at f
    exact call2 rfl (tpl (by rw [x1_of (ln _), lst_rng (by omega), rngD_I])) f
  have g1 : ∀ d ∈ [pileD N (ls.map sw), pileD N (ls ++ [(s, s)]), pileD ((N + M - 1 : Nat) : Int) (ls ++ es.map (ml N)), pileD N ls], Good d := fun d hd => by
    simp only [List.mem_cons, List.not_mem_nil, or_false] at hd
    rcases hd with e | e | e | e
    · exact ⟨N, _, e, b.sw, by omega⟩
    · exact ⟨N, _, e, b.hung (by omega) s0 s1, by omega⟩
    · exact ⟨N + M - 1, _, e, b.join c (by omega) (by omega), by omega⟩
    · exact ⟨N, _, e, b, by omega⟩
  have u1 : xL mkLst (xCons (xCall f_backwards (xCons (xV 0) xNil)) (xCons (xCall f_hung (xCons (xV 0) (xCons (xV 2) xNil))) (xCons (xCall f_joined (xCons (xV 0) (xCons (xV 1) xNil))) (xCons (xCall f_dealt (xCons (xV 0) (xCons (xL oTup (xCons (x1 oLstRng (xL oLen (xCons (x2 dIx (xV 0) (xK (.int 1))) xNil))) xNil)) xNil))) xNil)))) δ0 = some (.list [pileD N (ls.map sw), pileD N (ls ++ [(s, s)]), pileD ((N + M - 1 : Nat) : Int) (ls ++ es.map (ml N)), pileD N ls]) := by
    rw [xL_e, xCons_e, m1, Option.bind_some, xCons_e, m2, Option.bind_some, xCons_e, m3, Option.bind_some, xCons_e, m4, Option.bind_some, xNil_e, Option.bind_some]
    exact lst4 _ _ _ _
  obtain ⟨δ1, l1, ds, a, ed, dl1, dg⟩ := for_rng (i := 5) (n := ls.length) (f := xCons (xL oLen (xCons (x2 dIx (xV 0) (xK (.int 1))) xNil)) xNil) (b := sDrop (xApp 4 (mOf (xCall f_parted (xCons (xV 0) (xCons (xV 5) xNil)))))) (δ := [pileD N ls, pileD M es, .int s, lotD P, .list [pileD N (ls.map sw), pileD N (ls ++ [(s, s)]), pileD ((N + M - 1 : Nat) : Int) (ls ++ es.map (ml N)), pileD N ls], .none, .none])
    (fun j δ => ∃ ds a, δ = [pileD N ls, pileD M es, .int s, lotD P, .list ds, a, .none] ∧ ds.length ≤ 4 + j ∧ ∀ d ∈ ds, Good d) (by rw [xCons_e, ln]; rfl) (by omega) ⟨_, _, rfl, by simp, g1⟩ fun j δ hj ⟨ds, a, e, h3, h4⟩ => by
      subst e
      have hk := List.getElem?_eq_getElem hj
      have m : xCall f_parted (xCons (xV 0) (xCons (xV 5) xNil)) [pileD N ls, pileD M es, .int s, lotD P, .list ds, .int j, .none] = some (pileD ((N + 1 : Nat) : Int) (prt N ls j ls[j])) := call2 rfl rfl (f_parted_e hk (by omega))
      refine ⟨[pileD N ls, pileD M es, .int s, lotD P, .list (ds ++ [pileD ((N + 1 : Nat) : Int) (prt N ls j ls[j])]), .int j, .none], app_of (i := 4) m rfl (by omega), _, _, rfl, by rw [List.length_append]; simp; omega, all_app h4 ⟨N + 1, _, rfl, b.part (by omega) hk, by omega⟩⟩
  subst ed
  have u2 : ∃ ds2 : List D, sIf (bAnd (bE (x2 dGt (xL oLen (xCons (xV 3) xNil)) (xK (.int 0)))) (bE (x2 dLt (xL oLen (xCons (xV 3) xNil)) (x2 dIx (xV 0) (xK (.int 0)))))) (sDrop (xApp 4 (mOf (xCall f_put_together (xCons (xV 0) (xCons (xV 3) xNil)))))) sNil [pileD N ls, pileD M es, .int s, lotD P, .list ds, a, .none] = some (.nx [pileD N ls, pileD M es, .int s, lotD P, .list ds2, a, .none]) ∧ ∀ d ∈ ds2, Good d := by
    have q1 : bE (x2 dGt (xL oLen (xCons (xV 3) xNil)) (xK (.int 0))) [pileD N ls, pileD M es, .int s, lotD P, .list ds, a, .none] = some (decide ((0 : Int) < (P.length : Nat))) := bE_of (by rw [x2_of (len_lot (P := P) rfl) rfl, dGt_e])
    have q2 : bE (x2 dLt (xL oLen (xCons (xV 3) xNil)) (x2 dIx (xV 0) (xK (.int 0)))) [pileD N ls, pileD M es, .int s, lotD P, .list ds, a, .none] = some (decide (((P.length : Nat) : Int) < N)) := bE_of (by rw [x2_of (len_lot (P := P) rfl) (i00 _), dLt_e])
    cases r1 : decide ((0 : Int) < (P.length : Nat)) with
    | false => rw [r1] at q1; exact ⟨ds, by rw [if_f (and_f q1)]; rfl, dg⟩
    | true =>
      rw [r1] at q1
      cases r2 : decide (((P.length : Nat) : Int) < N) with
      | false => rw [r2] at q2; exact ⟨ds, by rw [if_f (and_t q1 q2)]; rfl, dg⟩
      | true =>
        rw [r2] at q2
        have a1 := of_decide_eq_true r1
        have a2 := of_decide_eq_true r2
        have hne : P ≠ [] := fun z => by rw [z] at a1; exact absurd a1 (by decide)
        have f := f_put_e b.pile hP hne (by omega) (by omega)
        have eS : (N : Int) - (P.length : Nat) + 1 = ((N - P.length + 1 : Nat) : Int) := by omega
        rw [eS] at f
        have m : xCall f_put_together (xCons (xV 0) (xCons (xV 3) xNil)) [pileD N ls, pileD M es, .int s, lotD P, .list ds, a, .none] = some (pileD ((N - P.length + 1 : Nat) : Int) (put P ls)) := call2 rfl rfl f
        exact ⟨ds ++ [pileD ((N - P.length + 1 : Nat) : Int) (put P ls)], by rw [if_t (and_t q1 q2)]; exact app_of (i := 4) m rfl (by omega), all_app dg ⟨_, _, rfl, b.putt hP hne (by omega), by omega⟩⟩
  obtain ⟨ds2, u2, g2⟩ := u2
  obtain ⟨δ3, l3, z, e3⟩ := forL_inv (tg := gSet 6) (b := sIf (bOr (bE (x2 dNotB (xCall f_is_heap (xCons (xV 6) xNil)) (xK (.bool true)))) (bE (x2 dNotB (xCall f_is_book (xCons (xV 6) xNil)) (xK (.bool true))))) (sRet (xK (.bool false))) sNil) (fun _ δ => ∃ z, δ = [pileD N ls, pileD M es, .int s, lotD P, .list ds2, a, z]) ds2 0 [pileD N ls, pileD M es, .int s, lotD P, .list ds2, a, .none] ⟨_, rfl⟩ fun j d δ hd ⟨z, e⟩ => by
    subst e
    obtain ⟨k1, k2⟩ := good_heap (g2 d (List.mem_of_getElem? hd))
    refine ⟨_, [pileD N ls, pileD M es, .int s, lotD P, .list ds2, a, d], rfl, ?_, _, rfl⟩
    have c1 : bE (x2 dNotB (xCall f_is_heap (xCons (xV 6) xNil)) (xK (.bool true))) [pileD N ls, pileD M es, .int s, lotD P, .list ds2, a, d] = some false := bE_of (by rw [x2_of (call1 (a := d) rfl k1) rfl]; rfl)
    have c2 : bE (x2 dNotB (xCall f_is_book (xCons (xV 6) xNil)) (xK (.bool true))) [pileD N ls, pileD M es, .int s, lotD P, .list ds2, a, d] = some false := bE_of (by rw [x2_of (call1 (a := d) rfl k2) rfl]; rfl)
    show sIf _ _ _ [pileD N ls, pileD M es, .int s, lotD P, .list ds2, a, d] = _
    rw [if_f (or_f c1 c2)]
    rfl
  subst e3
  have l3' : sFor (lSeq (xV 4)) (gSet 6) (sIf (bOr (bE (x2 dNotB (xCall f_is_heap (xCons (xV 6) xNil)) (xK (.bool true)))) (bE (x2 dNotB (xCall f_is_book (xCons (xV 6) xNil)) (xK (.bool true))))) (sRet (xK (.bool false))) sNil) [pileD N ls, pileD M es, .int s, lotD P, .list ds2, a, .none] = some (.nx [pileD N ls, pileD M es, .int s, lotD P, .list ds2, a, z]) := l3
  refine fn_rt (δ' := [pileD N ls, pileD M es, .int s, lotD P, .list ds2, a, z]) ?_ rfl
  show g__law_books [pileD N ls, pileD M es, .int s, lotD P, .none, .none, .none] = _
  unfold g__law_books
  rw [← e0, set_of u1, e0]
  show sSeq _ _ [pileD N ls, pileD M es, .int s, lotD P, .list [pileD N (ls.map sw), pileD N (ls ++ [(s, s)]), pileD ((N + M - 1 : Nat) : Int) (ls ++ es.map (ml N)), pileD N ls], .none, .none] = _
  rw [sSeq_nx l1, sSeq_nx u2, sSeq_nx l3']
  rfl
end LawK04

set_option linter.all false
set_option maxRecDepth 10000
namespace LawK04
open PySem Pv
/-! k04: what is drawn, and the law -/
theorem pairM {m q : EM} {δ δ1 δ2 : List D} {a b : D} (h1 : m δ = some (a, δ1)) (h2 : q δ1 = some (b, δ2)) : xLM mkTup (xmCons m (xmCons q xmNil)) δ = some (.tuple [a, b], δ2) := by
  rw [xLM_e, xmCons_e, h1, Option.bind_some, xmCons_e, h2, Option.bind_some, xmNil_e, Option.bind_some, Option.bind_some, Option.bind_some, tup2]
  rfl
theorem retM {m : EM} {δ δ' : List D} {d : D} (h : m δ = some (d, δ')) : sRetM m δ = some (.rt d δ') := by rw [sRetM_e, h]; rfl
theorem pair_pk {δ : List D} {cs : List Int} {N : Nat} {j : Nat} (h0 : δ[0]? = some (cellsD cs)) (hj : δ[j]? = some (.int N)) (j0 : j ≠ 0) (hN : 0 < N) : ∃ (l : Lf) (cs' : List Int), xLM mkTup (xmCons (pk 0 (xV j)) (xmCons (pk 0 (xV j)) xmNil)) δ = some (leafD l, δ.set 0 (cellsD cs')) ∧ (0 ≤ l.1 ∧ l.1 < N) ∧ 0 ≤ l.2 ∧ l.2 < (N : Int) := by
  obtain ⟨p, cs1, e1, p0, p1⟩ := pk_e (i := 0) (f := xV j) h0 hj (by omega : (0 : Int) < N)
  have hi : 0 < δ.length := (List.getElem?_eq_some_iff.mp h0).1
  obtain ⟨q, cs2, e2, q0, q1⟩ := pk_e (i := 0) (f := xV j) (δ := δ.set 0 (cellsD cs1)) (cs := cs1) (m := N) (List.getElem?_set_self hi) (by rw [xV_e, List.getElem?_set_ne (fun z => j0 z.symm)]; exact hj) (by omega)
  refine ⟨(p, q), cs2, ?_, ⟨p0, p1⟩, q0, q1⟩
  rw [xLM_e, xmCons_e, e1, Option.bind_some, xmCons_e, e2, Option.bind_some, xmNil_e, Option.bind_some, Option.bind_some, Option.bind_some, tup2, List.set_set]
  rfl
theorem cmp_pairs {N : Nat} (hN : 0 < N) (kd E C : D) : ∀ (ds : List D) (cs : List Int) (a : D), ∃ (ls : List Lf) (cs' : List Int) (a' : D), cmpM (gSet 5) (bMOf bYes) (xLM mkTup (xmCons (pk 0 (xV 2)) (xmCons (pk 0 (xV 2)) xmNil))) ds [cellsD cs, kd, .int N, E, C, a] = some (ls.map leafD, [cellsD cs', kd, .int N, E, C, a']) ∧ ls.length = ds.length ∧ ∀ l ∈ ls, (0 ≤ l.1 ∧ l.1 < (N : Int)) ∧ 0 ≤ l.2 ∧ l.2 < (N : Int)
  | [], cs, a => ⟨[], cs, a, rfl, rfl, fun _ h => nomatch h⟩
  | d :: ds, cs, a => by
    obtain ⟨l, cs1, e1, h1⟩ := pair_pk (δ := [cellsD cs, kd, .int N, E, C, d]) (j := 2) rfl rfl (by decide) hN
    obtain ⟨ls, cs', a', e2, h2, h3⟩ := cmp_pairs hN kd E C ds cs1 d
    refine ⟨l :: ls, cs', a', cmpM_cons (δ1 := [cellsD cs, kd, .int N, E, C, d]) (δ2 := [cellsD cs1, kd, .int N, E, C, d]) rfl rfl e1 e2, by simp [h2], fun m hm => ?_⟩
    rcases List.mem_cons.mp hm with e | e
    · rw [e]; exact h1
    · exact h3 m e
theorem f_heap_drawn {N : Nat} (cs : List Int) (kd : Int) (h1 : 1 ≤ N) (h2 : N ≤ 100) : ∃ (ls : List Lf) (cs' : List Int), f__law_heap [cellsD cs, .int kd, .int N] = some (pileD N ls, [cellsD cs', .int kd, .int N]) ∧ IsPile N ls ∧ ls.length ≤ 200 ∧ (kd ≠ 0 → Book N ls) := by
  have sz := size_le
  obtain ⟨p, cs1, e1, p0, p1⟩ := pk_e (i := 0) (f := xK (.int 6)) (δ := [cellsD cs, .int kd, .int N, .none, .none, .none]) (cs := cs) (m := 6) rfl rfl (by omega)
  obtain ⟨E, rfl⟩ := Int.eq_ofNat_of_zero_le p0
  have u1 : sSetM 3 (pk 0 (xK (.int 6))) [cellsD cs, .int kd, .int N, .none, .none, .none] = some (.nx [cellsD cs1, .int kd, .int N, .int (E : Nat), .none, .none]) := by
    rw [sSetM_e, e1]
    rfl
  by_cases hk : kd = 0
  · obtain ⟨q, cs2, e2, q0, q1⟩ := pk_e (i := 0) (f := xK (.int 9)) (δ := [cellsD cs1, .int kd, .int N, .int (E : Nat), .none, .none]) (cs := cs1) (m := 9) rfl rfl (by omega)
    obtain ⟨Q, rfl⟩ := Int.eq_ofNat_of_zero_le q0
    have c : bE (x2 dEq (xV 1) (xK (.int 0))) [cellsD cs1, .int kd, .int N, .int (E : Nat), .none, .none] = some true := bE_of (by rw [x2_of (d := .int kd) (e := .int 0) rfl rfl, dEq_e, hk]; rfl)
    have u2 : sSetM 4 (x2M dAdd (pk 0 (xK (.int 9))) (mOf (xV 3))) [cellsD cs1, .int kd, .int N, .int (E : Nat), .none, .none] = some (.nx [cellsD cs2, .int kd, .int N, .int (E : Nat), .int ((Q + E : Nat) : Int), .none]) := by
      rw [sSetM_e, x2M_e, e2]
      rfl
    obtain ⟨ls, cs3, a, e3, l3, b3⟩ := cmp_pairs (N := N) (by omega) (.int kd) (.int (E : Nat)) (.int ((Q + E : Nat) : Int)) (rngD 0 (Q + E)) cs2 .none
    rw [rng_len] at l3
    have u3 : xCmpM (lmOf (lOf rng1 (xCons (xV 4) xNil))) (gSet 5) (bMOf bYes) (xLM mkTup (xmCons (pk 0 (xV 2)) (xmCons (pk 0 (xV 2)) xmNil))) [cellsD cs2, .int kd, .int N, .int (E : Nat), .int ((Q + E : Nat) : Int), .none] = some (.list (ls.map leafD), [cellsD cs3, .int kd, .int N, .int (E : Nat), .int ((Q + E : Nat) : Int), a]) := by
      have r := rng_of (n := Q + E) (δ := [cellsD cs2, .int kd, .int N, .int (E : Nat), .int ((Q + E : Nat) : Int), .none]) (f := xCons (xV 4) xNil) rfl (by omega)
      rw [xCmpM_e, lmOf_e, r, Option.map_some, Option.bind_some, if_pos (by rw [rng_len]; omega), e3]
      rfl
    have u4 : sRetM (xLM mkTup (xmCons (mOf (xV 2)) (xmCons (xLM oTup (xmCons (xCmpM (lmOf (lOf rng1 (xCons (xV 4) xNil))) (gSet 5) (bMOf bYes) (xLM mkTup (xmCons (pk 0 (xV 2)) (xmCons (pk 0 (xV 2)) xmNil)))) xmNil)) xmNil))) [cellsD cs2, .int kd, .int N, .int (E : Nat), .int ((Q + E : Nat) : Int), .none] = some (.rt (pileD N ls) [cellsD cs3, .int kd, .int N, .int (E : Nat), .int ((Q + E : Nat) : Int), a]) := by
      have w : xLM oTup (xmCons (xCmpM (lmOf (lOf rng1 (xCons (xV 4) xNil))) (gSet 5) (bMOf bYes) (xLM mkTup (xmCons (pk 0 (xV 2)) (xmCons (pk 0 (xV 2)) xmNil)))) xmNil) [cellsD cs2, .int kd, .int N, .int (E : Nat), .int ((Q + E : Nat) : Int), .none] = some (leavesD ls, [cellsD cs3, .int kd, .int N, .int (E : Nat), .int ((Q + E : Nat) : Int), a]) := by
        rw [xLM_e, xmCons_e, u3]
        rfl
      exact retM (pairM (a := .int N) rfl w)
    refine ⟨ls, cs3, ?_, ⟨by omega, fun l hl => (b3 l hl).1, fun l hl => (b3 l hl).2⟩, by omega, fun z => absurd hk z⟩
    unfold pk at u1 u2 u4
    unfold f__law_heap
    rw [fnF_e]
    show (g__law_heap [cellsD cs, .int kd, .int N, .none, .none, .none]).bind _ = _
    unfold g__law_heap
    rw [sSeq_nx u1, sSeq_rt (d := pileD N ls) (δ' := [cellsD cs3, .int kd, .int N, .int (E : Nat), .int ((Q + E : Nat) : Int), a]) (by rw [if_t c, sSeq_nx u2]; exact u4)]
    rfl
  · have c : bE (x2 dEq (xV 1) (xK (.int 0))) [cellsD cs1, .int kd, .int N, .int (E : Nat), .none, .none] = some false := bE_of (by rw [x2_of (d := .int kd) (e := .int 0) rfl rfl, dEq_e, beq_eq_false_iff_ne.mpr hk])
    obtain ⟨W, ls, cs2, e2, r1, r2, r3, r4⟩ := f_ring (N := N) (E := E) cs1 h1 (by omega) (by omega)
    have bk := ring_book r1 r2 r3 h1 (by omega)
    have ll : ls.length ≤ 200 := by rw [r1.length_eq]; simp [lvs]; omega
    have u4 : sRetM (xLM mkTup (xmCons (mOf (xV 2)) (xmCons (xLM oTup (xmCons (xCallM [some 0, none, none] f__law_ring (xmCons (xMov 0) (xmCons (mOf (xV 2)) (xmCons (mOf (xV 3)) xmNil)))) xmNil)) xmNil))) [cellsD cs1, .int kd, .int N, .int (E : Nat), .none, .none] = some (.rt (pileD N ls) [cellsD cs2, .int kd, .int N, .int (E : Nat), .none, .none]) := by
      have w0 := callM2 (i := 0) (f := xV 2) (f2 := xV 3) (δ := [cellsD cs1, .int kd, .int N, .int (E : Nat), .none, .none]) rfl rfl rfl e2
      have w : xLM oTup (xmCons (xCallM [some 0, none, none] f__law_ring (xmCons (xMov 0) (xmCons (mOf (xV 2)) (xmCons (mOf (xV 3)) xmNil)))) xmNil) [cellsD cs1, .int kd, .int N, .int (E : Nat), .none, .none] = some (leavesD ls, [cellsD cs2, .int kd, .int N, .int (E : Nat), .none, .none]) := by
        rw [xLM_e, xmCons_e, w0]
        rfl
      exact retM (pairM (a := .int N) rfl w)
    refine ⟨ls, cs2, ?_, bk.pile, ll, fun _ => bk⟩
    unfold pk at u1
    unfold f__law_heap
    rw [fnF_e]
    show (g__law_heap [cellsD cs, .int kd, .int N, .none, .none, .none]).bind _ = _
    unfold g__law_heap
    rw [sSeq_nx u1, sSeq_nx (δ' := [cellsD cs1, .int kd, .int N, .int (E : Nat), .none, .none]) (by rw [if_f c]; rfl), u4]
    rfl
/-- an order drawn -/
theorem order_e {i : Nat} {f : EF} {δ : List D} {cs : List Int} {n : Nat} (h : δ[i]? = some (cellsD cs)) (hf : f δ = some (.list (rngD 0 n))) (hn : n ≤ 1000) : ∃ (nm : List Int) (cs' : List Int), xLM oTup (xmCons (xCallM [some i, none] f__law_dealt (xmCons (xMov i) (xmCons (mOf f) xmNil))) xmNil) δ = some (lotD nm, δ.set i (cellsD cs')) ∧ Ord n nm := by
  obtain ⟨out, cs', e, p⟩ := l_dealt cs (rngD 0 n) (by rw [rng_len]; omega)
  obtain ⟨nm, eo, pn⟩ := perm_back (f := PyData.int) (L := rngI n) p (rngD_I n)
  subst eo
  refine ⟨nm, cs', ?_, ⟨pn⟩⟩
  rw [xLM_e, xmCons_e, callM1 h hf e]
  rfl
/-- words drawn, ascending -/
theorem sub_pk {δ0 : List D → List D} {k m t : Int} (hm : 0 < m) (F : List Int → D → List D) (h1 : ∀ cs a, (F cs a)[1]? = some (cellsD cs)) (h2 : ∀ cs a cs', (F cs a).set 1 (cellsD cs') = F cs' a) (h3 : ∀ cs a b, (F cs a).set 12 b = F cs b) (h4 : ∀ cs a, (F cs a)[12]? = some a) :
    ∀ (ws : List Int) (cs : List Int) (a : D), ∃ (vs : List Int) (cs' : List Int) (a' : D), cmpM (gSet 12) (bME (x2M dGt (pk 1 (xK (.int m))) (mOf (xK (.int t))))) (mOf (xV 12)) (ws.map .int) (F cs a) = some (vs.map .int, F cs' a') ∧ vs.Sublist ws
  | [], cs, a => ⟨[], cs, a, rfl, .slnil⟩
  | w :: ws, cs, a => by
    obtain ⟨p, cs1, e1, _, _⟩ := pk_e (i := 1) (f := xK (.int m)) (δ := F cs (.int w)) (h1 cs (.int w)) rfl hm
    rw [h2] at e1
    obtain ⟨vs, cs', a', e2, s2⟩ := sub_pk (δ0 := δ0) (k := k) hm F h1 h2 h3 h4 ws cs1 (.int w)
    have c : bME (x2M dGt (pk 1 (xK (.int m))) (mOf (xK (.int t)))) (F cs (.int w)) = some (decide (t < p), F cs1 (.int w)) := by
      rw [bME_e, x2M_e, e1]
      rfl
    rw [List.map_cons, cmpM, gSet_e, Option.bind_some, h3, c, Option.bind_some]
    cases decide (t < p) with
    | true =>
      refine ⟨w :: vs, cs', a', ?_, s2.cons₂ w⟩
      rw [if_pos rfl, mOf_e, xV_e, h4]
      show ((cmpM _ _ _ (ws.map PyData.int) (F cs1 (.int w))).bind fun r => some (PyData.int w :: r.1, r.2)) = _
      rw [e2]
      rfl
    | false =>
      refine ⟨vs, cs', a', ?_, s2.cons w⟩
      rw [if_neg Bool.false_ne_true]
      exact e2
theorem law_pure : ∀ ns : List Int, ns.length ≤ 63 → ∃ ds', f_law [.list (ns.map .int)] = some (.bool true, ds') := fun ns hn => by
  have sz := size_le
  obtain ⟨S, eS⟩ : ∃ S, S = PyData.list (ns.map .int) := ⟨_, rfl⟩
  obtain ⟨c0, e0⟩ := f_cells ns hn
  rw [← eS] at e0 ⊢
  have u1 : xCall f__law_cells (xCons (xV 0) (xCons (xK (.int 180)) xNil)) [S, .none, .none, .none, .none, .none, .none, .none, .none, .none, .none, .none, .none, .none] = some (cellsD c0) := call2 rfl rfl e0
  obtain ⟨p1, c1, e1, p10, p11⟩ := pkAdd (i := 1) (c := 1) (m := 5) (δ := [S, cellsD c0, .none, .none, .none, .none, .none, .none, .none, .none, .none, .none, .none, .none]) (cs := c0) rfl (by omega)
  have u2 : sSetM 2 (x2M dAdd (mOf (xK (.int 1))) (pk 1 (xK (.int 5)))) [S, cellsD c0, .none, .none, .none, .none, .none, .none, .none, .none, .none, .none, .none, .none] = some (.nx [S, cellsD c1, .int (1 + p1), .none, .none, .none, .none, .none, .none, .none, .none, .none, .none, .none]) := by
    rw [sSetM_e, e1]
    rfl
  obtain ⟨p2, c2, e2, h2⟩ := drawnIf (i := 1) (j := 2) (c := 3) (c2 := 6) (m := 8) (m2 := 4) (δ := [S, cellsD c1, .int (1 + p1), .none, .none, .none, .none, .none, .none, .none, .none, .none, .none, .none]) (cs := c1) (s := 1 + p1) rfl rfl (by decide) (by omega) (by omega)
  have b2 : 1 ≤ p2 ∧ p2 ≤ 9 := by omega
  obtain ⟨N, eN⟩ : ∃ N : Nat, p2 = (N : Int) := Int.eq_ofNat_of_zero_le (by omega)
  subst eN
  have u3 : sIfM (bME (x2M dEq (pk 1 (xK (.int 8))) (mOf (xK (.int 3))))) (sSetM 2 (x2M dAdd (mOf (xK (.int 6))) (pk 1 (xK (.int 4))))) sNil [S, cellsD c1, .int (1 + p1), .none, .none, .none, .none, .none, .none, .none, .none, .none, .none, .none] = some (.nx [S, cellsD c2, .int N, .none, .none, .none, .none, .none, .none, .none, .none, .none, .none, .none]) := e2
  obtain ⟨kd, c3, e3, k0, k1⟩ := pk_e (i := 1) (f := xK (.int 3)) (δ := [S, cellsD c2, .int N, .none, .none, .none, .none, .none, .none, .none, .none, .none, .none, .none]) (cs := c2) (m := 3) rfl rfl (by omega)
  have u4 : sSetM 3 (pk 1 (xK (.int 3))) [S, cellsD c2, .int N, .none, .none, .none, .none, .none, .none, .none, .none, .none, .none, .none] = some (.nx [S, cellsD c3, .int N, .int kd, .none, .none, .none, .none, .none, .none, .none, .none, .none, .none]) := by
    rw [sSetM_e, e3]
    rfl
  obtain ⟨ls, c4, e4, hp, hl, hb⟩ := f_heap_drawn (N := N) c3 kd (by omega) (by omega)
  have u5 : sSetM 4 (xCallM [some 1, none, none] f__law_heap (xmCons (xMov 1) (xmCons (mOf (xV 3)) (xmCons (mOf (xV 2)) xmNil)))) [S, cellsD c3, .int N, .int kd, .none, .none, .none, .none, .none, .none, .none, .none, .none, .none] = some (.nx [S, cellsD c4, .int N, .int kd, pileD N ls, .none, .none, .none, .none, .none, .none, .none, .none, .none]) := by
    rw [sSetM_e, callM2 (i := 1) (c := cellsD c3) (x := .int kd) (y := .int N) rfl rfl rfl e4]
    rfl
  -- the second heap
  obtain ⟨mi, emi⟩ : ∃ mi : Int, mi = if (11 - (N : Int)) < N then 11 - (N : Int) else N := ⟨_, rfl⟩
  have bmi : 1 ≤ mi ∧ mi ≤ 9 := by rw [emi]; split <;> omega
  have fm : xL oMin2 (xCons (xV 2) (xCons (x2 dSub (xK (.int 11)) (xV 2)) xNil)) [S, cellsD c4, .int N, .int kd, pileD N ls, .none, .none, .none, .none, .none, .none, .none, .none, .none] = some (.int mi) := by
    rw [xL2 (d := .int N) (e := .int (11 - (N : Int))) rfl (by rw [x2_of (d := .int 11) (e := .int N) rfl rfl, dSub_e]), emi]
    rfl
  obtain ⟨p5, c5, e5, p50, p51⟩ := pk_e (i := 1) (f := xL oMin2 (xCons (xV 2) (xCons (x2 dSub (xK (.int 11)) (xV 2)) xNil))) (δ := [S, cellsD c4, .int N, .int kd, pileD N ls, .none, .none, .none, .none, .none, .none, .none, .none, .none]) (cs := c4) (m := mi) rfl fm (by omega)
  obtain ⟨M, eM⟩ : ∃ M : Nat, 1 + p5 = (M : Int) := Int.eq_ofNat_of_zero_le (by omega)
  obtain ⟨es, c6, e6, hq, hm, hc⟩ := f_heap_drawn (N := M) c5 kd (by omega) (by omega)
  have u6 : sSetM 5 (xCallM [some 1, none, none] f__law_heap (xmIoL 1 (xmCons (mOf (xV 3)) (xmCons (x2M dAdd (mOf (xK (.int 1))) (pk 1 (xL oMin2 (xCons (xV 2) (xCons (x2 dSub (xK (.int 11)) (xV 2)) xNil))))) xmNil)))) [S, cellsD c4, .int N, .int kd, pileD N ls, .none, .none, .none, .none, .none, .none, .none, .none, .none] = some (.nx [S, cellsD c6, .int N, .int kd, pileD N ls, pileD M es, .none, .none, .none, .none, .none, .none, .none, .none]) := by
    have w : x2M dAdd (mOf (xK (.int 1))) (pk 1 (xL oMin2 (xCons (xV 2) (xCons (x2 dSub (xK (.int 11)) (xV 2)) xNil)))) [S, cellsD c4, .int N, .int kd, pileD N ls, .none, .none, .none, .none, .none, .none, .none, .none, .none] = some (.int M, [S, cellsD c5, .int N, .int kd, pileD N ls, .none, .none, .none, .none, .none, .none, .none, .none, .none]) := by
      rw [x2M_e, mOf_e, xK_e, Option.map_some, Option.bind_some, e5, Option.bind_some, dAdd_e, eM]
      rfl
    have w2 : xmIoL 1 (xmCons (mOf (xV 3)) (xmCons (x2M dAdd (mOf (xK (.int 1))) (pk 1 (xL oMin2 (xCons (xV 2) (xCons (x2 dSub (xK (.int 11)) (xV 2)) xNil))))) xmNil)) [S, cellsD c4, .int N, .int kd, pileD N ls, .none, .none, .none, .none, .none, .none, .none, .none, .none] = some ([cellsD c5, .int kd, .int M], [S, cellsD c5, .int N, .int kd, pileD N ls, .none, .none, .none, .none, .none, .none, .none, .none, .none]) := by
      rw [xmIoL_e, xmCons_e, mOf_e]
      show ((((xmCons (x2M dAdd (mOf (xK (.int 1))) (pk 1 (xL oMin2 (xCons (xV 2) (xCons (x2 dSub (xK (.int 11)) (xV 2)) xNil))))) xmNil) [S, cellsD c4, .int N, .int kd, pileD N ls, .none, .none, .none, .none, .none, .none, .none, .none, .none]).bind fun s => some (PyData.int kd :: s.1, s.2)).bind _) = _
      rw [xmCons_e, w]
      rfl
    rw [sSetM_e, xCallM_e, w2, Option.bind_some, e6]
    rfl
  -- orders
  obtain ⟨nm, c7, e7, o7⟩ := order_e (i := 1) (f := x1 oLstRng (xV 2)) (δ := [S, cellsD c6, .int N, .int kd, pileD N ls, pileD M es, .none, .none, .none, .none, .none, .none, .none, .none]) (cs := c6) (n := N) rfl (by rw [x1_of (d := .int N) rfl]; exact lst_rng (by omega)) (by omega)
  have u7 : sSetM 6 (xLM oTup (xmCons (xCallM [some 1, none] f__law_dealt (xmCons (xMov 1) (xmCons (mOf (x1 oLstRng (xV 2))) xmNil))) xmNil)) [S, cellsD c6, .int N, .int kd, pileD N ls, pileD M es, .none, .none, .none, .none, .none, .none, .none, .none] = some (.nx [S, cellsD c7, .int N, .int kd, pileD N ls, pileD M es, lotD nm, .none, .none, .none, .none, .none, .none, .none]) := by
    rw [sSetM_e, e7]
    rfl
  obtain ⟨ag, c8, e8, o8⟩ := order_e (i := 1) (f := x1 oLstRng (xV 2)) (δ := [S, cellsD c7, .int N, .int kd, pileD N ls, pileD M es, lotD nm, .none, .none, .none, .none, .none, .none, .none]) (cs := c7) (n := N) rfl (by rw [x1_of (d := .int N) rfl]; exact lst_rng (by omega)) (by omega)
  have u8 : sSetM 7 (xLM oTup (xmCons (xCallM [some 1, none] f__law_dealt (xmCons (xMov 1) (xmCons (mOf (x1 oLstRng (xV 2))) xmNil))) xmNil)) [S, cellsD c7, .int N, .int kd, pileD N ls, pileD M es, lotD nm, .none, .none, .none, .none, .none, .none, .none] = some (.nx [S, cellsD c8, .int N, .int kd, pileD N ls, pileD M es, lotD nm, lotD ag, .none, .none, .none, .none, .none, .none]) := by
    rw [sSetM_e, e8]
    rfl
  have lr : ∀ a b c d x y z w v t : D, x1 oLstRng (xL oLen (xCons (x2 dIx (xV 4) (xK (.int 1))) xNil)) [a, b, c, d, pileD N ls, x, y, z, w, v, t, .none, .none, .none] = some (.list (rngD 0 ls.length)) := fun a b c d x y z w v t => by
    have i : x2 dIx (xV 4) (xK (.int 1)) [a, b, c, d, pileD N ls, x, y, z, w, v, t, .none, .none, .none] = some (leavesD ls) := by rw [x2_of (d := pileD N ls) (e := .int 1) rfl rfl, dIx_pile1]
    rw [x1_of (d := .int ((ls.length : Nat) : Int)) (by rw [xL1 i]; exact dLen_leaves ls)]
    exact lst_rng (by omega)
  obtain ⟨de, c9, e9, o9⟩ := order_e (i := 1) (f := x1 oLstRng (xL oLen (xCons (x2 dIx (xV 4) (xK (.int 1))) xNil))) (δ := [S, cellsD c8, .int N, .int kd, pileD N ls, pileD M es, lotD nm, lotD ag, .none, .none, .none, .none, .none, .none]) (cs := c8) (n := ls.length) rfl (lr _ _ _ _ _ _ _ _ _ _) (by omega)
  have u9 : sSetM 8 (xLM oTup (xmCons (xCallM [some 1, none] f__law_dealt (xmCons (xMov 1) (xmCons (mOf (x1 oLstRng (xL oLen (xCons (x2 dIx (xV 4) (xK (.int 1))) xNil)))) xmNil))) xmNil)) [S, cellsD c8, .int N, .int kd, pileD N ls, pileD M es, lotD nm, lotD ag, .none, .none, .none, .none, .none, .none] = some (.nx [S, cellsD c9, .int N, .int kd, pileD N ls, pileD M es, lotD nm, lotD ag, lotD de, .none, .none, .none, .none, .none]) := by
    rw [sSetM_e, e9]
    rfl
  obtain ⟨an, c10, e10, o10⟩ := order_e (i := 1) (f := x1 oLstRng (xL oLen (xCons (x2 dIx (xV 4) (xK (.int 1))) xNil))) (δ := [S, cellsD c9, .int N, .int kd, pileD N ls, pileD M es, lotD nm, lotD ag, lotD de, .none, .none, .none, .none, .none]) (cs := c9) (n := ls.length) rfl (lr _ _ _ _ _ _ _ _ _ _) (by omega)
  have u10 : sSetM 9 (xLM oTup (xmCons (xCallM [some 1, none] f__law_dealt (xmCons (xMov 1) (xmCons (mOf (x1 oLstRng (xL oLen (xCons (x2 dIx (xV 4) (xK (.int 1))) xNil)))) xmNil))) xmNil)) [S, cellsD c9, .int N, .int kd, pileD N ls, pileD M es, lotD nm, lotD ag, lotD de, .none, .none, .none, .none, .none] = some (.nx [S, cellsD c10, .int N, .int kd, pileD N ls, pileD M es, lotD nm, lotD ag, lotD de, lotD an, .none, .none, .none, .none]) := by
    rw [sSetM_e, e10]
    rfl
  obtain ⟨sp, c11, e11, s0, s1⟩ := pk_e (i := 1) (f := xV 2) (δ := [S, cellsD c10, .int N, .int kd, pileD N ls, pileD M es, lotD nm, lotD ag, lotD de, lotD an, .none, .none, .none, .none]) (cs := c10) (m := N) rfl rfl (by omega)
  have u11 : sSetM 10 (pk 1 (xV 2)) [S, cellsD c10, .int N, .int kd, pileD N ls, pileD M es, lotD nm, lotD ag, lotD de, lotD an, .none, .none, .none, .none] = some (.nx [S, cellsD c11, .int N, .int kd, pileD N ls, pileD M es, lotD nm, lotD ag, lotD de, lotD an, .int sp, .none, .none, .none]) := by
    rw [sSetM_e, e11]
    rfl
  -- lots
  obtain ⟨sm1, c12, a12, e12, s12⟩ := sub_pk (δ0 := id) (k := 0) (m := 5) (t := 2) (by omega) (fun cs a => [S, cellsD cs, .int N, .int kd, pileD N ls, pileD M es, lotD nm, lotD ag, lotD de, lotD an, .int sp, .none, a, .none]) (fun _ _ => rfl) (fun _ _ _ => rfl) (fun _ _ _ => rfl) (fun _ _ => rfl) (rngI N) c11 .none
  have u12 : sSetM 11 (xLM oTup (xmCons (xCmpM (lmOf (lOf rng1 (xCons (xV 2) xNil))) (gSet 12) (bME (x2M dGt (pk 1 (xK (.int 5))) (mOf (xK (.int 2))))) (mOf (xV 12))) xmNil)) [S, cellsD c11, .int N, .int kd, pileD N ls, pileD M es, lotD nm, lotD ag, lotD de, lotD an, .int sp, .none, .none, .none] = some (.nx [S, cellsD c12, .int N, .int kd, pileD N ls, pileD M es, lotD nm, lotD ag, lotD de, lotD an, .int sp, lotD sm1, a12, .none]) := by
    have r := rng_I (n := N) (δ := [S, cellsD c11, .int N, .int kd, pileD N ls, pileD M es, lotD nm, lotD ag, lotD de, lotD an, .int sp, .none, .none, .none]) (f := xV 2) rfl (by omega)
    rw [sSetM_e, xLM_e, xmCons_e, xCmpM_e, lmOf_e, r, Option.map_some, Option.bind_some, if_pos (by rw [List.length_map, rngI_len]; omega), e12]
    rfl
  obtain ⟨mo, c13, a13, e13, s13⟩ := sub_pk (δ0 := id) (k := 0) (m := 5) (t := 3) (by omega) (fun cs a => [S, cellsD cs, .int N, .int kd, pileD N ls, pileD M es, lotD nm, lotD ag, lotD de, lotD an, .int sp, lotD sm1, a, .none]) (fun _ _ => rfl) (fun _ _ _ => rfl) (fun _ _ _ => rfl) (fun _ _ => rfl) (rngI N) c12 a12
  obtain ⟨δ, eδ⟩ : ∃ δ : List D, δ = [S, cellsD c13, .int N, .int kd, pileD N ls, pileD M es, lotD nm, lotD ag, lotD de, lotD an, .int sp, lotD sm1, a13, lotD mo] := ⟨_, rfl⟩
  have u13 : sSetM 13 (xLM oTup (xmCons (xCmpM (lmOf (lOf rng1 (xCons (xV 2) xNil))) (gSet 12) (bME (x2M dGt (pk 1 (xK (.int 5))) (mOf (xK (.int 3))))) (mOf (xV 12))) xmNil)) [S, cellsD c12, .int N, .int kd, pileD N ls, pileD M es, lotD nm, lotD ag, lotD de, lotD an, .int sp, lotD sm1, a12, .none] = some (.nx δ) := by
    have r := rng_I (n := N) (δ := [S, cellsD c12, .int N, .int kd, pileD N ls, pileD M es, lotD nm, lotD ag, lotD de, lotD an, .int sp, lotD sm1, a12, .none]) (f := xV 2) rfl (by omega)
    rw [eδ, sSetM_e, xLM_e, xmCons_e, xCmpM_e, lmOf_e, r, Option.map_some, Option.bind_some, if_pos (by rw [List.length_map, rngI_len]; omega), e13]
    rfl
  have hS : IsLot N sm1 := sub_lot s12
  -- what is looked at
  have d1 : bOr (bNot (bE (xCall f__law_turns (xCons (xV 4) (xCons (xV 6) (xCons (xV 7) (xCons (xV 8) (xCons (xV 9) xNil)))))))) (bNot (bE (xCall f__law_longer (xCons (xV 4) (xCons (xV 10) xNil))))) δ = some false := by
    have t1 : xCall f__law_turns (xCons (xV 4) (xCons (xV 6) (xCons (xV 7) (xCons (xV 8) (xCons (xV 9) xNil))))) δ = some (.bool true) := by
      subst eδ
      show ((f__law_turns [pileD N ls, lotD nm, lotD ag, lotD de, lotD an]).map _) = _
      rw [f_turns hp (by omega) (by omega) o7 o8 o9 o10]
      rfl
    have t2 : xCall f__law_longer (xCons (xV 4) (xCons (xV 10) xNil)) δ = some (.bool true) := by
      subst eδ
      exact call2 (a := pileD N ls) (b := .int sp) rfl rfl (f_longer hp (by omega) (by omega) s0 s1)
    exact or_f (bN_of (bE_of t1)) (bN_of (bE_of t2))
  have d2 : bOr (bNot (bE (xCall f__law_both (xCons (xV 4) (xCons (xV 5) xNil))))) (bNot (bE (xCall f__law_lots (xCons (xV 4) (xCons (xV 11) (xCons (xV 13) xNil)))))) δ = some false := by
    have t1 : xCall f__law_both (xCons (xV 4) (xCons (xV 5) xNil)) δ = some (.bool true) := by
      subst eδ
      exact call2 (a := pileD N ls) (b := pileD M es) rfl rfl (f_both hp hq (by omega) (by omega) (by omega) (by omega) (by omega) (by omega))
    have t2 : xCall f__law_lots (xCons (xV 4) (xCons (xV 11) (xCons (xV 13) xNil))) δ = some (.bool true) := by
      subst eδ
      show ((f__law_lots [pileD N ls, lotD sm1, lotD mo]).map _) = _
      rw [f_lots hp hS (by omega)]
      rfl
    exact or_f (bN_of (bE_of t1)) (bN_of (bE_of t2))
  have d3 : xOr (x2 dEq (xV 3) (xK (.int 0))) (xCall f__law_books (xCons (xV 4) (xCons (xV 5) (xCons (xV 10) (xCons (xV 11) xNil))))) δ = some (.bool true) := by
    have k : x2 dEq (xV 3) (xK (.int 0)) δ = some (.bool (kd == 0)) := by rw [x2_of (d := .int kd) (e := .int 0) (by rw [eδ]; rfl) rfl, dEq_e]
    rw [xOr_e, k, Option.bind_some, toB_e, Option.bind_some]
    by_cases z : kd = 0
    · rw [if_pos (by simpa using z)]
    · rw [if_neg (by simpa using z)]
      subst eδ
      show ((f__law_books [pileD N ls, pileD M es, .int sp, lotD sm1]).map _) = _
      rw [f_books (hb z) (hc z) (by omega) (by omega) (by omega) (by omega) s0 s1 hS]
      rfl
  unfold pk at u2 u3 u4 u6 u11 u12 u13
  refine ⟨δ.take 1, ?_⟩
  unfold f_law
  rw [fnF_e]
  show (g_law [S, .none, .none, .none, .none, .none, .none, .none, .none, .none, .none, .none, .none, .none]).bind _ = _
  have g : g_law [S, .none, .none, .none, .none, .none, .none, .none, .none, .none, .none, .none, .none, .none] = some (.rt (.bool true) δ) := by
    unfold g_law
    rw [set_of u1]
    show sSeq _ _ [S, cellsD c0, .none, .none, .none, .none, .none, .none, .none, .none, .none, .none, .none, .none] = _
    rw [sSeq_nx u2, sSeq_nx u3, sSeq_nx u4, sSeq_nx u5, sSeq_nx u6, sSeq_nx u7, sSeq_nx u8, sSeq_nx u9, sSeq_nx u10, sSeq_nx u11, sSeq_nx u12, sSeq_nx u13, pass_if d1, pass_if d2]
    exact ret_of d3
  rw [g]
  rfl
end LawK04

set_option Elab.async false
set_option linter.all false
set_option maxRecDepth 100000
set_option maxHeartbeats 4000000
/-! unsewn_k04_whole_turns_and_makings: the derivations (printed by pvgen.py) -/
namespace LawK04
open PySem PySem.Spec PyProof.Rows L2 Pv
def clsMem : Stmt → Nat → Stmt
  | .ClassDef _ _ _ b _ _ _ _ _ _ _, j => b.getD j (.Pass ⟨0, 0, 0, 0⟩)
  | s, _ => s
def top (i : Nat) : Stmt := PySem.Challenge.pw_unsewn_k04_whole_turns_and_makings.main.body.getD i (.Pass ⟨0, 0, 0, 0⟩)
abbrev st_word_bonds : Stmt := top 5
abbrev st_piece_by : Stmt := top 6
abbrev st_least_uneven : Stmt := top 7
abbrev st_least_bare : Stmt := top 8
abbrev st_is_integer : Stmt := top 11
abbrev st__moved : Stmt := top 23
abbrev st_backwards : Stmt := top 30
abbrev st__law_mix : Stmt := top 34
abbrev st__law_pick : Stmt := top 36
abbrev st__law_opposite : Stmt := top 41
abbrev st__law_without_loops : Stmt := top 43
abbrev st__law_home : Stmt := top 46
abbrev st_first_fault : Stmt := top 9
abbrev st_is_number : Stmt := top 12
abbrev st__law_cells : Stmt := top 35
abbrev st__law_dealt : Stmt := top 37
abbrev st__law_put : Stmt := top 47
abbrev st_is_heap : Stmt := top 13
abbrev st_is_word : Stmt := top 15
abbrev st_is_leaf : Stmt := top 16
abbrev st_is_order : Stmt := top 18
abbrev st__law_ring : Stmt := top 38
abbrev st_is_book : Stmt := top 14
abbrev st_is_lot : Stmt := top 17
abbrev st_hung : Stmt := top 20
abbrev st_parted : Stmt := top 21
abbrev st_joined : Stmt := top 22
abbrev st_renamed : Stmt := top 31
abbrev st_dealt : Stmt := top 32
abbrev st__law_heap : Stmt := top 39
abbrev st_home_of : Stmt := top 24
abbrev st_leaving : Stmt := top 28
abbrev st_put_together : Stmt := top 25
abbrev st_gates_of : Stmt := top 27
abbrev st__law_same : Stmt := top 40
abbrev st__law_turns : Stmt := top 42
abbrev st__law_longer : Stmt := top 44
abbrev st__law_both : Stmt := top 45
abbrev st__law_refused : Stmt := top 48
abbrev st__law_books : Stmt := top 50
abbrev st__law_lots : Stmt := top 49
abbrev st_law : Stmt := top 51
abbrev st_NotUsable : Stmt := clsMem (top 3) 0
structure Tx (K : PySem.W.Frag) (mg : Str → Option Value) where
  a_word_bonds : Addr
  d_word_bonds : FuncData
  m_word_bonds : mg "word_bonds" = some (.ref a_word_bonds)
  k_word_bonds : PySem.W.keepIn K (.ref a_word_bonds) = true
  f_word_bonds : Fun K "word_bonds" "word_bonds" st_word_bonds a_word_bonds d_word_bonds
  b_word_bonds : Binds K d_word_bonds ["leaves"] []
  a_piece_by : Addr
  d_piece_by : FuncData
  m_piece_by : mg "piece_by" = some (.ref a_piece_by)
  k_piece_by : PySem.W.keepIn K (.ref a_piece_by) = true
  f_piece_by : Fun K "piece_by" "piece_by" st_piece_by a_piece_by d_piece_by
  b_piece_by : Binds K d_piece_by ["bonds", "start"] []
  a_least_uneven : Addr
  d_least_uneven : FuncData
  m_least_uneven : mg "least_uneven" = some (.ref a_least_uneven)
  k_least_uneven : PySem.W.keepIn K (.ref a_least_uneven) = true
  f_least_uneven : Fun K "least_uneven" "least_uneven" st_least_uneven a_least_uneven d_least_uneven
  b_least_uneven : Binds K d_least_uneven ["leaves"] []
  a_least_bare : Addr
  d_least_bare : FuncData
  m_least_bare : mg "least_bare" = some (.ref a_least_bare)
  k_least_bare : PySem.W.keepIn K (.ref a_least_bare) = true
  f_least_bare : Fun K "least_bare" "least_bare" st_least_bare a_least_bare d_least_bare
  b_least_bare : Binds K d_least_bare ["size", "leaves"] []
  a_is_integer : Addr
  d_is_integer : FuncData
  m_is_integer : mg "is_integer" = some (.ref a_is_integer)
  k_is_integer : PySem.W.keepIn K (.ref a_is_integer) = true
  f_is_integer : Fun K "is_integer" "is_integer" st_is_integer a_is_integer d_is_integer
  b_is_integer : Binds K d_is_integer ["thing"] []
  a__moved : Addr
  d__moved : FuncData
  m__moved : mg "_moved" = some (.ref a__moved)
  k__moved : PySem.W.keepIn K (.ref a__moved) = true
  f__moved : Fun K "_moved" "_moved" st__moved a__moved d__moved
  b__moved : Binds K d__moved ["size", "word"] []
  a_backwards : Addr
  d_backwards : FuncData
  m_backwards : mg "backwards" = some (.ref a_backwards)
  k_backwards : PySem.W.keepIn K (.ref a_backwards) = true
  f_backwards : Fun K "backwards" "backwards" st_backwards a_backwards d_backwards
  b_backwards : Binds K d_backwards ["heap"] []
  a__law_mix : Addr
  d__law_mix : FuncData
  m__law_mix : mg "_law_mix" = some (.ref a__law_mix)
  k__law_mix : PySem.W.keepIn K (.ref a__law_mix) = true
  f__law_mix : Fun K "_law_mix" "_law_mix" st__law_mix a__law_mix d__law_mix
  b__law_mix : Binds K d__law_mix ["_law_cell", "_law_k"] []
  a__law_pick : Addr
  d__law_pick : FuncData
  m__law_pick : mg "_law_pick" = some (.ref a__law_pick)
  k__law_pick : PySem.W.keepIn K (.ref a__law_pick) = true
  f__law_pick : Fun K "_law_pick" "_law_pick" st__law_pick a__law_pick d__law_pick
  b__law_pick : Binds K d__law_pick ["_law_cells_here", "_law_limit"] []
  a__law_opposite : Addr
  d__law_opposite : FuncData
  m__law_opposite : mg "_law_opposite" = some (.ref a__law_opposite)
  k__law_opposite : PySem.W.keepIn K (.ref a__law_opposite) = true
  f__law_opposite : Fun K "_law_opposite" "_law_opposite" st__law_opposite a__law_opposite d__law_opposite
  b__law_opposite : Binds K d__law_opposite ["_law_names"] []
  a__law_without_loops : Addr
  d__law_without_loops : FuncData
  m__law_without_loops : mg "_law_without_loops" = some (.ref a__law_without_loops)
  k__law_without_loops : PySem.W.keepIn K (.ref a__law_without_loops) = true
  f__law_without_loops : Fun K "_law_without_loops" "_law_without_loops" st__law_without_loops a__law_without_loops d__law_without_loops
  b__law_without_loops : Binds K d__law_without_loops ["_law_pile", "_law_spot"] []
  a__law_home : Addr
  d__law_home : FuncData
  m__law_home : mg "_law_home" = some (.ref a__law_home)
  k__law_home : PySem.W.keepIn K (.ref a__law_home) = true
  f__law_home : Fun K "_law_home" "_law_home" st__law_home a__law_home d__law_home
  b__law_home : Binds K d__law_home ["_law_size", "_law_part"] []
  a_first_fault : Addr
  d_first_fault : FuncData
  m_first_fault : mg "first_fault" = some (.ref a_first_fault)
  k_first_fault : PySem.W.keepIn K (.ref a_first_fault) = true
  f_first_fault : Fun K "first_fault" "first_fault" st_first_fault a_first_fault d_first_fault
  b_first_fault : Binds K d_first_fault ["size", "leaves"] []
  a_is_number : Addr
  d_is_number : FuncData
  m_is_number : mg "is_number" = some (.ref a_is_number)
  k_is_number : PySem.W.keepIn K (.ref a_is_number) = true
  f_is_number : Fun K "is_number" "is_number" st_is_number a_is_number d_is_number
  b_is_number : Binds K d_is_number ["thing"] []
  a__law_cells : Addr
  d__law_cells : FuncData
  m__law_cells : mg "_law_cells" = some (.ref a__law_cells)
  k__law_cells : PySem.W.keepIn K (.ref a__law_cells) = true
  f__law_cells : Fun K "_law_cells" "_law_cells" st__law_cells a__law_cells d__law_cells
  b__law_cells : Binds K d__law_cells ["_law_script", "_law_many_more"] []
  a__law_dealt : Addr
  d__law_dealt : FuncData
  m__law_dealt : mg "_law_dealt" = some (.ref a__law_dealt)
  k__law_dealt : PySem.W.keepIn K (.ref a__law_dealt) = true
  f__law_dealt : Fun K "_law_dealt" "_law_dealt" st__law_dealt a__law_dealt d__law_dealt
  b__law_dealt : Binds K d__law_dealt ["_law_cells_here", "_law_things"] []
  a__law_put : Addr
  d__law_put : FuncData
  m__law_put : mg "_law_put" = some (.ref a__law_put)
  k__law_put : PySem.W.keepIn K (.ref a__law_put) = true
  f__law_put : Fun K "_law_put" "_law_put" st__law_put a__law_put d__law_put
  b__law_put : Binds K d__law_put ["_law_pile", "_law_part"] []
  a_is_heap : Addr
  d_is_heap : FuncData
  m_is_heap : mg "is_heap" = some (.ref a_is_heap)
  k_is_heap : PySem.W.keepIn K (.ref a_is_heap) = true
  f_is_heap : Fun K "is_heap" "is_heap" st_is_heap a_is_heap d_is_heap
  b_is_heap : Binds K d_is_heap ["thing"] []
  a_is_word : Addr
  d_is_word : FuncData
  m_is_word : mg "is_word" = some (.ref a_is_word)
  k_is_word : PySem.W.keepIn K (.ref a_is_word) = true
  f_is_word : Fun K "is_word" "is_word" st_is_word a_is_word d_is_word
  b_is_word : Binds K d_is_word ["heap", "thing"] []
  a_is_leaf : Addr
  d_is_leaf : FuncData
  m_is_leaf : mg "is_leaf" = some (.ref a_is_leaf)
  k_is_leaf : PySem.W.keepIn K (.ref a_is_leaf) = true
  f_is_leaf : Fun K "is_leaf" "is_leaf" st_is_leaf a_is_leaf d_is_leaf
  b_is_leaf : Binds K d_is_leaf ["heap", "thing"] []
  a_is_order : Addr
  d_is_order : FuncData
  m_is_order : mg "is_order" = some (.ref a_is_order)
  k_is_order : PySem.W.keepIn K (.ref a_is_order) = true
  f_is_order : Fun K "is_order" "is_order" st_is_order a_is_order d_is_order
  b_is_order : Binds K d_is_order ["many", "thing"] []
  a__law_ring : Addr
  d__law_ring : FuncData
  m__law_ring : mg "_law_ring" = some (.ref a__law_ring)
  k__law_ring : PySem.W.keepIn K (.ref a__law_ring) = true
  f__law_ring : Fun K "_law_ring" "_law_ring" st__law_ring a__law_ring d__law_ring
  b__law_ring : Binds K d__law_ring ["_law_cells_here", "_law_size", "_law_extra"] []
  a_is_book : Addr
  d_is_book : FuncData
  m_is_book : mg "is_book" = some (.ref a_is_book)
  k_is_book : PySem.W.keepIn K (.ref a_is_book) = true
  f_is_book : Fun K "is_book" "is_book" st_is_book a_is_book d_is_book
  b_is_book : Binds K d_is_book ["thing"] []
  a_is_lot : Addr
  d_is_lot : FuncData
  m_is_lot : mg "is_lot" = some (.ref a_is_lot)
  k_is_lot : PySem.W.keepIn K (.ref a_is_lot) = true
  f_is_lot : Fun K "is_lot" "is_lot" st_is_lot a_is_lot d_is_lot
  b_is_lot : Binds K d_is_lot ["heap", "thing"] []
  a_hung : Addr
  d_hung : FuncData
  m_hung : mg "hung" = some (.ref a_hung)
  k_hung : PySem.W.keepIn K (.ref a_hung) = true
  f_hung : Fun K "hung" "hung" st_hung a_hung d_hung
  b_hung : Binds K d_hung ["heap", "word"] []
  a_parted : Addr
  d_parted : FuncData
  m_parted : mg "parted" = some (.ref a_parted)
  k_parted : PySem.W.keepIn K (.ref a_parted) = true
  f_parted : Fun K "parted" "parted" st_parted a_parted d_parted
  b_parted : Binds K d_parted ["heap", "leaf"] []
  a_joined : Addr
  d_joined : FuncData
  m_joined : mg "joined" = some (.ref a_joined)
  k_joined : PySem.W.keepIn K (.ref a_joined) = true
  f_joined : Fun K "joined" "joined" st_joined a_joined d_joined
  b_joined : Binds K d_joined ["heap", "other"] []
  a_renamed : Addr
  d_renamed : FuncData
  m_renamed : mg "renamed" = some (.ref a_renamed)
  k_renamed : PySem.W.keepIn K (.ref a_renamed) = true
  f_renamed : Fun K "renamed" "renamed" st_renamed a_renamed d_renamed
  b_renamed : Binds K d_renamed ["heap", "order"] []
  a_dealt : Addr
  d_dealt : FuncData
  m_dealt : mg "dealt" = some (.ref a_dealt)
  k_dealt : PySem.W.keepIn K (.ref a_dealt) = true
  f_dealt : Fun K "dealt" "dealt" st_dealt a_dealt d_dealt
  b_dealt : Binds K d_dealt ["heap", "order"] []
  a__law_heap : Addr
  d__law_heap : FuncData
  m__law_heap : mg "_law_heap" = some (.ref a__law_heap)
  k__law_heap : PySem.W.keepIn K (.ref a__law_heap) = true
  f__law_heap : Fun K "_law_heap" "_law_heap" st__law_heap a__law_heap d__law_heap
  b__law_heap : Binds K d__law_heap ["_law_cells_here", "_law_kind", "_law_size"] []
  a_home_of : Addr
  d_home_of : FuncData
  m_home_of : mg "home_of" = some (.ref a_home_of)
  k_home_of : PySem.W.keepIn K (.ref a_home_of) = true
  f_home_of : Fun K "home_of" "home_of" st_home_of a_home_of d_home_of
  b_home_of : Binds K d_home_of ["heap", "lot"] []
  a_leaving : Addr
  d_leaving : FuncData
  m_leaving : mg "leaving" = some (.ref a_leaving)
  k_leaving : PySem.W.keepIn K (.ref a_leaving) = true
  f_leaving : Fun K "leaving" "leaving" st_leaving a_leaving d_leaving
  b_leaving : Binds K d_leaving ["heap", "lot"] []
  a_put_together : Addr
  d_put_together : FuncData
  m_put_together : mg "put_together" = some (.ref a_put_together)
  k_put_together : PySem.W.keepIn K (.ref a_put_together) = true
  f_put_together : Fun K "put_together" "put_together" st_put_together a_put_together d_put_together
  b_put_together : Binds K d_put_together ["heap", "lot"] []
  a_gates_of : Addr
  d_gates_of : FuncData
  m_gates_of : mg "gates_of" = some (.ref a_gates_of)
  k_gates_of : PySem.W.keepIn K (.ref a_gates_of) = true
  f_gates_of : Fun K "gates_of" "gates_of" st_gates_of a_gates_of d_gates_of
  b_gates_of : Binds K d_gates_of ["heap", "lot"] []
  a__law_same : Addr
  d__law_same : FuncData
  m__law_same : mg "_law_same" = some (.ref a__law_same)
  k__law_same : PySem.W.keepIn K (.ref a__law_same) = true
  f__law_same : Fun K "_law_same" "_law_same" st__law_same a__law_same d__law_same
  b__law_same : Binds K d__law_same ["_law_told", "_law_due"] []
  a__law_turns : Addr
  d__law_turns : FuncData
  m__law_turns : mg "_law_turns" = some (.ref a__law_turns)
  k__law_turns : PySem.W.keepIn K (.ref a__law_turns) = true
  f__law_turns : Fun K "_law_turns" "_law_turns" st__law_turns a__law_turns d__law_turns
  b__law_turns : Binds K d__law_turns ["_law_pile", "_law_names", "_law_again", "_law_deal", "_law_anew"] []
  a__law_longer : Addr
  d__law_longer : FuncData
  m__law_longer : mg "_law_longer" = some (.ref a__law_longer)
  k__law_longer : PySem.W.keepIn K (.ref a__law_longer) = true
  f__law_longer : Fun K "_law_longer" "_law_longer" st__law_longer a__law_longer d__law_longer
  b__law_longer : Binds K d__law_longer ["_law_pile", "_law_spot"] []
  a__law_both : Addr
  d__law_both : FuncData
  m__law_both : mg "_law_both" = some (.ref a__law_both)
  k__law_both : PySem.W.keepIn K (.ref a__law_both) = true
  f__law_both : Fun K "_law_both" "_law_both" st__law_both a__law_both d__law_both
  b__law_both : Binds K d__law_both ["_law_pile", "_law_extra_one"] []
  a__law_refused : Addr
  d__law_refused : FuncData
  m__law_refused : mg "_law_refused" = some (.ref a__law_refused)
  k__law_refused : PySem.W.keepIn K (.ref a__law_refused) = true
  f__law_refused : Fun K "_law_refused" "_law_refused" st__law_refused a__law_refused d__law_refused
  b__law_refused : Binds K d__law_refused ["_law_pile", "_law_part"] []
  a__law_books : Addr
  d__law_books : FuncData
  m__law_books : mg "_law_books" = some (.ref a__law_books)
  k__law_books : PySem.W.keepIn K (.ref a__law_books) = true
  f__law_books : Fun K "_law_books" "_law_books" st__law_books a__law_books d__law_books
  b__law_books : Binds K d__law_books ["_law_pile", "_law_extra_one", "_law_spot", "_law_part"] []
  a__law_lots : Addr
  d__law_lots : FuncData
  m__law_lots : mg "_law_lots" = some (.ref a__law_lots)
  k__law_lots : PySem.W.keepIn K (.ref a__law_lots) = true
  f__law_lots : Fun K "_law_lots" "_law_lots" st__law_lots a__law_lots d__law_lots
  b__law_lots : Binds K d__law_lots ["_law_pile", "_law_small", "_law_more"] []
  a_law : Addr
  d_law : FuncData
  m_law : mg "law" = some (.ref a_law)
  k_law : PySem.W.keepIn K (.ref a_law) = true
  f_law : Fun K "law" "law" st_law a_law d_law
  b_law : Binds K d_law ["_law_script"] []
  kb_backwards_heap : KwB K d_backwards ["heap"] ["heap"] [0]
  kb_renamed_order_heap : KwB K d_renamed ["heap", "order"] ["order", "heap"] [1, 0]
  kb_dealt_heap_order : KwB K d_dealt ["heap", "order"] ["heap", "order"] [0, 1]
  kb_hung_word_heap : KwB K d_hung ["heap", "word"] ["word", "heap"] [1, 0]
  kb_joined_other_heap : KwB K d_joined ["heap", "other"] ["other", "heap"] [1, 0]
  kb_home_of_lot_heap : KwB K d_home_of ["heap", "lot"] ["lot", "heap"] [1, 0]
  kb_put_together_lot_heap : KwB K d_put_together ["heap", "lot"] ["lot", "heap"] [1, 0]
  C_NotUsable : Addr
  fI_NotUsable : Addr
  dI_NotUsable : FuncData
  gC_NotUsable : mg "NotUsable" = some (.ref C_NotUsable)
  oex_NotUsable : OexC K C_NotUsable
  xf_NotUsable : XfC K C_NotUsable
  te_NotUsable : PySem.W.exmOne K (.ref C_NotUsable) (.ref C_NotUsable) = some true
  iC_NotUsable : PySem.W.findIn K (.ref C_NotUsable) "__init__" = some (some (.ref fI_NotUsable))
  tI_NotUsable : PySem.W.typeIn K (.ref fI_NotUsable) = some (.type "function")
  FI_NotUsable : Fun K "__init__" "NotUsable.__init__" st_NotUsable fI_NotUsable dI_NotUsable
  bI_NotUsable : Binds K dI_NotUsable ["self", "word", "at"] []
  n_NotUsable_word : PySem.W.findIn K (.ref C_NotUsable) "word" = some none
  n_NotUsable_at : PySem.W.findIn K (.ref C_NotUsable) "at" = some none
  z_abs : mg "abs" = none
  z_all : mg "all" = none
  z_bool : mg "bool" = none
  z_enumerate : mg "enumerate" = none
  z_int : mg "int" = none
  z_isinstance : mg "isinstance" = none
  z_len : mg "len" = none
  z_list : mg "list" = none
  z_min : mg "min" = none
  z_range : mg "range" = none
  z_reversed : mg "reversed" = none
  z_sorted : mg "sorted" = none
  z_tuple : mg "tuple" = none
section
variable {P : Program} {w : World} {K : PySem.W.Frag} {mg : Str → Option Value} {base : Heap}
theorem sc_NotUsable : FnScope ["self", "word", "at"] ["self", "word", "at"] (defScope st_NotUsable) := ⟨rfl, rfl, rfl, by decide +kernel, rfl, by decide +kernel, by decide +kernel⟩
theorem ok_init_NotUsable (T : Tx K mg) : FnOk P w K mg base CX0 1 T.fI_NotUsable T.dI_NotUsable ["self", "word", "at"] (spI T.C_NotUsable "word" "at") :=
  ok_init T.FI_NotUsable sc_NotUsable T.oex_NotUsable T.n_NotUsable_word T.n_NotUsable_at (fun cdv A outer s H E hr => pss_cons (ps_ost (pv 0) (pv 1)) (pss_one (ps_ost (pv 0) (pv 2))))
theorem sc_word_bonds : FnScope ["leaves", "bonds", "first", "catchword"] ["leaves"] (defScope st_word_bonds) := ⟨rfl, rfl, rfl, by decide +kernel, rfl, by decide +kernel, by decide +kernel⟩
theorem ok_word_bonds (T : Tx K mg) : FnOk P w K mg base CX0 1 T.a_word_bonds T.d_word_bonds ["leaves"] (spF K S_word_bonds) :=
  fn_val (nl := 3) (fo := false) T.f_word_bonds sc_word_bonds rfl rfl rfl rfl (fun h => nomatch h) (fun cdv A outer s H E hr => show PSs _ _ (tS _ [.sh, .no, .no, .no] ⟨[.no, .no, .no, .no], [], [], [.no, .no, .no, .no], .sh⟩ _) from
    have sc := sc_word_bonds
    (zCons (Γ1 := [.sh, (.dk (.ol .sh)), .no, .no]) (zSet (i := 1) sc.nd rfl (by first | exact .inl rfl | exact .inr rfl) cDNewK (by decide) rfl) (zCons (Γ1 := [.sh, (.dk (.ol .sh)), .no, .no]) (zFor (Γ := [.sh, (.dk (.ol .sh)), .no, .no]) (Γ1 := [.sh, (.dk (.ol .sh)), .sh, .sh]) PassesOwn.never rfl (iSeq (cV 0 rfl (by decide) (pv 0))) (hTup rfl (hCons (hName (i := 2) sc.nd rfl (by first | exact .inl rfl | exact .inr rfl) (by decide)) (hCons (hName (i := 3) sc.nd rfl (by first | exact .inl rfl | exact .inr rfl) (by decide)) hNil))) (zWkn (n' := [.sh, (.dk (.ol .sh)), .sh, .sh]) (zCons (Γ1 := [.sh, (.dk (.ol .sh)), .sh, .sh]) (zDrop (mSdK 1 (pe_bm PySem.F.plainAttrs_list PySem.F.slot_list_append PySem.F.type_list_append mt_append (pe_dsetd (pv 1) (cV 2 rfl (by decide) (pv 2)) (pe_lst pa_nil) ⟨rfl, rfl, rfl, rfl⟩) (pa_cons (cV 3 rfl (by decide) (pv 3)) pa_nil)) rfl)) (zOne (zDrop (mSdK 1 (pe_bm PySem.F.plainAttrs_list PySem.F.slot_list_append PySem.F.type_list_append mt_append (pe_dsetd (pv 1) (cV 3 rfl (by decide) (pv 3)) (pe_lst pa_nil) ⟨rfl, rfl, rfl, rfl⟩) (pa_cons (cV 2 rfl (by decide) (pv 2)) pa_nil)) rfl)))) rfl) rfl) (zFrzDK (Γ := [.sh, (.dk (.ol .sh)), .no, .no]) 1 rfl rfl (zOne (zRet (cOfP (cV 1 rfl (by decide) (pv 1))) rfl))))))
theorem sc_piece_by : FnScope ["bonds", "start", "reached", "waiting", "here", "there"] ["bonds", "start"] (defScope st_piece_by) := ⟨rfl, rfl, rfl, by decide +kernel, rfl, by decide +kernel, by decide +kernel⟩
theorem ok_piece_by (T : Tx K mg) : FnOk P w K mg base CX0 1 T.a_piece_by T.d_piece_by ["bonds", "start"] (spF K S_piece_by) :=
  fn_val (nl := 4) (fo := false) T.f_piece_by sc_piece_by rfl rfl rfl rfl (fun h => nomatch h) (fun cdv A outer s H E hr => show PSs _ _ (tS _ [.sh, .sh, .no, .no, .no, .no] ⟨[.no, .no, .no, .no, .no, .no], [], [], [.no, .no, .no, .no, .no, .no], .sh⟩ _) from
    have sc := sc_piece_by
    (zCons (Γ1 := [.sh, .sh, (.dk .sh), .no, .no, .no]) (zSet (i := 2) sc.nd rfl (by first | exact .inl rfl | exact .inr rfl) (cDict1 (cV 1 rfl (by decide) (pv 1)) cBl) (by decide) rfl) (zCons (Γ1 := [.sh, .sh, (.dk .sh), (.ol .sh), .no, .no]) (zSet (i := 3) sc.nd rfl (by first | exact .inl rfl | exact .inr rfl) (cLst (aCons (cV 1 rfl (by decide) (pv 1)) aNil)) (by decide) rfl) (zCons (Γ1 := [.sh, .sh, (.dk .sh), (.ol .sh), .no, .no]) (zWhile (Γ := [.sh, .sh, (.dk .sh), (.ol .sh), .no, .no]) PassesOwn.never (qTruth rfl (cV 3 rfl (by decide) (pv 3))) (zWkn (n' := [.sh, .sh, (.dk .sh), (.ol .sh), .sh, .no]) (zCons (Γ1 := [.sh, .sh, (.dk .sh), (.ol .sh), .sh, .no]) (zSetM (i := 4) sc.nd rfl (by first | exact .inl rfl | exact .inr rfl) (mPop 3 (pe_bm0 PySem.F.plainAttrs_list PySem.F.slot_list_pop PySem.F.type_list_pop mt_pop (pv 3)) rfl) (by decide) rfl) (zOne (zFor (Γ := [.sh, .sh, (.dk .sh), (.ol .sh), .sh, .no]) (Γ1 := [.sh, .sh, (.dk .sh), (.ol .sh), .sh, .sh]) PassesOwn.never rfl (iSeq (cDGet2 (hu_of hr) rfl (cV 0 rfl (by decide) (pv 0)) (cV 4 rfl (by decide) (pv 4)) (cFrz (cNew (t := .sh))) ⟨rfl, rfl, rfl, rfl⟩)) (hName (i := 5) sc.nd rfl (by first | exact .inl rfl | exact .inr rfl) (by decide)) (zWkn (n' := [.sh, .sh, (.dk .sh), (.ol .sh), .sh, .sh]) (zOne (zIf (qCmp (op_dnotin (hu_of hr)) (dnotin_s rfl) (cV 5 rfl (by decide) (pv 5)) (cV 2 rfl (by decide) (pv 2)) (by with_unfolding_all rfl)) (zCons (Γ1 := [.sh, .sh, (.dk .sh), (.ol .sh), .sh, .sh]) (zPutK 2 (ps_dput (hu_of hr) (pv 2) (cV 5 rfl (by decide) (pv 5)) (mOfP cBl) rfl) rfl) (zOne (zDrop (mApp 3 (pe_bm PySem.F.plainAttrs_list PySem.F.slot_list_append PySem.F.type_list_append mt_append (pv 3) (pa_cons (mOfP (cV 5 rfl (by decide) (pv 5))) pa_nil)) rfl rfl)))) zNil)) rfl) rfl))) rfl)) (zFrzDK (Γ := [.sh, .sh, (.dk .sh), (.ol .sh), .no, .no]) 2 rfl rfl (zOne (zRet (cOfP (cCallT call_tuple_of (tup_s rfl) (by rfl) (by exact T.z_tuple) PyProof.Rows.boot_tuple (aCons (cFrz (cSorted (by rfl) (by exact T.z_sorted) (by decide +kernel) rfl (cFrz (cLstD rfl (by rfl) (by exact T.z_list) rfl (aCons (cV 2 rfl (by decide) (pv 2)) aNil))))) aNil))) rfl)))))))
theorem sc_least_uneven : FnScope ["leaves", "surplus", "first", "catchword", "uneven", "key"] ["leaves"] (defScope st_least_uneven) := ⟨rfl, rfl, rfl, by decide +kernel, rfl, by decide +kernel, by decide +kernel⟩
theorem ok_least_uneven (T : Tx K mg) : FnOk P w K mg base CX0 1 T.a_least_uneven T.d_least_uneven ["leaves"] (spF K S_least_uneven) :=
  fn_val (nl := 5) (fo := false) T.f_least_uneven sc_least_uneven rfl rfl rfl rfl (fun h => nomatch h) (fun cdv A outer s H E hr => show PSs _ _ (tS _ [.sh, .no, .no, .no, .no, .no] ⟨[.no, .no, .no, .no, .no, .no], [], [], [.no, .no, .no, .no, .no, .no], .sh⟩ _) from
    have sc := sc_least_uneven
    (zCons (Γ1 := [.sh, (.dk .sh), .no, .no, .no, .no]) (zSet (i := 1) sc.nd rfl (by first | exact .inl rfl | exact .inr rfl) cDNewK (by decide) rfl) (zCons (Γ1 := [.sh, (.dk .sh), .no, .no, .no, .no]) (zFor (Γ := [.sh, (.dk .sh), .no, .no, .no, .no]) (Γ1 := [.sh, (.dk .sh), .sh, .sh, .no, .no]) PassesOwn.never rfl (iSeq (cV 0 rfl (by decide) (pv 0))) (hTup rfl (hCons (hName (i := 2) sc.nd rfl (by first | exact .inl rfl | exact .inr rfl) (by decide)) (hCons (hName (i := 3) sc.nd rfl (by first | exact .inl rfl | exact .inr rfl) (by decide)) hNil))) (zWkn (n' := [.sh, (.dk .sh), .sh, .sh, .no, .no]) (zCons (Γ1 := [.sh, (.dk .sh), .sh, .sh, .no, .no]) (zPutK 1 (ps_dput (hu_of hr) (pv 1) (cV 2 rfl (by decide) (pv 2)) (mOfP (c2 op_sub sub_s (cDGet2 (hu_of hr) rfl (cV 1 rfl (by decide) (pv 1)) (cV 2 rfl (by decide) (pv 2)) cInt ⟨rfl, rfl, rfl, rfl⟩) cInt)) rfl) rfl) (zOne (zPutK 1 (ps_dput (hu_of hr) (pv 1) (cV 3 rfl (by decide) (pv 3)) (mOfP (c2 op_add' add_s (cDGet2 (hu_of hr) rfl (cV 1 rfl (by decide) (pv 1)) (cV 3 rfl (by decide) (pv 3)) cInt ⟨rfl, rfl, rfl, rfl⟩) cInt)) rfl) rfl))) rfl) rfl) (zFrzDK (Γ := [.sh, (.dk .sh), .no, .no, .no, .no]) 1 rfl rfl (zCons (Γ1 := [.sh, .sh, .no, .no, (.ol .sh), .no]) (zSetCmp (own := [("key", 5)]) (Γ1 := [.sh, .sh, .no, .no, .no, .sh]) (i := 4) rfl sc.nd rfl rfl rfl (iIt (cV 1 rfl (by decide) (pv 1))) (show BlkOk ["leaves", "surplus", "first", "catchword", "uneven", "key"] (defScope st_least_uneven) _ _ from ⟨rfl, by decide +kernel, by decide +kernel, by decide +kernel, by decide +kernel⟩) (fun _ _ _ _ _ => (hName (i := 5) sc.nd rfl (by first | exact .inl rfl | exact .inr rfl) (by decide))) (fun _ _ _ _ _ => (kOne (qCmp (op_neD hr.units) (ne_s rfl rfl) (cDGet (hu_of hr) rfl (cV 1 rfl (by decide) (pv 1)) (cV 5 rfl (by decide) (pv 5)) (by intro _ _; rfl)) cInt (nomark _)))) (fun _ _ _ _ _ => (cOfP (cV 5 rfl (by decide) (pv 5)))) rfl (by decide) rfl) (zFrz (Γ := [.sh, .sh, .no, .no, (.ol .sh), .no]) 4 rfl rfl (zCons (Γ1 := [.sh, .sh, .no, .no, .sh, .no]) (zIf (qNot (qTruth rfl (cV 4 rfl (by decide) (pv 4)))) (zOne (zRet (cOfP cNon) rfl)) zNil) (zOne (zRet (cOfP (cCallB (cr_min rfl) (min_s rfl) (by rfl) (by exact T.z_min) (by decide +kernel) (aCons (cV 4 rfl (by decide) (pv 4)) aNil))) rfl)))))))))
theorem sc_least_bare : FnScope ["size", "leaves", "begun", "first", "catchword", "number"] ["size", "leaves"] (defScope st_least_bare) := ⟨rfl, rfl, rfl, by decide +kernel, rfl, by decide +kernel, by decide +kernel⟩
theorem ok_least_bare (T : Tx K mg) : FnOk P w K mg base CX0 1 T.a_least_bare T.d_least_bare ["size", "leaves"] (spF K S_least_bare) :=
  fn_val (nl := 4) (fo := false) T.f_least_bare sc_least_bare rfl rfl rfl rfl (fun h => nomatch h) (fun cdv A outer s H E hr => show PSs _ _ (tS _ [.sh, .sh, .no, .no, .no, .no] ⟨[.no, .no, .no, .no, .no, .no], [], [], [.no, .no, .no, .no, .no, .no], .sh⟩ _) from
    have sc := sc_least_bare
    (zCons (Γ1 := [.sh, .sh, (.dk .sh), .no, .no, .no]) (zSetDc (own := [("first", 3), ("catchword", 4)]) (Γ1 := [.sh, .sh, .no, .sh, .sh, .no]) (i := 2) rfl sc.nd rfl rfl rfl (iSeq (cV 1 rfl (by decide) (pv 1))) (show BlkOk ["size", "leaves", "begun", "first", "catchword", "number"] (defScope st_least_bare) _ _ from ⟨rfl, by decide +kernel, by decide +kernel, by decide +kernel, by decide +kernel⟩) (fun _ _ _ _ _ => (hTup rfl (hCons (hName (i := 3) sc.nd rfl (by first | exact .inl rfl | exact .inr rfl) (by decide)) (hCons (hName (i := 4) sc.nd rfl (by first | exact .inl rfl | exact .inr rfl) (by decide)) hNil)))) (fun _ _ _ _ _ => kNil) (fun _ _ _ _ _ => (cV 3 rfl (by decide) (pv 3))) (fun _ _ _ _ _ => cBl) rfl (by decide) rfl) (zFrzDK (Γ := [.sh, .sh, (.dk .sh), .no, .no, .no]) 2 rfl rfl (zCons (Γ1 := [.sh, .sh, .sh, .no, .no, .no]) (zIf (qCmp (op_eqD hr.units) (eq_s rfl rfl) (cCallB cr_lenR (lenR_s rfl) (by rfl) (by exact T.z_len) PySem.boot_len (aCons (cV 2 rfl (by decide) (pv 2)) aNil)) (cV 0 rfl (by decide) (pv 0)) (nomark _)) (zOne (zRet (cOfP cNon) rfl)) zNil) (zCons (Γ1 := [.sh, .sh, .sh, .no, .no, .sh]) (zSet (i := 5) sc.nd rfl (by first | exact .inl rfl | exact .inr rfl) (cOfP cInt) (by decide) rfl) (zCons (Γ1 := [.sh, .sh, .sh, .no, .no, .sh]) (zWhile (Γ := [.sh, .sh, .sh, .no, .no, .sh]) PassesOwn.never (qCmp (op_din (hu_of hr)) (din_s rfl) (cV 5 rfl (by decide) (pv 5)) (cV 2 rfl (by decide) (pv 2)) (by with_unfolding_all rfl)) (zOne (zAug (i := 5) sc.nd rfl (by first | exact .inl rfl | exact .inr rfl) rfl cInt (by decide)))) (zOne (zRet (cOfP (cV 5 rfl (by decide) (pv 5))) rfl))))))))
theorem sc_is_integer : FnScope ["thing"] ["thing"] (defScope st_is_integer) := ⟨rfl, rfl, rfl, by decide +kernel, rfl, by decide +kernel, by decide +kernel⟩
theorem ok_is_integer (T : Tx K mg) : FnOk P w K mg base CX0 1 T.a_is_integer T.d_is_integer ["thing"] (spF K S_is_integer) :=
  fn_val (nl := 0) (fo := false) T.f_is_integer sc_is_integer rfl rfl rfl rfl (fun h => nomatch h) (fun cdv A outer s H E hr => show PSs _ _ (tS _ [.sh] ⟨[.no], [], [], [.no], .sh⟩ _) from
    have sc := sc_is_integer
    (zOne (zRet (cOfP (vAnd (cIsi isi_int (by rfl) (by exact T.z_isinstance) (pe_bltn (by rfl) (by exact T.z_int) PyProof.Rows.boot_int rfl) (cV 0 rfl (by decide) (pv 0))) (vOne (vNot (cIsi isi_bool (by rfl) (by exact T.z_isinstance) (pe_bltn (by rfl) (by exact T.z_bool) PyProof.Rows.boot_bool rfl) (cV 0 rfl (by decide) (pv 0))))))) rfl)))
theorem sc__moved : FnScope ["size", "word"] ["size", "word"] (defScope st__moved) := ⟨rfl, rfl, rfl, by decide +kernel, rfl, by decide +kernel, by decide +kernel⟩
theorem ok__moved (T : Tx K mg) : FnOk P w K mg base CX0 1 T.a__moved T.d__moved ["size", "word"] (spF K S__moved) :=
  fn_val (nl := 0) (fo := false) T.f__moved sc__moved rfl rfl rfl rfl (fun h => nomatch h) (fun cdv A outer s H E hr => show PSs _ _ (tS _ [.sh, .sh] ⟨[.no, .no], [], [], [.no, .no], .sh⟩ _) from
    have sc := sc__moved
    (zCons (Γ1 := [.sh, .sh]) (zIf (qCmp (op_eqD hr.units) (eq_s rfl rfl) (cV 1 rfl (by decide) (pv 1)) cInt (nomark _)) (zOne (zRet (cOfP cInt) rfl)) zNil) (zOne (zRet (cOfP (c2 op_sub sub_s (c2 op_add' add_s (cV 0 rfl (by decide) (pv 0)) (cV 1 rfl (by decide) (pv 1))) cInt)) rfl))))
theorem sc_backwards : FnScope ["heap", "size", "leaves", "first", "catchword"] ["heap"] (defScope st_backwards) := ⟨rfl, rfl, rfl, by decide +kernel, rfl, by decide +kernel, by decide +kernel⟩
theorem ok_backwards (T : Tx K mg) : FnOk P w K mg base CX0 1 T.a_backwards T.d_backwards ["heap"] (spF K S_backwards) :=
  fn_val (nl := 4) (fo := false) T.f_backwards sc_backwards rfl rfl rfl rfl (fun h => nomatch h) (fun cdv A outer s H E hr => show PSs _ _ (tS _ [.sh, .no, .no, .no, .no] ⟨[.no, .no, .no, .no, .no], [], [], [.no, .no, .no, .no, .no], .sh⟩ _) from
    have sc := sc_backwards
    (zCons (Γ1 := [.sh, .sh, .sh, .no, .no]) (zUnp (cV 0 rfl (by decide) (pv 0)) (hTup rfl (hCons (hName (i := 1) sc.nd rfl (by first | exact .inl rfl | exact .inr rfl) (by decide)) (hCons (hName (i := 2) sc.nd rfl (by first | exact .inl rfl | exact .inr rfl) (by decide)) hNil))) rfl) (zOne (zRet (cOfP (cTup (aCons (cV 1 rfl (by decide) (pv 1)) (aCons (cCallT call_tuple_of (tup_s rfl) (by rfl) (by exact T.z_tuple) PyProof.Rows.boot_tuple (aCons (cFrz (cCmp0 (own := [("first", 3), ("catchword", 4)]) (Γ1 := [.sh, .sh, .sh, .sh, .sh]) rfl sc.nd (iSeq (cV 2 rfl (by decide) (pv 2))) (show BlkOk ["heap", "size", "leaves", "first", "catchword"] (defScope st_backwards) _ _ from ⟨rfl, by decide +kernel, by decide +kernel, by decide +kernel, by decide +kernel⟩) (fun _ _ _ _ _ => (hTup rfl (hCons (hName (i := 3) sc.nd rfl (by first | exact .inl rfl | exact .inr rfl) (by decide)) (hCons (hName (i := 4) sc.nd rfl (by first | exact .inl rfl | exact .inr rfl) (by decide)) hNil)))) (fun _ _ _ _ _ => kNil) (fun _ _ _ _ _ => (cOfP (cTup (aCons (cV 4 rfl (by decide) (pv 4)) (aCons (cV 3 rfl (by decide) (pv 3)) aNil))))) rfl)) aNil)) aNil)))) rfl))))
theorem sc__law_mix : FnScope ["_law_cell", "_law_k", "_law_first", "_law_second"] ["_law_cell", "_law_k"] (defScope st__law_mix) := ⟨rfl, rfl, rfl, by decide +kernel, rfl, by decide +kernel, by decide +kernel⟩
theorem ok__law_mix (T : Tx K mg) : FnOk P w K mg base CX0 1 T.a__law_mix T.d__law_mix ["_law_cell", "_law_k"] (spF K S__law_mix) :=
  fn_val (nl := 2) (fo := false) T.f__law_mix sc__law_mix rfl rfl rfl rfl (fun h => nomatch h) (fun cdv A outer s H E hr => show PSs _ _ (tS _ [.sh, .sh, .no, .no] ⟨[.no, .no, .no, .no], [], [], [.no, .no, .no, .no], .sh⟩ _) from
    have sc := sc__law_mix
    (zCons (Γ1 := [.sh, .sh, .sh, .no]) (zSet (i := 2) sc.nd rfl (by first | exact .inl rfl | exact .inr rfl) (cOfP (c2 op_mod md_s (cCallT call_int1 int_s (by rfl) (by exact T.z_int) PyProof.Rows.boot_int (aCons (c2 op_add' add_s (c2 op_add' add_s (c2 op_mul' mul_s (cV 0 rfl (by decide) (pv 0)) cInt) (c2 op_mul' mul_s (cV 1 rfl (by decide) (pv 1)) cInt)) cInt) aNil)) cInt)) (by decide) rfl) (zCons (Γ1 := [.sh, .sh, .sh, .sh]) (zSet (i := 3) sc.nd rfl (by first | exact .inl rfl | exact .inr rfl) (cOfP (c2 op_mod md_s (cCallT call_int1 int_s (by rfl) (by exact T.z_int) PyProof.Rows.boot_int (aCons (c2 op_add' add_s (c2 op_add' add_s (c2 op_mul' mul_s (cV 2 rfl (by decide) (pv 2)) (cV 2 rfl (by decide) (pv 2))) (c2 op_mul' mul_s cInt (cV 2 rfl (by decide) (pv 2)))) (cV 1 rfl (by decide) (pv 1))) aNil)) cInt)) (by decide) rfl) (zOne (zRet (cOfP (c2 op_mod md_s (cCallT call_int1 int_s (by rfl) (by exact T.z_int) PyProof.Rows.boot_int (aCons (c2 op_add' add_s (c2 op_fdivW fd_s (cV 3 rfl (by decide) (pv 3)) cInt) (cV 2 rfl (by decide) (pv 2))) aNil)) cInt)) rfl)))))
theorem sc__law_pick : FnScope ["_law_cells_here", "_law_limit"] ["_law_cells_here", "_law_limit"] (defScope st__law_pick) := ⟨rfl, rfl, rfl, by decide +kernel, rfl, by decide +kernel, by decide +kernel⟩
theorem ok__law_pick (T : Tx K mg) : FnOk P w K mg base CX0 1 T.a__law_pick T.d__law_pick ["_law_cells_here", "_law_limit"] (spF K S__law_pick) :=
  fn_val (nl := 0) (fo := false) T.f__law_pick sc__law_pick rfl rfl rfl rfl (fun h => nomatch h) (fun cdv A outer s H E hr => show PSs _ _ (tS _ [(.ol .sh), .sh] ⟨[(.ol .sh), .no], [], [], [(.ol .sh), .no], .sh⟩ _) from
    have sc := sc__law_pick
    (zCons (Γ1 := [(.ol .sh), .sh]) (zIf (qCmp (op_eqD hr.units) (eq_s rfl rfl) (cCallB call_len' (len_s rfl) (by rfl) (by exact T.z_len) PySem.boot_len (aCons (cV 0 rfl (by decide) (pv 0)) aNil)) cInt (nomark _)) (zOne (zRet (cOfP cInt) rfl)) zNil) (zOne (zRetM (m2 op_mod md_s (mCallT call_int1 int_s rfl (by rfl) (by exact T.z_int) PyProof.Rows.boot_int (aMCons (mPop 0 (pe_bm0 PySem.F.plainAttrs_list PySem.F.slot_list_pop PySem.F.type_list_pop mt_pop (pv 0)) rfl) aMNil)) (mOfP (cV 1 rfl (by decide) (pv 1)))) rfl))))
theorem sc__law_opposite : FnScope ["_law_names", "_law_out", "_law_k"] ["_law_names"] (defScope st__law_opposite) := ⟨rfl, rfl, rfl, by decide +kernel, rfl, by decide +kernel, by decide +kernel⟩
theorem ok__law_opposite (T : Tx K mg) : FnOk P w K mg base CX0 1 T.a__law_opposite T.d__law_opposite ["_law_names"] (spF K S__law_opposite) :=
  fn_val (nl := 2) (fo := false) T.f__law_opposite sc__law_opposite rfl rfl rfl rfl (fun h => nomatch h) (fun cdv A outer s H E hr => show PSs _ _ (tS _ [.sh, .no, .no] ⟨[.no, .no, .no], [], [], [.no, .no, .no], .sh⟩ _) from
    have sc := sc__law_opposite
    (zCons (Γ1 := [.sh, (.ol .sh), .no]) (zSetCmp (own := [("_law_k", 2)]) (Γ1 := [.sh, .no, .sh]) (i := 1) rfl sc.nd rfl rfl rfl (Pv.iRng1 (by rfl) (by exact T.z_range) (aCons (cCallB call_len' (len_s rfl) (by rfl) (by exact T.z_len) PySem.boot_len (aCons (cV 0 rfl (by decide) (pv 0)) aNil)) aNil)) (show BlkOk ["_law_names", "_law_out", "_law_k"] (defScope st__law_opposite) _ _ from ⟨rfl, by decide +kernel, by decide +kernel, by decide +kernel, by decide +kernel⟩) (fun _ _ _ _ _ => (hName (i := 2) sc.nd rfl (by first | exact .inl rfl | exact .inr rfl) (by decide))) (fun _ _ _ _ _ => kNil) (fun _ _ _ _ _ => (cOfP cInt)) rfl (by decide) rfl) (zCons (Γ1 := [.sh, (.ol .sh), .no]) (zFor (Γ := [.sh, (.ol .sh), .no]) (Γ1 := [.sh, (.ol .sh), .sh]) PassesOwn.never rfl (Pv.iRng1 (by rfl) (by exact T.z_range) (aCons (cCallB call_len' (len_s rfl) (by rfl) (by exact T.z_len) PySem.boot_len (aCons (cV 0 rfl (by decide) (pv 0)) aNil)) aNil)) (hName (i := 2) sc.nd rfl (by first | exact .inl rfl | exact .inr rfl) (by decide)) (zWkn (n' := [.sh, (.ol .sh), .sh]) (zOne (zSetIx' 1 (pv 1) (cIx ix_sh (cV 0 rfl (by decide) (pv 0)) (cV 2 rfl (by decide) (pv 2)) (by intro _ _; rfl)) (mOfP (cV 2 rfl (by decide) (pv 2))) rfl)) rfl) rfl) (zFrz (Γ := [.sh, (.ol .sh), .no]) 1 rfl rfl (zOne (zRet (cOfP (cCallT call_tuple_of (tup_s rfl) (by rfl) (by exact T.z_tuple) PyProof.Rows.boot_tuple (aCons (cV 1 rfl (by decide) (pv 1)) aNil))) rfl))))))
theorem sc__law_without_loops : FnScope ["_law_pile", "_law_spot", "_law_pair"] ["_law_pile", "_law_spot"] (defScope st__law_without_loops) := ⟨rfl, rfl, rfl, by decide +kernel, rfl, by decide +kernel, by decide +kernel⟩
theorem ok__law_without_loops (T : Tx K mg) : FnOk P w K mg base CX0 1 T.a__law_without_loops T.d__law_without_loops ["_law_pile", "_law_spot"] (spF K S__law_without_loops) :=
  fn_val (nl := 1) (fo := false) T.f__law_without_loops sc__law_without_loops rfl rfl rfl rfl (fun h => nomatch h) (fun cdv A outer s H E hr => show PSs _ _ (tS _ [.sh, .sh, .no] ⟨[.no, .no, .no], [], [], [.no, .no, .no], .sh⟩ _) from
    have sc := sc__law_without_loops
    (zOne (zRet (cOfP (cTup (aCons (cIx ix_sh (cV 0 rfl (by decide) (pv 0)) cInt (by intro _ _; rfl)) (aCons (cCallT call_tuple_of (tup_s rfl) (by rfl) (by exact T.z_tuple) PyProof.Rows.boot_tuple (aCons (cFrz (cCmp0 (own := [("_law_pair", 2)]) (Γ1 := [.sh, .sh, .sh]) rfl sc.nd (iSeq (cIx ix_sh (cV 0 rfl (by decide) (pv 0)) cInt (by intro _ _; rfl))) (show BlkOk ["_law_pile", "_law_spot", "_law_pair"] (defScope st__law_without_loops) _ _ from ⟨rfl, by decide +kernel, by decide +kernel, by decide +kernel, by decide +kernel⟩) (fun _ _ _ _ _ => (hName (i := 2) sc.nd rfl (by first | exact .inl rfl | exact .inr rfl) (by decide))) (fun _ _ _ _ _ => (kOne (qCmp (op_neD hr.units) (ne_s rfl rfl) (cV 2 rfl (by decide) (pv 2)) (cTup (aCons (cV 1 rfl (by decide) (pv 1)) (aCons (cV 1 rfl (by decide) (pv 1)) aNil))) (nomark _)))) (fun _ _ _ _ _ => (cOfP (cV 2 rfl (by decide) (pv 2)))) rfl)) aNil)) aNil)))) rfl)))
theorem sc__law_home : FnScope ["_law_size", "_law_part", "_law_least", "_law_w", "_law_homes"] ["_law_size", "_law_part"] (defScope st__law_home) := ⟨rfl, rfl, rfl, by decide +kernel, rfl, by decide +kernel, by decide +kernel⟩
theorem ok__law_home (T : Tx K mg) : FnOk P w K mg base CX0 1 T.a__law_home T.d__law_home ["_law_size", "_law_part"] (spF K S__law_home) :=
  fn_val (nl := 3) (fo := false) T.f__law_home sc__law_home rfl rfl rfl rfl (fun h => nomatch h) (fun cdv A outer s H E hr => show PSs _ _ (tS _ [.sh, .sh, .no, .no, .no] ⟨[.no, .no, .no, .no, .no], [], [], [.no, .no, .no, .no, .no], .sh⟩ _) from
    have sc := sc__law_home
    (zCons (Γ1 := [.sh, .sh, (.ol .sh), .no, .no]) (zSetCmp (own := [("_law_w", 3)]) (Γ1 := [.sh, .sh, .no, .sh, .no]) (i := 2) rfl sc.nd rfl rfl rfl (Pv.iRng1 (by rfl) (by exact T.z_range) (aCons (cV 0 rfl (by decide) (pv 0)) aNil)) (show BlkOk ["_law_size", "_law_part", "_law_least", "_law_w", "_law_homes"] (defScope st__law_home) _ _ from ⟨rfl, by decide +kernel, by decide +kernel, by decide +kernel, by decide +kernel⟩) (fun _ _ _ _ _ => (hName (i := 3) sc.nd rfl (by first | exact .inl rfl | exact .inr rfl) (by decide))) (fun _ _ _ _ _ => (kOne (qOr (qCmp op_notIn_seq (notin_s rfl) (cV 3 rfl (by decide) (pv 3)) (cV 1 rfl (by decide) (pv 1)) (by with_unfolding_all rfl)) (qOr1 (qCmp (op_eqD hr.units) (eq_s rfl rfl) (cV 3 rfl (by decide) (pv 3)) (cIx ix_sh (cV 1 rfl (by decide) (pv 1)) cInt (by intro _ _; rfl)) (nomark _)))).pt)) (fun _ _ _ _ _ => (cOfP (cV 3 rfl (by decide) (pv 3)))) rfl (by decide) rfl) (zFrz (Γ := [.sh, .sh, (.ol .sh), .no, .no]) 2 rfl rfl (zCons (Γ1 := [.sh, .sh, .sh, .no, (.ol .sh)]) (zSet (i := 4) sc.nd rfl (by first | exact .inl rfl | exact .inr rfl) (cNew (t := .sh)) (by decide) rfl) (zCons (Γ1 := [.sh, .sh, .sh, .no, (.ol .sh)]) (zFor (Γ := [.sh, .sh, .sh, .no, (.ol .sh)]) (Γ1 := [.sh, .sh, .sh, .sh, (.ol .sh)]) PassesOwn.never rfl (Pv.iRng1 (by rfl) (by exact T.z_range) (aCons (cV 0 rfl (by decide) (pv 0)) aNil)) (hName (i := 3) sc.nd rfl (by first | exact .inl rfl | exact .inr rfl) (by decide)) (zWkn (n' := [.sh, .sh, .sh, .sh, (.ol .sh)]) (zOne (zIf (qCmp op_in_seq (in_s rfl) (cV 3 rfl (by decide) (pv 3)) (cV 1 rfl (by decide) (pv 1)) (by with_unfolding_all rfl)) (zOne (zDrop (mApp 4 (pe_bm PySem.F.plainAttrs_list PySem.F.slot_list_append PySem.F.type_list_append mt_append (pv 4) (pa_cons (mOfP (cIndex (t := .sh) rfl (pe_bm PySem.F.plainAttrs_list PySem.F.slot_list_index PySem.F.type_list_index mt_index (cV 2 rfl (by decide) (pv 2)) (pa_cons (cIx ix_sh (cV 1 rfl (by decide) (pv 1)) cInt (by intro _ _; rfl)) pa_nil)))) pa_nil)) rfl rfl))) (zOne (zDrop (mApp 4 (pe_bm PySem.F.plainAttrs_list PySem.F.slot_list_append PySem.F.type_list_append mt_append (pv 4) (pa_cons (mOfP (cIndex (t := .sh) rfl (pe_bm PySem.F.plainAttrs_list PySem.F.slot_list_index PySem.F.type_list_index mt_index (cV 2 rfl (by decide) (pv 2)) (pa_cons (cV 3 rfl (by decide) (pv 3)) pa_nil)))) pa_nil)) rfl rfl))))) rfl) rfl) (zFrz (Γ := [.sh, .sh, .sh, .no, (.ol .sh)]) 4 rfl rfl (zOne (zRet (cOfP (cCallT call_tuple_of (tup_s rfl) (by rfl) (by exact T.z_tuple) PyProof.Rows.boot_tuple (aCons (cV 4 rfl (by decide) (pv 4)) aNil))) rfl))))))))
theorem sc_first_fault : FnScope ["size", "leaves", "uneven", "bare", "piece"] ["size", "leaves"] (defScope st_first_fault) := ⟨rfl, rfl, rfl, by decide +kernel, rfl, by decide +kernel, by decide +kernel⟩
theorem ok_first_fault (T : Tx K mg) : FnOk P w K mg base CX0 2 T.a_first_fault T.d_first_fault ["size", "leaves"] (spF K S_first_fault) :=
  fn_val (nl := 3) (fo := false) T.f_first_fault sc_first_fault rfl rfl rfl rfl (fun h => nomatch h) (fun cdv A outer s H E hr => show PSs _ _ (tS _ [.sh, .sh, .no, .no, .no] ⟨[.no, .no, .no, .no, .no], [], [], [.no, .no, .no, .no, .no], .sh⟩ _) from
    have sc := sc_first_fault
    (zCons (Γ1 := [.sh, .sh, .sh, .no, .no]) (zSet (i := 2) sc.nd rfl (by first | exact .inl rfl | exact .inr rfl) (cCall (S := (S_least_uneven)) (ok_least_uneven T) (hr.mono (by decide)) (by rfl) (by exact T.m_least_uneven) (by exact T.k_least_uneven) (by exact T.b_least_uneven) (aCons (cV 1 rfl (by decide) (pv 1)) aNil) rfl rfl) (by decide) rfl) (zCons (Γ1 := [.sh, .sh, .sh, .no, .no]) (zIf (qCmp op_notN notN_s (cV 2 rfl (by decide) (pv 2)) cNon (by with_unfolding_all rfl)) (zOne (zRet (cOfP (cTup (aCons cStr (aCons (cV 2 rfl (by decide) (pv 2)) aNil)))) rfl)) zNil) (zCons (Γ1 := [.sh, .sh, .sh, .sh, .no]) (zSet (i := 3) sc.nd rfl (by first | exact .inl rfl | exact .inr rfl) (cCall (S := (S_least_bare)) (ok_least_bare T) (hr.mono (by decide)) (by rfl) (by exact T.m_least_bare) (by exact T.k_least_bare) (by exact T.b_least_bare) (aCons (cV 0 rfl (by decide) (pv 0)) (aCons (cV 1 rfl (by decide) (pv 1)) aNil)) rfl rfl) (by decide) rfl) (zCons (Γ1 := [.sh, .sh, .sh, .sh, .no]) (zIf (qCmp op_notN notN_s (cV 3 rfl (by decide) (pv 3)) cNon (by with_unfolding_all rfl)) (zOne (zRet (cOfP (cTup (aCons cStr (aCons (cV 3 rfl (by decide) (pv 3)) aNil)))) rfl)) zNil) (zCons (Γ1 := [.sh, .sh, .sh, .sh, .sh]) (zSet (i := 4) sc.nd rfl (by first | exact .inl rfl | exact .inr rfl) (cCall (S := (S_piece_by)) (ok_piece_by T) (hr.mono (by decide)) (by rfl) (by exact T.m_piece_by) (by exact T.k_piece_by) (by exact T.b_piece_by) (aCons (pOfC (cCall (S := (S_word_bonds)) (ok_word_bonds T) (hr.mono (by decide)) (by rfl) (by exact T.m_word_bonds) (by exact T.k_word_bonds) (by exact T.b_word_bonds) (aCons (cV 1 rfl (by decide) (pv 1)) aNil) rfl rfl)) (aCons cInt aNil)) rfl rfl) (by decide) rfl) (zCons (Γ1 := [.sh, .sh, .sh, .sh, .sh]) (zIf (qCmp op_lt lt_s (cCallB call_len' (len_s rfl) (by rfl) (by exact T.z_len) PySem.boot_len (aCons (cV 4 rfl (by decide) (pv 4)) aNil)) (cV 0 rfl (by decide) (pv 0)) (nomark _)) (zOne (zRet (cOfP (cTup (aCons cStr (aCons (cV 4 rfl (by decide) (pv 4)) aNil)))) rfl)) zNil) (zOne (zRet (cOfP cNon) rfl)))))))))
theorem sc_is_number : FnScope ["thing"] ["thing"] (defScope st_is_number) := ⟨rfl, rfl, rfl, by decide +kernel, rfl, by decide +kernel, by decide +kernel⟩
theorem ok_is_number (T : Tx K mg) : FnOk P w K mg base CX0 2 T.a_is_number T.d_is_number ["thing"] (spF K S_is_number) :=
  fn_val (nl := 0) (fo := false) T.f_is_number sc_is_number rfl rfl rfl rfl (fun h => nomatch h) (fun cdv A outer s H E hr => show PSs _ _ (tS _ [.sh] ⟨[.no], [], [], [.no], .sh⟩ _) from
    have sc := sc_is_number
    (zOne (zRet (cOfP (vAnd (pOfC (cCall (S := (S_is_integer)) (ok_is_integer T) (hr.mono (by decide)) (by rfl) (by exact T.m_is_integer) (by exact T.k_is_integer) (by exact T.b_is_integer) (aCons (cV 0 rfl (by decide) (pv 0)) aNil) rfl rfl)) (vOne (cCmp op_ge ge_s (cV 0 rfl (by decide) (pv 0)) cInt (nomark _))))) rfl)))
theorem sc__law_cells : FnScope ["_law_script", "_law_many_more", "_law_row_of", "_law_seed", "_law_cell", "_law_left", "_law_k"] ["_law_script", "_law_many_more"] (defScope st__law_cells) := ⟨rfl, rfl, rfl, by decide +kernel, rfl, by decide +kernel, by decide +kernel⟩
theorem ok__law_cells (T : Tx K mg) : FnOk P w K mg base CX0 2 T.a__law_cells T.d__law_cells ["_law_script", "_law_many_more"] (spF K S__law_cells) :=
  fn_val (nl := 5) (fo := false) T.f__law_cells sc__law_cells rfl rfl rfl rfl (fun h => nomatch h) (fun cdv A outer s H E hr => show PSs _ _ (tS _ [.sh, .sh, .no, .no, .no, .no, .no] ⟨[.no, .no, .no, .no, .no, .no, .no], [], [], [.no, .no, .no, .no, .no, .no, .no], (.ol .sh)⟩ _) from
    have sc := sc__law_cells
    (zCons (Γ1 := [.sh, .sh, (.ol .sh), .no, .no, .no, .no]) (zSet (i := 2) sc.nd rfl (by first | exact .inl rfl | exact .inr rfl) (cNew (t := .sh)) (by decide) rfl) (zCons (Γ1 := [.sh, .sh, (.ol .sh), .sh, .no, .no, .no]) (zSet (i := 3) sc.nd rfl (by first | exact .inl rfl | exact .inr rfl) (cOfP (c2 op_add' add_s cInt (c2 op_mul' mul_s cInt (cCallB call_len' (len_s rfl) (by rfl) (by exact T.z_len) PySem.boot_len (aCons (cV 0 rfl (by decide) (pv 0)) aNil))))) (by decide) rfl) (zCons (Γ1 := [.sh, .sh, (.ol .sh), .sh, .no, .no, .no]) (zFor (Γ := [.sh, .sh, (.ol .sh), .sh, .no, .no, .no]) (Γ1 := [.sh, .sh, (.ol .sh), .sh, .sh, .no, .no]) PassesOwn.never rfl (iSeq (cV 0 rfl (by decide) (pv 0))) (hName (i := 4) sc.nd rfl (by first | exact .inl rfl | exact .inr rfl) (by decide)) (zWkn (n' := [.sh, .sh, (.ol .sh), .sh, .sh, .sh, .no]) (zCons (Γ1 := [.sh, .sh, (.ol .sh), .sh, .sh, .sh, .no]) (zSet (i := 5) sc.nd rfl (by first | exact .inl rfl | exact .inr rfl) (cOfP (cCallB call_abs abs_s (by rfl) (by exact T.z_abs) (by decide +kernel) (aCons (cCallT call_int1 int_s (by rfl) (by exact T.z_int) PyProof.Rows.boot_int (aCons (cV 4 rfl (by decide) (pv 4)) aNil)) aNil))) (by decide) rfl) (zCons (Γ1 := [.sh, .sh, (.ol .sh), .sh, .sh, .sh, .no]) (zSet (i := 3) sc.nd rfl (by first | exact .inl rfl | exact .inr rfl) (cOfP (c2 op_mod md_s (cCallT call_int1 int_s (by rfl) (by exact T.z_int) PyProof.Rows.boot_int (aCons (c2 op_add' add_s (c2 op_mul' mul_s (cV 3 rfl (by decide) (pv 3)) cInt) (cV 4 rfl (by decide) (pv 4))) aNil)) cInt)) (by decide) rfl) (zOne (zIf (qCmp op_ge ge_s (cV 5 rfl (by decide) (pv 5)) (c2 op_pow pow_s cInt cInt) (nomark _)) (zOne (zFor (Γ := [.sh, .sh, (.ol .sh), .sh, .sh, .sh, .no]) (Γ1 := [.sh, .sh, (.ol .sh), .sh, .sh, .sh, .sh]) PassesOwn.never rfl (Pv.iRng1 (by rfl) (by exact T.z_range) (aCons cInt aNil)) (hName (i := 6) sc.nd rfl (by first | exact .inl rfl | exact .inr rfl) (by decide)) (zWkn (n' := [.sh, .sh, (.ol .sh), .sh, .sh, .sh, .sh]) (zOne (zIf (qCmp op_gt gt_s (cV 5 rfl (by decide) (pv 5)) cInt (nomark _)) (zCons (Γ1 := [.sh, .sh, (.ol .sh), .sh, .sh, .sh, .sh]) (zDrop (mApp 2 (pe_bm PySem.F.plainAttrs_list PySem.F.slot_list_append PySem.F.type_list_append mt_append (pv 2) (pa_cons (mOfP (c2 op_mod md_s (cCallT call_int1 int_s (by rfl) (by exact T.z_int) PyProof.Rows.boot_int (aCons (cV 5 rfl (by decide) (pv 5)) aNil)) cInt)) pa_nil)) rfl rfl)) (zOne (zSet (i := 5) sc.nd rfl (by first | exact .inl rfl | exact .inr rfl) (cOfP (c2 op_fdivW fd_s (cV 5 rfl (by decide) (pv 5)) cInt)) (by decide) rfl))) zNil)) rfl) rfl)) (zOne (zDrop (mApp 2 (pe_bm PySem.F.plainAttrs_list PySem.F.slot_list_append PySem.F.type_list_append mt_append (pv 2) (pa_cons (mOfP (pOfC (cCall (S := (S__law_mix)) (ok__law_mix T) (hr.mono (by decide)) (by rfl) (by exact T.m__law_mix) (by exact T.k__law_mix) (by exact T.b__law_mix) (aCons (cCallT call_int1 int_s (by rfl) (by exact T.z_int) PyProof.Rows.boot_int (aCons (cV 4 rfl (by decide) (pv 4)) aNil)) (aCons (cCallB call_len' (len_s rfl) (by rfl) (by exact T.z_len) PySem.boot_len (aCons (cV 2 rfl (by decide) (pv 2)) aNil)) aNil)) rfl rfl))) pa_nil)) rfl rfl))))))) rfl) rfl) (zCons (Γ1 := [.sh, .sh, (.ol .sh), .sh, .no, .no, .no]) (zFor (Γ := [.sh, .sh, (.ol .sh), .sh, .no, .no, .no]) (Γ1 := [.sh, .sh, (.ol .sh), .sh, .no, .no, .sh]) PassesOwn.never rfl (Pv.iRng1 (by rfl) (by exact T.z_range) (aCons (cV 1 rfl (by decide) (pv 1)) aNil)) (hName (i := 6) sc.nd rfl (by first | exact .inl rfl | exact .inr rfl) (by decide)) (zWkn (n' := [.sh, .sh, (.ol .sh), .sh, .no, .no, .sh]) (zOne (zDrop (mApp 2 (pe_bm PySem.F.plainAttrs_list PySem.F.slot_list_append PySem.F.type_list_append mt_append (pv 2) (pa_cons (mOfP (pOfC (cCall (S := (S__law_mix)) (ok__law_mix T) (hr.mono (by decide)) (by rfl) (by exact T.m__law_mix) (by exact T.k__law_mix) (by exact T.b__law_mix) (aCons (cV 3 rfl (by decide) (pv 3)) (aCons (c2 op_add' add_s cInt (cV 6 rfl (by decide) (pv 6))) aNil)) rfl rfl))) pa_nil)) rfl rfl))) rfl) rfl) (zFrz (Γ := [.sh, .sh, (.ol .sh), .sh, .no, .no, .no]) 2 rfl rfl (zOne (zRet (cLstRev rfl (by rfl) (by exact T.z_list) (by rfl) (by exact T.z_reversed) rfl (cV 2 rfl (by decide) (pv 2))) rfl))))))))
theorem sc__law_dealt : FnScope ["_law_cells_here", "_law_things", "_law_rest", "_law_out", "_law_k"] ["_law_cells_here", "_law_things"] (defScope st__law_dealt) := ⟨rfl, rfl, rfl, by decide +kernel, rfl, by decide +kernel, by decide +kernel⟩
theorem ok__law_dealt (T : Tx K mg) : FnOk P w K mg base CX0 2 T.a__law_dealt T.d__law_dealt ["_law_cells_here", "_law_things"] (spF K S__law_dealt) :=
  fn_val (nl := 3) (fo := false) T.f__law_dealt sc__law_dealt rfl rfl rfl rfl (fun h => nomatch h) (fun cdv A outer s H E hr => show PSs _ _ (tS _ [(.ol .sh), .sh, .no, .no, .no] ⟨[(.ol .sh), .no, .no, .no, .no], [], [], [(.ol .sh), .no, .no, .no, .no], .sh⟩ _) from
    have sc := sc__law_dealt
    (zCons (Γ1 := [(.ol .sh), .sh, (.ol .sh), .no, .no]) (zSet (i := 2) sc.nd rfl (by first | exact .inl rfl | exact .inr rfl) (cListC (by rfl) (by exact T.z_list) rfl (aCons (cV 1 rfl (by decide) (pv 1)) aNil)) (by decide) rfl) (zCons (Γ1 := [(.ol .sh), .sh, (.ol .sh), (.ol .sh), .no]) (zSet (i := 3) sc.nd rfl (by first | exact .inl rfl | exact .inr rfl) (cNew (t := .sh)) (by decide) rfl) (zCons (Γ1 := [(.ol .sh), .sh, (.ol .sh), (.ol .sh), .no]) (zFor (Γ := [(.ol .sh), .sh, (.ol .sh), (.ol .sh), .no]) (Γ1 := [(.ol .sh), .sh, (.ol .sh), (.ol .sh), .sh]) PassesOwn.never rfl (Pv.iRng1 (by rfl) (by exact T.z_range) (aCons (cCallB call_len' (len_s rfl) (by rfl) (by exact T.z_len) PySem.boot_len (aCons (cV 1 rfl (by decide) (pv 1)) aNil)) aNil)) (hName (i := 4) sc.nd rfl (by first | exact .inl rfl | exact .inr rfl) (by decide)) (zWkn (n' := [(.ol .sh), .sh, (.ol .sh), (.ol .sh), .sh]) (zOne (zDrop (mApp 3 (pe_bm PySem.F.plainAttrs_list PySem.F.slot_list_append PySem.F.type_list_append mt_append (pv 3) (pa_cons (mPopAt 2 (pe_bm PySem.F.plainAttrs_list PySem.F.slot_list_pop PySem.F.type_list_pop mt_popAt (pv 2) (pa_cons (mCall (S := (S__law_pick)) (ok__law_pick T) (hr.mono (by decide)) (by rfl) (by exact T.m__law_pick) (by exact T.k__law_pick) (by exact T.b__law_pick) (aMIo 0 rfl (by decide) (pv 0) (aMCons (mOfP (cCallB call_len' (len_s rfl) (by rfl) (by exact T.z_len) PySem.boot_len (aCons (cV 2 rfl (by decide) (pv 2)) aNil))) aMNil))) pa_nil)) rfl rfl) pa_nil)) rfl rfl))) rfl) rfl) (zFrz (Γ := [(.ol .sh), .sh, (.ol .sh), (.ol .sh), .no]) 3 rfl rfl (zOne (zRet (cOfP (cV 3 rfl (by decide) (pv 3))) rfl)))))))
theorem sc__law_put : FnScope ["_law_pile", "_law_part", "_law_homes", "_law_kept", "_law_pair"] ["_law_pile", "_law_part"] (defScope st__law_put) := ⟨rfl, rfl, rfl, by decide +kernel, rfl, by decide +kernel, by decide +kernel⟩
theorem ok__law_put (T : Tx K mg) : FnOk P w K mg base CX0 2 T.a__law_put T.d__law_put ["_law_pile", "_law_part"] (spF K S__law_put) :=
  fn_val (nl := 3) (fo := false) T.f__law_put sc__law_put rfl rfl rfl rfl (fun h => nomatch h) (fun cdv A outer s H E hr => show PSs _ _ (tS _ [.sh, .sh, .no, .no, .no] ⟨[.no, .no, .no, .no, .no], [], [], [.no, .no, .no, .no, .no], .sh⟩ _) from
    have sc := sc__law_put
    (zCons (Γ1 := [.sh, .sh, .sh, .no, .no]) (zSet (i := 2) sc.nd rfl (by first | exact .inl rfl | exact .inr rfl) (cCall (S := (S__law_home)) (ok__law_home T) (hr.mono (by decide)) (by rfl) (by exact T.m__law_home) (by exact T.k__law_home) (by exact T.b__law_home) (aCons (cIx ix_sh (cV 0 rfl (by decide) (pv 0)) cInt (by intro _ _; rfl)) (aCons (cV 1 rfl (by decide) (pv 1)) aNil)) rfl rfl) (by decide) rfl) (zCons (Γ1 := [.sh, .sh, .sh, (.ol .sh), .no]) (zSetCmp (own := [("_law_pair", 4)]) (Γ1 := [.sh, .sh, .sh, .no, .sh]) (i := 3) rfl sc.nd rfl rfl rfl (iSeq (cIx ix_sh (cV 0 rfl (by decide) (pv 0)) cInt (by intro _ _; rfl))) (show BlkOk ["_law_pile", "_law_part", "_law_homes", "_law_kept", "_law_pair"] (defScope st__law_put) _ _ from ⟨rfl, by decide +kernel, by decide +kernel, by decide +kernel, by decide +kernel⟩) (fun _ _ _ _ _ => (hName (i := 4) sc.nd rfl (by first | exact .inl rfl | exact .inr rfl) (by decide))) (fun _ _ _ _ _ => (kOne (qOr (qCmp op_notIn_seq (notin_s rfl) (cIx ix_sh (cV 4 rfl (by decide) (pv 4)) cInt (by intro _ _; rfl)) (cV 1 rfl (by decide) (pv 1)) (by with_unfolding_all rfl)) (qOr1 (qCmp op_notIn_seq (notin_s rfl) (cIx ix_sh (cV 4 rfl (by decide) (pv 4)) cInt (by intro _ _; rfl)) (cV 1 rfl (by decide) (pv 1)) (by with_unfolding_all rfl)))).pt)) (fun _ _ _ _ _ => (cOfP (cV 4 rfl (by decide) (pv 4)))) rfl (by decide) rfl) (zFrz (Γ := [.sh, .sh, .sh, (.ol .sh), .no]) 3 rfl rfl (zOne (zRet (cOfP (cTup (aCons (c2 op_add' add_s (c2 op_sub sub_s (cIx ix_sh (cV 0 rfl (by decide) (pv 0)) cInt (by intro _ _; rfl)) (cCallB call_len' (len_s rfl) (by rfl) (by exact T.z_len) PySem.boot_len (aCons (cV 1 rfl (by decide) (pv 1)) aNil))) cInt) (aCons (cCallT call_tuple_of (tup_s rfl) (by rfl) (by exact T.z_tuple) PyProof.Rows.boot_tuple (aCons (cFrz (cCmp0 (own := [("_law_pair", 4)]) (Γ1 := [.sh, .sh, .sh, .sh, .sh]) rfl sc.nd (iSeq (cV 3 rfl (by decide) (pv 3))) (show BlkOk ["_law_pile", "_law_part", "_law_homes", "_law_kept", "_law_pair"] (defScope st__law_put) _ _ from ⟨rfl, by decide +kernel, by decide +kernel, by decide +kernel, by decide +kernel⟩) (fun _ _ _ _ _ => (hName (i := 4) sc.nd rfl (by first | exact .inl rfl | exact .inr rfl) (by decide))) (fun _ _ _ _ _ => kNil) (fun _ _ _ _ _ => (cOfP (cTup (aCons (cIx ix_sh (cV 2 rfl (by decide) (pv 2)) (cIx ix_sh (cV 4 rfl (by decide) (pv 4)) cInt (by intro _ _; rfl)) (by intro _ _; rfl)) (aCons (cIx ix_sh (cV 2 rfl (by decide) (pv 2)) (cIx ix_sh (cV 4 rfl (by decide) (pv 4)) cInt (by intro _ _; rfl)) (by intro _ _; rfl)) aNil))))) rfl)) aNil)) aNil)))) rfl))))))
theorem sc_is_heap : FnScope ["thing", "size", "leaves", "row", "part"] ["thing"] (defScope st_is_heap) := ⟨rfl, rfl, rfl, by decide +kernel, rfl, by decide +kernel, by decide +kernel⟩
theorem ok_is_heap (T : Tx K mg) : FnOk P w K mg base CX0 3 T.a_is_heap T.d_is_heap ["thing"] (spF K S_is_heap) :=
  fn_val (nl := 4) (fo := false) T.f_is_heap sc_is_heap rfl rfl rfl rfl (fun h => nomatch h) (fun cdv A outer s H E hr => show PSs _ _ (tS _ [.sh, .no, .no, .no, .no] ⟨[.no, .no, .no, .no, .no], [], [], [.no, .no, .no, .no, .no], .sh⟩ _) from
    have sc := sc_is_heap
    (zCons (Γ1 := [.sh, .no, .no, .no, .no]) (zIf (qOr (qNot (qVal (cIsi isi_tuple (by rfl) (by exact T.z_isinstance) (pe_bltn (by rfl) (by exact T.z_tuple) PyProof.Rows.boot_tuple rfl) (cV 0 rfl (by decide) (pv 0))))) (qOr1 (qCmp (op_neD hr.units) (ne_s rfl rfl) (cCallB call_len' (len_s rfl) (by rfl) (by exact T.z_len) PySem.boot_len (aCons (cV 0 rfl (by decide) (pv 0)) aNil)) cInt (nomark _)))).pt (zOne (zRet (cOfP cBl) rfl)) zNil) (zCons (Γ1 := [.sh, .sh, .sh, .no, .no]) (zUnp (cV 0 rfl (by decide) (pv 0)) (hTup rfl (hCons (hName (i := 1) sc.nd rfl (by first | exact .inl rfl | exact .inr rfl) (by decide)) (hCons (hName (i := 2) sc.nd rfl (by first | exact .inl rfl | exact .inr rfl) (by decide)) hNil))) rfl) (zCons (Γ1 := [.sh, .sh, .sh, .no, .no]) (zIf (qOr (qNot (qVal (pOfC (cCall (S := (S_is_number)) (ok_is_number T) (hr.mono (by decide)) (by rfl) (by exact T.m_is_number) (by exact T.k_is_number) (by exact T.b_is_number) (aCons (cV 1 rfl (by decide) (pv 1)) aNil) rfl rfl)))) (qOr (qCmp op_lt lt_s (cV 1 rfl (by decide) (pv 1)) cInt (nomark _)) (qOr1 (qNot (qVal (cIsi isi_tuple (by rfl) (by exact T.z_isinstance) (pe_bltn (by rfl) (by exact T.z_tuple) PyProof.Rows.boot_tuple rfl) (cV 2 rfl (by decide) (pv 2)))))))).pt (zOne (zRet (cOfP cBl) rfl)) zNil) (zCons (Γ1 := [.sh, .sh, .sh, .no, .no]) (zFor (Γ := [.sh, .sh, .sh, .no, .no]) (Γ1 := [.sh, .sh, .sh, .sh, .no]) PassesOwn.never rfl (iSeq (cV 2 rfl (by decide) (pv 2))) (hName (i := 3) sc.nd rfl (by first | exact .inl rfl | exact .inr rfl) (by decide)) (zWkn (n' := [.sh, .sh, .sh, .sh, .no]) (zCons (Γ1 := [.sh, .sh, .sh, .sh, .no]) (zIf (qOr (qNot (qVal (cIsi isi_tuple (by rfl) (by exact T.z_isinstance) (pe_bltn (by rfl) (by exact T.z_tuple) PyProof.Rows.boot_tuple rfl) (cV 3 rfl (by decide) (pv 3))))) (qOr1 (qCmp (op_neD hr.units) (ne_s rfl rfl) (cCallB call_len' (len_s rfl) (by rfl) (by exact T.z_len) PySem.boot_len (aCons (cV 3 rfl (by decide) (pv 3)) aNil)) cInt (nomark _)))).pt (zOne (zRet (cOfP cBl) rfl)) zNil) (zOne (zFor (Γ := [.sh, .sh, .sh, .sh, .no]) (Γ1 := [.sh, .sh, .sh, .sh, .sh]) PassesOwn.never rfl (iSeq (cV 3 rfl (by decide) (pv 3))) (hName (i := 4) sc.nd rfl (by first | exact .inl rfl | exact .inr rfl) (by decide)) (zWkn (n' := [.sh, .sh, .sh, .sh, .sh]) (zOne (zIf (qOr (qNot (qVal (pOfC (cCall (S := (S_is_number)) (ok_is_number T) (hr.mono (by decide)) (by rfl) (by exact T.m_is_number) (by exact T.k_is_number) (by exact T.b_is_number) (aCons (cV 4 rfl (by decide) (pv 4)) aNil) rfl rfl)))) (qOr1 (qCmp op_ge ge_s (cV 4 rfl (by decide) (pv 4)) (cV 1 rfl (by decide) (pv 1)) (nomark _)))).pt (zOne (zRet (cOfP cBl) rfl)) zNil)) rfl) rfl))) rfl) rfl) (zOne (zRet (cOfP cBl) rfl)))))))
theorem sc_is_word : FnScope ["heap", "thing"] ["heap", "thing"] (defScope st_is_word) := ⟨rfl, rfl, rfl, by decide +kernel, rfl, by decide +kernel, by decide +kernel⟩
theorem ok_is_word (T : Tx K mg) : FnOk P w K mg base CX0 3 T.a_is_word T.d_is_word ["heap", "thing"] (spF K S_is_word) :=
  fn_val (nl := 0) (fo := false) T.f_is_word sc_is_word rfl rfl rfl rfl (fun h => nomatch h) (fun cdv A outer s H E hr => show PSs _ _ (tS _ [.sh, .sh] ⟨[.no, .no], [], [], [.no, .no], .sh⟩ _) from
    have sc := sc_is_word
    (zOne (zRet (cOfP (vAnd (pOfC (cCall (S := (S_is_number)) (ok_is_number T) (hr.mono (by decide)) (by rfl) (by exact T.m_is_number) (by exact T.k_is_number) (by exact T.b_is_number) (aCons (cV 1 rfl (by decide) (pv 1)) aNil) rfl rfl)) (vOne (cCmp op_lt lt_s (cV 1 rfl (by decide) (pv 1)) (cIx ix_sh (cV 0 rfl (by decide) (pv 0)) cInt (by intro _ _; rfl)) (nomark _))))) rfl)))
theorem sc_is_leaf : FnScope ["heap", "thing"] ["heap", "thing"] (defScope st_is_leaf) := ⟨rfl, rfl, rfl, by decide +kernel, rfl, by decide +kernel, by decide +kernel⟩
theorem ok_is_leaf (T : Tx K mg) : FnOk P w K mg base CX0 3 T.a_is_leaf T.d_is_leaf ["heap", "thing"] (spF K S_is_leaf) :=
  fn_val (nl := 0) (fo := false) T.f_is_leaf sc_is_leaf rfl rfl rfl rfl (fun h => nomatch h) (fun cdv A outer s H E hr => show PSs _ _ (tS _ [.sh, .sh] ⟨[.no, .no], [], [], [.no, .no], .sh⟩ _) from
    have sc := sc_is_leaf
    (zOne (zRet (cOfP (vAnd (pOfC (cCall (S := (S_is_number)) (ok_is_number T) (hr.mono (by decide)) (by rfl) (by exact T.m_is_number) (by exact T.k_is_number) (by exact T.b_is_number) (aCons (cV 1 rfl (by decide) (pv 1)) aNil) rfl rfl)) (vOne (cCmp op_lt lt_s (cV 1 rfl (by decide) (pv 1)) (cCallB call_len' (len_s rfl) (by rfl) (by exact T.z_len) PySem.boot_len (aCons (cIx ix_sh (cV 0 rfl (by decide) (pv 0)) cInt (by intro _ _; rfl)) aNil)) (nomark _))))) rfl)))
theorem sc_is_order : FnScope ["many", "thing", "part"] ["many", "thing"] (defScope st_is_order) := ⟨rfl, rfl, rfl, by decide +kernel, rfl, by decide +kernel, by decide +kernel⟩
theorem ok_is_order (T : Tx K mg) : FnOk P w K mg base CX0 3 T.a_is_order T.d_is_order ["many", "thing"] (spF K S_is_order) :=
  fn_val (nl := 1) (fo := false) T.f_is_order sc_is_order rfl rfl rfl rfl (fun h => nomatch h) (fun cdv A outer s H E hr => show PSs _ _ (tS _ [.sh, .sh, .no] ⟨[.no, .no, .no], [], [], [.no, .no, .no], .sh⟩ _) from
    have sc := sc_is_order
    (zCons (Γ1 := [.sh, .sh, .no]) (zIf (qNot (qVal (pOfC (cCall (S := (S_is_number)) (ok_is_number T) (hr.mono (by decide)) (by rfl) (by exact T.m_is_number) (by exact T.k_is_number) (by exact T.b_is_number) (aCons (cV 0 rfl (by decide) (pv 0)) aNil) rfl rfl)))) (zOne zNever) zNil) (zCons (Γ1 := [.sh, .sh, .no]) (zIf (qOr (qNot (qVal (cIsi isi_tuple (by rfl) (by exact T.z_isinstance) (pe_bltn (by rfl) (by exact T.z_tuple) PyProof.Rows.boot_tuple rfl) (cV 1 rfl (by decide) (pv 1))))) (qOr1 (qCmp (op_neD hr.units) (ne_s rfl rfl) (cCallB call_len' (len_s rfl) (by rfl) (by exact T.z_len) PySem.boot_len (aCons (cV 1 rfl (by decide) (pv 1)) aNil)) (cV 0 rfl (by decide) (pv 0)) (nomark _)))).pt (zOne (zRet (cOfP cBl) rfl)) zNil) (zCons (Γ1 := [.sh, .sh, .no]) (zFor (Γ := [.sh, .sh, .no]) (Γ1 := [.sh, .sh, .sh]) PassesOwn.never rfl (iSeq (cV 1 rfl (by decide) (pv 1))) (hName (i := 2) sc.nd rfl (by first | exact .inl rfl | exact .inr rfl) (by decide)) (zWkn (n' := [.sh, .sh, .sh]) (zOne (zIf (qNot (qVal (pOfC (cCall (S := (S_is_number)) (ok_is_number T) (hr.mono (by decide)) (by rfl) (by exact T.m_is_number) (by exact T.k_is_number) (by exact T.b_is_number) (aCons (cV 2 rfl (by decide) (pv 2)) aNil) rfl rfl)))) (zOne (zRet (cOfP cBl) rfl)) zNil)) rfl) rfl) (zOne (zRet (cOfP (cCmp (op_eqD hr.units) (eq_s rfl rfl) (pOfC (cSortedA (by rfl) (by exact T.z_sorted) (by decide +kernel) (cV 1 rfl (by decide) (pv 1)))) (pOfC (cLstRng rfl (by rfl) (by exact T.z_list) (by rfl) (by exact T.z_range) (cV 0 rfl (by decide) (pv 0)))) (nomark _))) rfl))))))
theorem sc__law_ring : FnScope ["_law_cells_here", "_law_size", "_law_extra", "_law_walk", "_law_k", "_law_w", "_law_leaves"] ["_law_cells_here", "_law_size", "_law_extra"] (defScope st__law_ring) := ⟨rfl, rfl, rfl, by decide +kernel, rfl, by decide +kernel, by decide +kernel⟩
theorem ok__law_ring (T : Tx K mg) : FnOk P w K mg base CX0 3 T.a__law_ring T.d__law_ring ["_law_cells_here", "_law_size", "_law_extra"] (spF K S__law_ring) :=
  fn_val (nl := 4) (fo := false) T.f__law_ring sc__law_ring rfl rfl rfl rfl (fun h => nomatch h) (fun cdv A outer s H E hr => show PSs _ _ (tS _ [(.ol .sh), .sh, .sh, .no, .no, .no, .no] ⟨[(.ol .sh), .no, .no, .no, .no, .no, .no], [], [], [(.ol .sh), .no, .no, .no, .no, .no, .no], .sh⟩ _) from
    have sc := sc__law_ring
    (zCons (Γ1 := [(.ol .sh), .sh, .sh, (.ol .sh), .no, .no, .no]) (zSetM (i := 3) sc.nd rfl (by first | exact .inl rfl | exact .inr rfl) (mCmp0 (own := [("_law_k", 4)]) (Γ1 := [(.ol .sh), .sh, .sh, .no, .sh, .no, .no]) (Γ2 := [(.ol .sh), .sh, .sh, .no, .sh, .no, .no]) (Γ3 := [(.ol .sh), .sh, .sh, .no, .sh, .no, .no]) rfl sc.nd (iM (Pv.iRng1 (by rfl) (by exact T.z_range) (aCons (cV 2 rfl (by decide) (pv 2)) aNil))) (show BlkOk ["_law_cells_here", "_law_size", "_law_extra", "_law_walk", "_law_k", "_law_w", "_law_leaves"] (defScope st__law_ring) _ _ from ⟨rfl, by decide +kernel, by decide +kernel, by decide +kernel, by decide +kernel⟩) (fun _ _ _ _ _ => (hName (i := 4) sc.nd rfl (by first | exact .inl rfl | exact .inr rfl) (by decide))) (fun _ _ _ _ _ => kNilM) (fun _ _ _ _ _ => (mCall (S := (S__law_pick)) (ok__law_pick T) (hr.mono (by decide)) (by rfl) (by exact T.m__law_pick) (by exact T.k__law_pick) (by exact T.b__law_pick) (aMIo 0 rfl (by decide) (pv 0) (aMCons (mOfP (cV 1 rfl (by decide) (pv 1))) aMNil)))) rfl rfl rfl) (by decide) rfl) (zCons (Γ1 := [(.ol .sh), .sh, .sh, (.ol .sh), .no, .no, .no]) (zFor (Γ := [(.ol .sh), .sh, .sh, (.ol .sh), .no, .no, .no]) (Γ1 := [(.ol .sh), .sh, .sh, (.ol .sh), .no, .sh, .no]) PassesOwn.never rfl (Pv.iRng1 (by rfl) (by exact T.z_range) (aCons (cV 1 rfl (by decide) (pv 1)) aNil)) (hName (i := 5) sc.nd rfl (by first | exact .inl rfl | exact .inr rfl) (by decide)) (zWkn (n' := [(.ol .sh), .sh, .sh, (.ol .sh), .no, .sh, .no]) (zOne (zIf (qCmp op_notIn_seq (notin_s rfl) (cV 5 rfl (by decide) (pv 5)) (cV 3 rfl (by decide) (pv 3)) (by with_unfolding_all rfl)) (zOne (zDrop (mIns 3 (pe_bm PySem.F.plainAttrs_list PySem.F.slot_list_insert PySem.F.type_list_insert mt_ins (pv 3) (pa_cons (mCall (S := (S__law_pick)) (ok__law_pick T) (hr.mono (by decide)) (by rfl) (by exact T.m__law_pick) (by exact T.k__law_pick) (by exact T.b__law_pick) (aMIo 0 rfl (by decide) (pv 0) (aMCons (mOfP (c2 op_add' add_s (cCallB call_len' (len_s rfl) (by rfl) (by exact T.z_len) PySem.boot_len (aCons (cV 3 rfl (by decide) (pv 3)) aNil)) cInt)) aMNil))) (pa_cons (cV 5 rfl (by decide) (pv 5)) pa_nil))) rfl rfl))) zNil)) rfl) rfl) (zFrz (Γ := [(.ol .sh), .sh, .sh, (.ol .sh), .no, .no, .no]) 3 rfl rfl (zCons (Γ1 := [(.ol .sh), .sh, .sh, .sh, .no, .no, (.ol .sh)]) (zSetCmp (own := [("_law_k", 4)]) (Γ1 := [(.ol .sh), .sh, .sh, .sh, .sh, .no, .no]) (i := 6) rfl sc.nd rfl rfl rfl (Pv.iRng1 (by rfl) (by exact T.z_range) (aCons (cCallB call_len' (len_s rfl) (by rfl) (by exact T.z_len) PySem.boot_len (aCons (cV 3 rfl (by decide) (pv 3)) aNil)) aNil)) (show BlkOk ["_law_cells_here", "_law_size", "_law_extra", "_law_walk", "_law_k", "_law_w", "_law_leaves"] (defScope st__law_ring) _ _ from ⟨rfl, by decide +kernel, by decide +kernel, by decide +kernel, by decide +kernel⟩) (fun _ _ _ _ _ => (hName (i := 4) sc.nd rfl (by first | exact .inl rfl | exact .inr rfl) (by decide))) (fun _ _ _ _ _ => kNil) (fun _ _ _ _ _ => (cOfP (cTup (aCons (cIx ix_sh (cV 3 rfl (by decide) (pv 3)) (cV 4 rfl (by decide) (pv 4)) (by intro _ _; rfl)) (aCons (cIx ix_sh (cV 3 rfl (by decide) (pv 3)) (c2 op_mod md_s (cCallT call_int1 int_s (by rfl) (by exact T.z_int) PyProof.Rows.boot_int (aCons (c2 op_add' add_s (cV 4 rfl (by decide) (pv 4)) cInt) aNil)) (cCallB call_len' (len_s rfl) (by rfl) (by exact T.z_len) PySem.boot_len (aCons (cV 3 rfl (by decide) (pv 3)) aNil))) (by intro _ _; rfl)) aNil))))) rfl (by decide) rfl) (zFrz (Γ := [(.ol .sh), .sh, .sh, .sh, .no, .no, (.ol .sh)]) 6 rfl rfl (zOne (zRetM (mCall (S := (S__law_dealt)) (ok__law_dealt T) (hr.mono (by decide)) (by rfl) (by exact T.m__law_dealt) (by exact T.k__law_dealt) (by exact T.b__law_dealt) (aMIo 0 rfl (by decide) (pv 0) (aMCons (mOfP (cV 6 rfl (by decide) (pv 6))) aMNil))) rfl))))))))
theorem sc_is_book : FnScope ["thing", "size", "leaves"] ["thing"] (defScope st_is_book) := ⟨rfl, rfl, rfl, by decide +kernel, rfl, by decide +kernel, by decide +kernel⟩
theorem ok_is_book (T : Tx K mg) : FnOk P w K mg base CX0 4 T.a_is_book T.d_is_book ["thing"] (spF K S_is_book) :=
  fn_val (nl := 2) (fo := false) T.f_is_book sc_is_book rfl rfl rfl rfl (fun h => nomatch h) (fun cdv A outer s H E hr => show PSs _ _ (tS _ [.sh, .no, .no] ⟨[.no, .no, .no], [], [], [.no, .no, .no], .sh⟩ _) from
    have sc := sc_is_book
    (zCons (Γ1 := [.sh, .no, .no]) (zIf (qNot (qVal (pOfC (cCall (S := (S_is_heap)) (ok_is_heap T) (hr.mono (by decide)) (by rfl) (by exact T.m_is_heap) (by exact T.k_is_heap) (by exact T.b_is_heap) (aCons (cV 0 rfl (by decide) (pv 0)) aNil) rfl rfl)))) (zOne (zRet (cOfP cBl) rfl)) zNil) (zCons (Γ1 := [.sh, .sh, .sh]) (zUnp (cV 0 rfl (by decide) (pv 0)) (hTup rfl (hCons (hName (i := 1) sc.nd rfl (by first | exact .inl rfl | exact .inr rfl) (by decide)) (hCons (hName (i := 2) sc.nd rfl (by first | exact .inl rfl | exact .inr rfl) (by decide)) hNil))) rfl) (zOne (zRet (cOfP (cCmp op_isN isN_s (pOfC (cCall (S := (S_first_fault)) (ok_first_fault T) (hr.mono (by decide)) (by rfl) (by exact T.m_first_fault) (by exact T.k_first_fault) (by exact T.b_first_fault) (aCons (cV 1 rfl (by decide) (pv 1)) (aCons (cV 2 rfl (by decide) (pv 2)) aNil)) rfl rfl)) cNon (by with_unfolding_all rfl))) rfl)))))
theorem sc_is_lot : FnScope ["heap", "thing", "last", "part"] ["heap", "thing"] (defScope st_is_lot) := ⟨rfl, rfl, rfl, by decide +kernel, rfl, by decide +kernel, by decide +kernel⟩
theorem ok_is_lot (T : Tx K mg) : FnOk P w K mg base CX0 4 T.a_is_lot T.d_is_lot ["heap", "thing"] (spF K S_is_lot) :=
  fn_val (nl := 2) (fo := false) T.f_is_lot sc_is_lot rfl rfl rfl rfl (fun h => nomatch h) (fun cdv A outer s H E hr => show PSs _ _ (tS _ [.sh, .sh, .no, .no] ⟨[.no, .no, .no, .no], [], [], [.no, .no, .no, .no], .sh⟩ _) from
    have sc := sc_is_lot
    (zCons (Γ1 := [.sh, .sh, .no, .no]) (zIf (qNot (qVal (cIsi isi_tuple (by rfl) (by exact T.z_isinstance) (pe_bltn (by rfl) (by exact T.z_tuple) PyProof.Rows.boot_tuple rfl) (cV 1 rfl (by decide) (pv 1))))) (zOne (zRet (cOfP cBl) rfl)) zNil) (zCons (Γ1 := [.sh, .sh, .sh, .no]) (zSet (i := 2) sc.nd rfl (by first | exact .inl rfl | exact .inr rfl) (cOfP (cNeg cInt)) (by decide) rfl) (zCons (Γ1 := [.sh, .sh, .sh, .no]) (zFor (Γ := [.sh, .sh, .sh, .no]) (Γ1 := [.sh, .sh, .sh, .sh]) PassesOwn.never rfl (iSeq (cV 1 rfl (by decide) (pv 1))) (hName (i := 3) sc.nd rfl (by first | exact .inl rfl | exact .inr rfl) (by decide)) (zWkn (n' := [.sh, .sh, .sh, .sh]) (zCons (Γ1 := [.sh, .sh, .sh, .sh]) (zIf (qOr (qNot (qVal (pOfC (cCall (S := (S_is_word)) (ok_is_word T) (hr.mono (by decide)) (by rfl) (by exact T.m_is_word) (by exact T.k_is_word) (by exact T.b_is_word) (aCons (cV 0 rfl (by decide) (pv 0)) (aCons (cV 3 rfl (by decide) (pv 3)) aNil)) rfl rfl)))) (qOr1 (qCmp op_le le_s (cV 3 rfl (by decide) (pv 3)) (cV 2 rfl (by decide) (pv 2)) (nomark _)))).pt (zOne (zRet (cOfP cBl) rfl)) zNil) (zOne (zSet (i := 2) sc.nd rfl (by first | exact .inl rfl | exact .inr rfl) (cOfP (cV 3 rfl (by decide) (pv 3))) (by decide) rfl))) rfl) rfl) (zOne (zRet (cOfP cBl) rfl))))))
theorem sc_hung : FnScope ["heap", "word", "size", "leaves"] ["heap", "word"] (defScope st_hung) := ⟨rfl, rfl, rfl, by decide +kernel, rfl, by decide +kernel, by decide +kernel⟩
theorem ok_hung (T : Tx K mg) : FnOk P w K mg base CX0 4 T.a_hung T.d_hung ["heap", "word"] (spF K S_hung) :=
  fn_val (nl := 2) (fo := false) T.f_hung sc_hung rfl rfl rfl rfl (fun h => nomatch h) (fun cdv A outer s H E hr => show PSs _ _ (tS _ [.sh, .sh, .no, .no] ⟨[.no, .no, .no, .no], [], [], [.no, .no, .no, .no], .sh⟩ _) from
    have sc := sc_hung
    (zCons (Γ1 := [.sh, .sh, .no, .no]) (zIf (qNot (qVal (pOfC (cCall (S := (S_is_word)) (ok_is_word T) (hr.mono (by decide)) (by rfl) (by exact T.m_is_word) (by exact T.k_is_word) (by exact T.b_is_word) (aCons (cV 0 rfl (by decide) (pv 0)) (aCons (cV 1 rfl (by decide) (pv 1)) aNil)) rfl rfl)))) (zOne zNever) zNil) (zCons (Γ1 := [.sh, .sh, .sh, .sh]) (zUnp (cV 0 rfl (by decide) (pv 0)) (hTup rfl (hCons (hName (i := 2) sc.nd rfl (by first | exact .inl rfl | exact .inr rfl) (by decide)) (hCons (hName (i := 3) sc.nd rfl (by first | exact .inl rfl | exact .inr rfl) (by decide)) hNil))) rfl) (zOne (zRet (cOfP (cTup (aCons (cV 2 rfl (by decide) (pv 2)) (aCons (c2 op_plus plus_s (cV 3 rfl (by decide) (pv 3)) (cTup (aCons (cTup (aCons (cV 1 rfl (by decide) (pv 1)) (aCons (cV 1 rfl (by decide) (pv 1)) aNil))) aNil))) aNil)))) rfl)))))
theorem sc_parted : FnScope ["heap", "leaf", "size", "leaves", "first", "catchword"] ["heap", "leaf"] (defScope st_parted) := ⟨rfl, rfl, rfl, by decide +kernel, rfl, by decide +kernel, by decide +kernel⟩
theorem ok_parted (T : Tx K mg) : FnOk P w K mg base CX0 4 T.a_parted T.d_parted ["heap", "leaf"] (spF K S_parted) :=
  fn_val (nl := 4) (fo := false) T.f_parted sc_parted rfl rfl rfl rfl (fun h => nomatch h) (fun cdv A outer s H E hr => show PSs _ _ (tS _ [.sh, .sh, .no, .no, .no, .no] ⟨[.no, .no, .no, .no, .no, .no], [], [], [.no, .no, .no, .no, .no, .no], .sh⟩ _) from
    have sc := sc_parted
    (zCons (Γ1 := [.sh, .sh, .no, .no, .no, .no]) (zIf (qNot (qVal (pOfC (cCall (S := (S_is_leaf)) (ok_is_leaf T) (hr.mono (by decide)) (by rfl) (by exact T.m_is_leaf) (by exact T.k_is_leaf) (by exact T.b_is_leaf) (aCons (cV 0 rfl (by decide) (pv 0)) (aCons (cV 1 rfl (by decide) (pv 1)) aNil)) rfl rfl)))) (zOne zNever) zNil) (zCons (Γ1 := [.sh, .sh, .sh, .sh, .no, .no]) (zUnp (cV 0 rfl (by decide) (pv 0)) (hTup rfl (hCons (hName (i := 2) sc.nd rfl (by first | exact .inl rfl | exact .inr rfl) (by decide)) (hCons (hName (i := 3) sc.nd rfl (by first | exact .inl rfl | exact .inr rfl) (by decide)) hNil))) rfl) (zCons (Γ1 := [.sh, .sh, .sh, .sh, .sh, .sh]) (zUnp (cIx ix_sh (cV 3 rfl (by decide) (pv 3)) (cV 1 rfl (by decide) (pv 1)) (by intro _ _; rfl)) (hTup rfl (hCons (hName (i := 4) sc.nd rfl (by first | exact .inl rfl | exact .inr rfl) (by decide)) (hCons (hName (i := 5) sc.nd rfl (by first | exact .inl rfl | exact .inr rfl) (by decide)) hNil))) rfl) (zOne (zRet (cOfP (cTup (aCons (c2 op_add' add_s (cV 2 rfl (by decide) (pv 2)) cInt) (aCons (c2 op_plus plus_s (c2 op_plus plus_s (c2 op_plus plus_s (cSl (cV 3 rfl (by decide) (pv 3)) oNone (oSome (cV 1 rfl (by decide) (pv 1)))) (cTup (aCons (cTup (aCons (cV 4 rfl (by decide) (pv 4)) (aCons (cV 2 rfl (by decide) (pv 2)) aNil))) aNil))) (cSl (cV 3 rfl (by decide) (pv 3)) (oSome (c2 op_add' add_s (cV 1 rfl (by decide) (pv 1)) cInt)) oNone)) (cTup (aCons (cTup (aCons (cV 2 rfl (by decide) (pv 2)) (aCons (cV 5 rfl (by decide) (pv 5)) aNil))) aNil))) aNil)))) rfl))))))
theorem sc_joined : FnScope ["heap", "other", "size", "leaves", "rows", "first", "catchword"] ["heap", "other"] (defScope st_joined) := ⟨rfl, rfl, rfl, by decide +kernel, rfl, by decide +kernel, by decide +kernel⟩
theorem ok_joined (T : Tx K mg) : FnOk P w K mg base CX0 4 T.a_joined T.d_joined ["heap", "other"] (spF K S_joined) :=
  fn_val (nl := 5) (fo := false) T.f_joined sc_joined rfl rfl rfl rfl (fun h => nomatch h) (fun cdv A outer s H E hr => show PSs _ _ (tS _ [.sh, .sh, .no, .no, .no, .no, .no] ⟨[.no, .no, .no, .no, .no, .no, .no], [], [], [.no, .no, .no, .no, .no, .no, .no], .sh⟩ _) from
    have sc := sc_joined
    (zCons (Γ1 := [.sh, .sh, .no, .no, .no, .no, .no]) (zIf (qNot (qVal (pOfC (cCall (S := (S_is_heap)) (ok_is_heap T) (hr.mono (by decide)) (by rfl) (by exact T.m_is_heap) (by exact T.k_is_heap) (by exact T.b_is_heap) (aCons (cV 1 rfl (by decide) (pv 1)) aNil) rfl rfl)))) (zOne zNever) zNil) (zCons (Γ1 := [.sh, .sh, .sh, .sh, .no, .no, .no]) (zUnp (cV 0 rfl (by decide) (pv 0)) (hTup rfl (hCons (hName (i := 2) sc.nd rfl (by first | exact .inl rfl | exact .inr rfl) (by decide)) (hCons (hName (i := 3) sc.nd rfl (by first | exact .inl rfl | exact .inr rfl) (by decide)) hNil))) rfl) (zCons (Γ1 := [.sh, .sh, .sh, .sh, (.ol .sh), .no, .no]) (zSet (i := 4) sc.nd rfl (by first | exact .inl rfl | exact .inr rfl) (cListC (by rfl) (by exact T.z_list) rfl (aCons (cV 3 rfl (by decide) (pv 3)) aNil)) (by decide) rfl) (zCons (Γ1 := [.sh, .sh, .sh, .sh, (.ol .sh), .no, .no]) (zFor (Γ := [.sh, .sh, .sh, .sh, (.ol .sh), .no, .no]) (Γ1 := [.sh, .sh, .sh, .sh, (.ol .sh), .sh, .sh]) PassesOwn.never rfl (iSeq (cIx ix_sh (cV 1 rfl (by decide) (pv 1)) cInt (by intro _ _; rfl))) (hTup rfl (hCons (hName (i := 5) sc.nd rfl (by first | exact .inl rfl | exact .inr rfl) (by decide)) (hCons (hName (i := 6) sc.nd rfl (by first | exact .inl rfl | exact .inr rfl) (by decide)) hNil))) (zWkn (n' := [.sh, .sh, .sh, .sh, (.ol .sh), .sh, .sh]) (zOne (zDrop (mApp 4 (pe_bm PySem.F.plainAttrs_list PySem.F.slot_list_append PySem.F.type_list_append mt_append (pv 4) (pa_cons (mOfP (cTup (aCons (pOfC (cCall (S := (S__moved)) (ok__moved T) (hr.mono (by decide)) (by rfl) (by exact T.m__moved) (by exact T.k__moved) (by exact T.b__moved) (aCons (cV 2 rfl (by decide) (pv 2)) (aCons (cV 5 rfl (by decide) (pv 5)) aNil)) rfl rfl)) (aCons (pOfC (cCall (S := (S__moved)) (ok__moved T) (hr.mono (by decide)) (by rfl) (by exact T.m__moved) (by exact T.k__moved) (by exact T.b__moved) (aCons (cV 2 rfl (by decide) (pv 2)) (aCons (cV 6 rfl (by decide) (pv 6)) aNil)) rfl rfl)) aNil)))) pa_nil)) rfl rfl))) rfl) rfl) (zFrz (Γ := [.sh, .sh, .sh, .sh, (.ol .sh), .no, .no]) 4 rfl rfl (zOne (zRet (cOfP (cTup (aCons (c2 op_sub sub_s (c2 op_add' add_s (cV 2 rfl (by decide) (pv 2)) (cIx ix_sh (cV 1 rfl (by decide) (pv 1)) cInt (by intro _ _; rfl))) cInt) (aCons (cCallT call_tuple_of (tup_s rfl) (by rfl) (by exact T.z_tuple) PyProof.Rows.boot_tuple (aCons (cV 4 rfl (by decide) (pv 4)) aNil)) aNil)))) rfl))))))))
theorem sc_renamed : FnScope ["heap", "order", "size", "leaves", "first", "catchword"] ["heap", "order"] (defScope st_renamed) := ⟨rfl, rfl, rfl, by decide +kernel, rfl, by decide +kernel, by decide +kernel⟩
theorem ok_renamed (T : Tx K mg) : FnOk P w K mg base CX0 4 T.a_renamed T.d_renamed ["heap", "order"] (spF K S_renamed) :=
  fn_val (nl := 4) (fo := false) T.f_renamed sc_renamed rfl rfl rfl rfl (fun h => nomatch h) (fun cdv A outer s H E hr => show PSs _ _ (tS _ [.sh, .sh, .no, .no, .no, .no] ⟨[.no, .no, .no, .no, .no, .no], [], [], [.no, .no, .no, .no, .no, .no], .sh⟩ _) from
    have sc := sc_renamed
    (zCons (Γ1 := [.sh, .sh, .sh, .sh, .no, .no]) (zUnp (cV 0 rfl (by decide) (pv 0)) (hTup rfl (hCons (hName (i := 2) sc.nd rfl (by first | exact .inl rfl | exact .inr rfl) (by decide)) (hCons (hName (i := 3) sc.nd rfl (by first | exact .inl rfl | exact .inr rfl) (by decide)) hNil))) rfl) (zCons (Γ1 := [.sh, .sh, .sh, .sh, .no, .no]) (zIf (qNot (qVal (pOfC (cCall (S := (S_is_order)) (ok_is_order T) (hr.mono (by decide)) (by rfl) (by exact T.m_is_order) (by exact T.k_is_order) (by exact T.b_is_order) (aCons (cV 2 rfl (by decide) (pv 2)) (aCons (cV 1 rfl (by decide) (pv 1)) aNil)) rfl rfl)))) (zOne zNever) zNil) (zOne (zRet (cOfP (cTup (aCons (cV 2 rfl (by decide) (pv 2)) (aCons (cCallT call_tuple_of (tup_s rfl) (by rfl) (by exact T.z_tuple) PyProof.Rows.boot_tuple (aCons (cFrz (cCmp0 (own := [("first", 4), ("catchword", 5)]) (Γ1 := [.sh, .sh, .sh, .sh, .sh, .sh]) rfl sc.nd (iSeq (cV 3 rfl (by decide) (pv 3))) (show BlkOk ["heap", "order", "size", "leaves", "first", "catchword"] (defScope st_renamed) _ _ from ⟨rfl, by decide +kernel, by decide +kernel, by decide +kernel, by decide +kernel⟩) (fun _ _ _ _ _ => (hTup rfl (hCons (hName (i := 4) sc.nd rfl (by first | exact .inl rfl | exact .inr rfl) (by decide)) (hCons (hName (i := 5) sc.nd rfl (by first | exact .inl rfl | exact .inr rfl) (by decide)) hNil)))) (fun _ _ _ _ _ => kNil) (fun _ _ _ _ _ => (cOfP (cTup (aCons (cIx ix_sh (cV 1 rfl (by decide) (pv 1)) (cV 4 rfl (by decide) (pv 4)) (by intro _ _; rfl)) (aCons (cIx ix_sh (cV 1 rfl (by decide) (pv 1)) (cV 5 rfl (by decide) (pv 5)) (by intro _ _; rfl)) aNil))))) rfl)) aNil)) aNil)))) rfl)))))
theorem sc_dealt : FnScope ["heap", "order", "size", "leaves", "leaf"] ["heap", "order"] (defScope st_dealt) := ⟨rfl, rfl, rfl, by decide +kernel, rfl, by decide +kernel, by decide +kernel⟩
theorem ok_dealt (T : Tx K mg) : FnOk P w K mg base CX0 4 T.a_dealt T.d_dealt ["heap", "order"] (spF K S_dealt) :=
  fn_val (nl := 3) (fo := false) T.f_dealt sc_dealt rfl rfl rfl rfl (fun h => nomatch h) (fun cdv A outer s H E hr => show PSs _ _ (tS _ [.sh, .sh, .no, .no, .no] ⟨[.no, .no, .no, .no, .no], [], [], [.no, .no, .no, .no, .no], .sh⟩ _) from
    have sc := sc_dealt
    (zCons (Γ1 := [.sh, .sh, .sh, .sh, .no]) (zUnp (cV 0 rfl (by decide) (pv 0)) (hTup rfl (hCons (hName (i := 2) sc.nd rfl (by first | exact .inl rfl | exact .inr rfl) (by decide)) (hCons (hName (i := 3) sc.nd rfl (by first | exact .inl rfl | exact .inr rfl) (by decide)) hNil))) rfl) (zCons (Γ1 := [.sh, .sh, .sh, .sh, .no]) (zIf (qNot (qVal (pOfC (cCall (S := (S_is_order)) (ok_is_order T) (hr.mono (by decide)) (by rfl) (by exact T.m_is_order) (by exact T.k_is_order) (by exact T.b_is_order) (aCons (cCallB call_len' (len_s rfl) (by rfl) (by exact T.z_len) PySem.boot_len (aCons (cV 3 rfl (by decide) (pv 3)) aNil)) (aCons (cV 1 rfl (by decide) (pv 1)) aNil)) rfl rfl)))) (zOne zNever) zNil) (zOne (zRet (cOfP (cTup (aCons (cV 2 rfl (by decide) (pv 2)) (aCons (cCallT call_tuple_of (tup_s rfl) (by rfl) (by exact T.z_tuple) PyProof.Rows.boot_tuple (aCons (cFrz (cCmp0 (own := [("leaf", 4)]) (Γ1 := [.sh, .sh, .sh, .sh, .sh]) rfl sc.nd (iSeq (cV 1 rfl (by decide) (pv 1))) (show BlkOk ["heap", "order", "size", "leaves", "leaf"] (defScope st_dealt) _ _ from ⟨rfl, by decide +kernel, by decide +kernel, by decide +kernel, by decide +kernel⟩) (fun _ _ _ _ _ => (hName (i := 4) sc.nd rfl (by first | exact .inl rfl | exact .inr rfl) (by decide))) (fun _ _ _ _ _ => kNil) (fun _ _ _ _ _ => (cOfP (cIx ix_sh (cV 3 rfl (by decide) (pv 3)) (cV 4 rfl (by decide) (pv 4)) (by intro _ _; rfl)))) rfl)) aNil)) aNil)))) rfl)))))
theorem sc__law_heap : FnScope ["_law_cells_here", "_law_kind", "_law_size", "_law_extra", "_law_count", "_law_k"] ["_law_cells_here", "_law_kind", "_law_size"] (defScope st__law_heap) := ⟨rfl, rfl, rfl, by decide +kernel, rfl, by decide +kernel, by decide +kernel⟩
theorem ok__law_heap (T : Tx K mg) : FnOk P w K mg base CX0 4 T.a__law_heap T.d__law_heap ["_law_cells_here", "_law_kind", "_law_size"] (spF K S__law_heap) :=
  fn_val (nl := 3) (fo := false) T.f__law_heap sc__law_heap rfl rfl rfl rfl (fun h => nomatch h) (fun cdv A outer s H E hr => show PSs _ _ (tS _ [(.ol .sh), .sh, .sh, .no, .no, .no] ⟨[(.ol .sh), .no, .no, .no, .no, .no], [], [], [(.ol .sh), .no, .no, .no, .no, .no], .sh⟩ _) from
    have sc := sc__law_heap
    (zCons (Γ1 := [(.ol .sh), .sh, .sh, .sh, .no, .no]) (zSetM (i := 3) sc.nd rfl (by first | exact .inl rfl | exact .inr rfl) (mCall (S := (S__law_pick)) (ok__law_pick T) (hr.mono (by decide)) (by rfl) (by exact T.m__law_pick) (by exact T.k__law_pick) (by exact T.b__law_pick) (aMIo 0 rfl (by decide) (pv 0) (aMCons (mOfP cInt) aMNil))) (by decide) rfl) (zCons (Γ1 := [(.ol .sh), .sh, .sh, .sh, .no, .no]) (zIf (qCmp (op_eqD hr.units) (eq_s rfl rfl) (cV 1 rfl (by decide) (pv 1)) cInt (nomark _)) (zCons (Γ1 := [(.ol .sh), .sh, .sh, .sh, .sh, .no]) (zSetM (i := 4) sc.nd rfl (by first | exact .inl rfl | exact .inr rfl) (m2 op_add' add_s (mCall (S := (S__law_pick)) (ok__law_pick T) (hr.mono (by decide)) (by rfl) (by exact T.m__law_pick) (by exact T.k__law_pick) (by exact T.b__law_pick) (aMIo 0 rfl (by decide) (pv 0) (aMCons (mOfP cInt) aMNil))) (mOfP (cV 3 rfl (by decide) (pv 3)))) (by decide) rfl) (zOne (zRetM (mTup (aMCons (mOfP (cV 2 rfl (by decide) (pv 2))) (aMCons (mCallT call_tuple_of (tup_s rfl) rfl (by rfl) (by exact T.z_tuple) PyProof.Rows.boot_tuple (aMCons (mFrz (mCmp0 (own := [("_law_k", 5)]) (Γ1 := [(.ol .sh), .sh, .sh, .sh, .sh, .sh]) (Γ2 := [(.ol .sh), .sh, .sh, .sh, .sh, .sh]) (Γ3 := [(.ol .sh), .sh, .sh, .sh, .sh, .sh]) rfl sc.nd (iM (Pv.iRng1 (by rfl) (by exact T.z_range) (aCons (cV 4 rfl (by decide) (pv 4)) aNil))) (show BlkOk ["_law_cells_here", "_law_kind", "_law_size", "_law_extra", "_law_count", "_law_k"] (defScope st__law_heap) _ _ from ⟨rfl, by decide +kernel, by decide +kernel, by decide +kernel, by decide +kernel⟩) (fun _ _ _ _ _ => (hName (i := 5) sc.nd rfl (by first | exact .inl rfl | exact .inr rfl) (by decide))) (fun _ _ _ _ _ => kNilM) (fun _ _ _ _ _ => (mTup (aMCons (mCall (S := (S__law_pick)) (ok__law_pick T) (hr.mono (by decide)) (by rfl) (by exact T.m__law_pick) (by exact T.k__law_pick) (by exact T.b__law_pick) (aMIo 0 rfl (by decide) (pv 0) (aMCons (mOfP (cV 2 rfl (by decide) (pv 2))) aMNil))) (aMCons (mCall (S := (S__law_pick)) (ok__law_pick T) (hr.mono (by decide)) (by rfl) (by exact T.m__law_pick) (by exact T.k__law_pick) (by exact T.b__law_pick) (aMIo 0 rfl (by decide) (pv 0) (aMCons (mOfP (cV 2 rfl (by decide) (pv 2))) aMNil))) aMNil)))) rfl rfl rfl)) aMNil)) aMNil))) rfl))) zNil) (zOne (zRetM (mTup (aMCons (mOfP (cV 2 rfl (by decide) (pv 2))) (aMCons (mCallT call_tuple_of (tup_s rfl) rfl (by rfl) (by exact T.z_tuple) PyProof.Rows.boot_tuple (aMCons (mCall (S := (S__law_ring)) (ok__law_ring T) (hr.mono (by decide)) (by rfl) (by exact T.m__law_ring) (by exact T.k__law_ring) (by exact T.b__law_ring) (aMIo 0 rfl (by decide) (pv 0) (aMCons (mOfP (cV 2 rfl (by decide) (pv 2))) (aMCons (mOfP (cV 3 rfl (by decide) (pv 3))) aMNil)))) aMNil)) aMNil))) rfl)))))
theorem sc_home_of : FnScope ["heap", "lot", "homes", "count", "word"] ["heap", "lot"] (defScope st_home_of) := ⟨rfl, rfl, rfl, by decide +kernel, rfl, by decide +kernel, by decide +kernel⟩
theorem ok_home_of (T : Tx K mg) : FnOk P w K mg base CX0 5 T.a_home_of T.d_home_of ["heap", "lot"] (spF K S_home_of) :=
  fn_val (nl := 3) (fo := false) T.f_home_of sc_home_of rfl rfl rfl rfl (fun h => nomatch h) (fun cdv A outer s H E hr => show PSs _ _ (tS _ [.sh, .sh, .no, .no, .no] ⟨[.no, .no, .no, .no, .no], [], [], [.no, .no, .no, .no, .no], .sh⟩ _) from
    have sc := sc_home_of
    (zCons (Γ1 := [.sh, .sh, .no, .no, .no]) (zIf (qOr (qNot (qVal (pOfC (cCall (S := (S_is_lot)) (ok_is_lot T) (hr.mono (by decide)) (by rfl) (by exact T.m_is_lot) (by exact T.k_is_lot) (by exact T.b_is_lot) (aCons (cV 0 rfl (by decide) (pv 0)) (aCons (cV 1 rfl (by decide) (pv 1)) aNil)) rfl rfl)))) (qOr (qCmp (op_eqD hr.units) (eq_s rfl rfl) (cCallB call_len' (len_s rfl) (by rfl) (by exact T.z_len) PySem.boot_len (aCons (cV 1 rfl (by decide) (pv 1)) aNil)) cInt (nomark _)) (qOr1 (qCmp (op_eqD hr.units) (eq_s rfl rfl) (cCallB call_len' (len_s rfl) (by rfl) (by exact T.z_len) PySem.boot_len (aCons (cV 1 rfl (by decide) (pv 1)) aNil)) (cIx ix_sh (cV 0 rfl (by decide) (pv 0)) cInt (by intro _ _; rfl)) (nomark _))))).pt (zOne zNever) zNil) (zCons (Γ1 := [.sh, .sh, (.ol .sh), .no, .no]) (zSet (i := 2) sc.nd rfl (by first | exact .inl rfl | exact .inr rfl) (cNew (t := .sh)) (by decide) rfl) (zCons (Γ1 := [.sh, .sh, (.ol .sh), .sh, .no]) (zSet (i := 3) sc.nd rfl (by first | exact .inl rfl | exact .inr rfl) (cOfP cInt) (by decide) rfl) (zCons (Γ1 := [.sh, .sh, (.ol .sh), .sh, .no]) (zFor (Γ := [.sh, .sh, (.ol .sh), .sh, .no]) (Γ1 := [.sh, .sh, (.ol .sh), .sh, .sh]) PassesOwn.never rfl (Pv.iRng1 (by rfl) (by exact T.z_range) (aCons (cIx ix_sh (cV 0 rfl (by decide) (pv 0)) cInt (by intro _ _; rfl)) aNil)) (hName (i := 4) sc.nd rfl (by first | exact .inl rfl | exact .inr rfl) (by decide)) (zWkn (n' := [.sh, .sh, (.ol .sh), .sh, .sh]) (zOne (zIf (qAnd (qCmp op_in_seq (in_s rfl) (cV 4 rfl (by decide) (pv 4)) (cV 1 rfl (by decide) (pv 1)) (by with_unfolding_all rfl)) (qAnd1 (qCmp (op_neD hr.units) (ne_s rfl rfl) (cV 4 rfl (by decide) (pv 4)) (cIx ix_sh (cV 1 rfl (by decide) (pv 1)) cInt (by intro _ _; rfl)) (nomark _)))).pt (zOne (zDrop (mApp 2 (pe_bm PySem.F.plainAttrs_list PySem.F.slot_list_append PySem.F.type_list_append mt_append (pv 2) (pa_cons (mOfP (cIx ix_ol (cV 2 rfl (by decide) (pv 2)) (cIx ix_sh (cV 1 rfl (by decide) (pv 1)) cInt (by intro _ _; rfl)) (by intro _ _; rfl))) pa_nil)) rfl rfl))) (zCons (Γ1 := [.sh, .sh, (.ol .sh), .sh, .sh]) (zDrop (mApp 2 (pe_bm PySem.F.plainAttrs_list PySem.F.slot_list_append PySem.F.type_list_append mt_append (pv 2) (pa_cons (mOfP (cV 3 rfl (by decide) (pv 3))) pa_nil)) rfl rfl)) (zOne (zAug (i := 3) sc.nd rfl (by first | exact .inl rfl | exact .inr rfl) rfl cInt (by decide)))))) rfl) rfl) (zFrz (Γ := [.sh, .sh, (.ol .sh), .sh, .no]) 2 rfl rfl (zOne (zRet (cOfP (cCallT call_tuple_of (tup_s rfl) (by rfl) (by exact T.z_tuple) PyProof.Rows.boot_tuple (aCons (cV 2 rfl (by decide) (pv 2)) aNil))) rfl))))))))
theorem rz_home_of (T : Tx K mg) : FnOk P w K mg base (L2.CX P w) 5 T.a_home_of T.d_home_of ["heap", "lot"] (spR K T.C_NotUsable R_home_of) :=
  fn_raise (Γx := [.no, .no, .no, .no, .no]) (nl := 3) T.f_home_of sc_home_of rfl rfl rfl (fun cdv A outer s H E hr tk => show PSs _ _ (rS _ _ [.sh, .sh, .no, .no, .no] [.no, .no, .no, .no, .no] _ _) from
    have sc := sc_home_of
    (rOneW (Γ1 := [.sh, .sh, .no, .no, .no]) (Γx := [.no, .no, .no, .no, .no]) (rIf (qOr (qNot (qVal (pOfC (cCall (S := (S_is_lot)) (ok_is_lot T) (hr.mono (by decide)) (by rfl) (by exact T.m_is_lot) (by exact T.k_is_lot) (by exact T.b_is_lot) (aCons (cV 0 rfl (by decide) (pv 0)) (aCons (cV 1 rfl (by decide) (pv 1)) aNil)) rfl rfl)))) (qOr (qCmp (op_eqD hr.units) (eq_s rfl rfl) (cCallB call_len' (len_s rfl) (by rfl) (by exact T.z_len) PySem.boot_len (aCons (cV 1 rfl (by decide) (pv 1)) aNil)) cInt (nomark _)) (qOr1 (qCmp (op_eqD hr.units) (eq_s rfl rfl) (cCallB call_len' (len_s rfl) (by rfl) (by exact T.z_len) PySem.boot_len (aCons (cV 1 rfl (by decide) (pv 1)) aNil)) (cIx ix_sh (cV 0 rfl (by decide) (pv 0)) cInt (by intro _ _; rfl)) (nomark _))))).pt (rOneW (Γ1 := [.sh, .sh, .no, .no, .no]) (Γx := [.sh, .sh, .no, .no, .no]) (rRaise (k := 1) rfl tk T.oex_NotUsable T.iC_NotUsable T.tI_NotUsable (ok_init_NotUsable T) (hr.mono (by decide)) T.bI_NotUsable (by rfl) (by exact T.gC_NotUsable) (by exact (aCons cStr (aCons (cNeg cInt) aNil)))) rfl) rNever) rfl))
theorem sc_leaving : FnScope ["heap", "lot", "leaf", "row"] ["heap", "lot"] (defScope st_leaving) := ⟨rfl, rfl, rfl, by decide +kernel, rfl, by decide +kernel, by decide +kernel⟩
theorem ok_leaving (T : Tx K mg) : FnOk P w K mg base CX0 5 T.a_leaving T.d_leaving ["heap", "lot"] (spF K S_leaving) :=
  fn_val (nl := 2) (fo := false) T.f_leaving sc_leaving rfl rfl rfl rfl (fun h => nomatch h) (fun cdv A outer s H E hr => show PSs _ _ (tS _ [.sh, .sh, .no, .no] ⟨[.no, .no, .no, .no], [], [], [.no, .no, .no, .no], .sh⟩ _) from
    have sc := sc_leaving
    (zCons (Γ1 := [.sh, .sh, .no, .no]) (zIf (qNot (qVal (pOfC (cCall (S := (S_is_lot)) (ok_is_lot T) (hr.mono (by decide)) (by rfl) (by exact T.m_is_lot) (by exact T.k_is_lot) (by exact T.b_is_lot) (aCons (cV 0 rfl (by decide) (pv 0)) (aCons (cV 1 rfl (by decide) (pv 1)) aNil)) rfl rfl)))) (zOne zNever) zNil) (zOne (zRet (cOfP (cCallT call_tuple_of (tup_s rfl) (by rfl) (by exact T.z_tuple) PyProof.Rows.boot_tuple (aCons (cFrz (cCmp0 (own := [("leaf", 2), ("row", 3)]) (Γ1 := [.sh, .sh, .sh, .sh]) rfl sc.nd (Pv.iEnum (by rfl) (by exact T.z_enumerate) (aCons (cIx ix_sh (cV 0 rfl (by decide) (pv 0)) cInt (by intro _ _; rfl)) aNil)) (show BlkOk ["heap", "lot", "leaf", "row"] (defScope st_leaving) _ _ from ⟨rfl, by decide +kernel, by decide +kernel, by decide +kernel, by decide +kernel⟩) (fun _ _ _ _ _ => (hTup rfl (hCons (hName (i := 2) sc.nd rfl (by first | exact .inl rfl | exact .inr rfl) (by decide)) (hCons (hName (i := 3) sc.nd rfl (by first | exact .inl rfl | exact .inr rfl) (by decide)) hNil)))) (fun _ _ _ _ _ => (kOne (qAnd (qCmp op_in_seq (in_s rfl) (cIx ix_sh (cV 3 rfl (by decide) (pv 3)) cInt (by intro _ _; rfl)) (cV 1 rfl (by decide) (pv 1)) (by with_unfolding_all rfl)) (qAnd1 (qCmp op_notIn_seq (notin_s rfl) (cIx ix_sh (cV 3 rfl (by decide) (pv 3)) cInt (by intro _ _; rfl)) (cV 1 rfl (by decide) (pv 1)) (by with_unfolding_all rfl)))).pt)) (fun _ _ _ _ _ => (cOfP (cV 2 rfl (by decide) (pv 2)))) rfl)) aNil))) rfl))))
theorem sc_put_together : FnScope ["heap", "lot", "homes", "rows", "first", "catchword"] ["heap", "lot"] (defScope st_put_together) := ⟨rfl, rfl, rfl, by decide +kernel, rfl, by decide +kernel, by decide +kernel⟩
theorem ok_put_together (T : Tx K mg) : FnOk P w K mg base CX0 6 T.a_put_together T.d_put_together ["heap", "lot"] (spF K S_put_together) :=
  fn_val (nl := 4) (fo := false) T.f_put_together sc_put_together rfl rfl rfl rfl (fun h => nomatch h) (fun cdv A outer s H E hr => show PSs _ _ (tS _ [.sh, .sh, .no, .no, .no, .no] ⟨[.no, .no, .no, .no, .no, .no], [], [], [.no, .no, .no, .no, .no, .no], .sh⟩ _) from
    have sc := sc_put_together
    (zCons (Γ1 := [.sh, .sh, .sh, .no, .no, .no]) (zSet (i := 2) sc.nd rfl (by first | exact .inl rfl | exact .inr rfl) (cCall (S := (S_home_of)) (ok_home_of T) (hr.mono (by decide)) (by rfl) (by exact T.m_home_of) (by exact T.k_home_of) (by exact T.b_home_of) (aCons (cV 0 rfl (by decide) (pv 0)) (aCons (cV 1 rfl (by decide) (pv 1)) aNil)) rfl rfl) (by decide) rfl) (zCons (Γ1 := [.sh, .sh, .sh, (.ol .sh), .no, .no]) (zSet (i := 3) sc.nd rfl (by first | exact .inl rfl | exact .inr rfl) (cNew (t := .sh)) (by decide) rfl) (zCons (Γ1 := [.sh, .sh, .sh, (.ol .sh), .no, .no]) (zFor (Γ := [.sh, .sh, .sh, (.ol .sh), .no, .no]) (Γ1 := [.sh, .sh, .sh, (.ol .sh), .sh, .sh]) PassesOwn.never rfl (iSeq (cIx ix_sh (cV 0 rfl (by decide) (pv 0)) cInt (by intro _ _; rfl))) (hTup rfl (hCons (hName (i := 4) sc.nd rfl (by first | exact .inl rfl | exact .inr rfl) (by decide)) (hCons (hName (i := 5) sc.nd rfl (by first | exact .inl rfl | exact .inr rfl) (by decide)) hNil))) (zWkn (n' := [.sh, .sh, .sh, (.ol .sh), .sh, .sh]) (zOne (zIf (qOr (qCmp op_notIn_seq (notin_s rfl) (cV 4 rfl (by decide) (pv 4)) (cV 1 rfl (by decide) (pv 1)) (by with_unfolding_all rfl)) (qOr1 (qCmp op_notIn_seq (notin_s rfl) (cV 5 rfl (by decide) (pv 5)) (cV 1 rfl (by decide) (pv 1)) (by with_unfolding_all rfl)))).pt (zOne (zDrop (mApp 3 (pe_bm PySem.F.plainAttrs_list PySem.F.slot_list_append PySem.F.type_list_append mt_append (pv 3) (pa_cons (mOfP (cTup (aCons (cIx ix_sh (cV 2 rfl (by decide) (pv 2)) (cV 4 rfl (by decide) (pv 4)) (by intro _ _; rfl)) (aCons (cIx ix_sh (cV 2 rfl (by decide) (pv 2)) (cV 5 rfl (by decide) (pv 5)) (by intro _ _; rfl)) aNil)))) pa_nil)) rfl rfl))) zNil)) rfl) rfl) (zFrz (Γ := [.sh, .sh, .sh, (.ol .sh), .no, .no]) 3 rfl rfl (zOne (zRet (cOfP (cTup (aCons (c2 op_add' add_s (c2 op_sub sub_s (cIx ix_sh (cV 0 rfl (by decide) (pv 0)) cInt (by intro _ _; rfl)) (cCallB call_len' (len_s rfl) (by rfl) (by exact T.z_len) PySem.boot_len (aCons (cV 1 rfl (by decide) (pv 1)) aNil))) cInt) (aCons (cCallT call_tuple_of (tup_s rfl) (by rfl) (by exact T.z_tuple) PyProof.Rows.boot_tuple (aCons (cV 3 rfl (by decide) (pv 3)) aNil)) aNil)))) rfl)))))))
theorem rz_put_together (T : Tx K mg) : FnOk P w K mg base (L2.CX P w) 6 T.a_put_together T.d_put_together ["heap", "lot"] (spR K T.C_NotUsable R_put_together) :=
  fn_raise (Γx := [.no, .no, .no, .no, .no, .no]) (nl := 4) T.f_put_together sc_put_together rfl rfl rfl (fun cdv A outer s H E hr tk => show PSs _ _ (rS _ _ [.sh, .sh, .no, .no, .no, .no] [.no, .no, .no, .no, .no, .no] _ _) from
    have sc := sc_put_together
    (rOneW (Γ1 := [.sh, .sh, .no, .no, .no, .no]) (Γx := [.no, .no, .no, .no, .no, .no]) (rSet (S := R_home_of) (i := 2) sc.nd rfl (by first | exact .inl rfl | exact .inr rfl) rfl (pe_callR (S := R_home_of) (rz_home_of T) (hr.mono (by decide)) (by rfl) (by exact T.m_home_of) (by exact T.k_home_of) (by exact T.b_home_of) tk (by exact (aCons (cV 0 rfl (by decide) (pv 0)) (aCons (cV 1 rfl (by decide) (pv 1)) aNil))))) rfl))
theorem sc_gates_of : FnScope ["heap", "lot"] ["heap", "lot"] (defScope st_gates_of) := ⟨rfl, rfl, rfl, by decide +kernel, rfl, by decide +kernel, by decide +kernel⟩
theorem ok_gates_of (T : Tx K mg) : FnOk P w K mg base CX0 6 T.a_gates_of T.d_gates_of ["heap", "lot"] (spF K S_gates_of) :=
  fn_val (nl := 0) (fo := false) T.f_gates_of sc_gates_of rfl rfl rfl rfl (fun h => nomatch h) (fun cdv A outer s H E hr => show PSs _ _ (tS _ [.sh, .sh] ⟨[.no, .no], [], [], [.no, .no], .sh⟩ _) from
    have sc := sc_gates_of
    (zOne (zRet (cOfP (cCallB call_len' (len_s rfl) (by rfl) (by exact T.z_len) PySem.boot_len (aCons (pOfC (cCall (S := (S_leaving)) (ok_leaving T) (hr.mono (by decide)) (by rfl) (by exact T.m_leaving) (by exact T.k_leaving) (by exact T.b_leaving) (aCons (cV 0 rfl (by decide) (pv 0)) (aCons (cV 1 rfl (by decide) (pv 1)) aNil)) rfl rfl)) aNil))) rfl)))
theorem sc__law_same : FnScope ["_law_told", "_law_due", "_law_k"] ["_law_told", "_law_due"] (defScope st__law_same) := ⟨rfl, rfl, rfl, by decide +kernel, rfl, by decide +kernel, by decide +kernel⟩
theorem ok__law_same (T : Tx K mg) : ∀ k : Nat, FnOk P w K mg base CX0 k T.a__law_same T.d__law_same ["_law_told", "_law_due"] (spF K (S__law_same k))
  | 0 => fn_zero rfl
  | k + 1 => have ih := ok__law_same T k
    fn_val (nl := 1) (fo := false) T.f__law_same sc__law_same rfl rfl rfl rfl (fun h => nomatch h) (fun cdv A outer s H E hr => show PSs _ _ (tS _ [.sh, .sh, .no] ⟨[.no, .no, .no], [], [], [.no, .no, .no], .sh⟩ _) from
    have sc := sc__law_same
    (zCons (Γ1 := [.sh, .sh, .no]) (zIf (qVal (cIsi isi_tuple (by rfl) (by exact T.z_isinstance) (pe_bltn (by rfl) (by exact T.z_tuple) PyProof.Rows.boot_tuple rfl) (cV 1 rfl (by decide) (pv 1)))) (zCons (Γ1 := [.sh, .sh, .no]) (zIf (qOr (qNot (qVal (cIsi isi_tuple (by rfl) (by exact T.z_isinstance) (pe_bltn (by rfl) (by exact T.z_tuple) PyProof.Rows.boot_tuple rfl) (cV 0 rfl (by decide) (pv 0))))) (qOr1 (qCmp (op_neD hr.units) (ne_s rfl rfl) (cCallB call_len' (len_s rfl) (by rfl) (by exact T.z_len) PySem.boot_len (aCons (cV 0 rfl (by decide) (pv 0)) aNil)) (cCallB call_len' (len_s rfl) (by rfl) (by exact T.z_len) PySem.boot_len (aCons (cV 1 rfl (by decide) (pv 1)) aNil)) (nomark _)))).pt (zOne (zRet (cOfP cBl) rfl)) zNil) (zOne (zRet (cOfP (cCallB (cr_all rfl) (all_s rfl) (by rfl) (by exact T.z_all) (by decide +kernel) (aCons (cFrz (cCmp0 (own := [("_law_k", 2)]) (Γ1 := [.sh, .sh, .sh]) rfl sc.nd (Pv.iRng1 (by rfl) (by exact T.z_range) (aCons (cCallB call_len' (len_s rfl) (by rfl) (by exact T.z_len) PySem.boot_len (aCons (cV 1 rfl (by decide) (pv 1)) aNil)) aNil)) (show BlkOk ["_law_told", "_law_due", "_law_k"] (defScope st__law_same) _ _ from ⟨rfl, by decide +kernel, by decide +kernel, by decide +kernel, by decide +kernel⟩) (fun _ _ _ _ _ => (hName (i := 2) sc.nd rfl (by first | exact .inl rfl | exact .inr rfl) (by decide))) (fun _ _ _ _ _ => kNil) (fun _ _ _ _ _ => (cCall (S := (S__law_same k)) ih hr (by rfl) (by exact T.m__law_same) (by exact T.k__law_same) (by exact T.b__law_same) (aCons (cIx ix_sh (cV 0 rfl (by decide) (pv 0)) (cV 2 rfl (by decide) (pv 2)) (by intro _ _; rfl)) (aCons (cIx ix_sh (cV 1 rfl (by decide) (pv 1)) (cV 2 rfl (by decide) (pv 2)) (by intro _ _; rfl)) aNil)) rfl rfl)) rfl)) aNil))) rfl))) zNil) (zOne (zRet (cOfP (vAnd (cIsi isi_int (by rfl) (by exact T.z_isinstance) (pe_bltn (by rfl) (by exact T.z_int) PyProof.Rows.boot_int rfl) (cV 0 rfl (by decide) (pv 0))) (vAnd (vNot (cIsi isi_bool (by rfl) (by exact T.z_isinstance) (pe_bltn (by rfl) (by exact T.z_bool) PyProof.Rows.boot_bool rfl) (cV 0 rfl (by decide) (pv 0)))) (vOne (cCmp (op_eqD hr.units) (eq_s rfl rfl) (cV 0 rfl (by decide) (pv 0)) (cV 1 rfl (by decide) (pv 1)) (nomark _)))))) rfl))))
theorem sc__law_turns : FnScope ["_law_pile", "_law_names", "_law_again", "_law_deal", "_law_anew", "_law_size", "_law_leaves", "_law_turned", "_law_pair", "_law_called", "_law_both_here", "_law_name", "_law_laid", "_law_k"] ["_law_pile", "_law_names", "_law_again", "_law_deal", "_law_anew"] (defScope st__law_turns) := ⟨rfl, rfl, rfl, by decide +kernel, rfl, by decide +kernel, by decide +kernel⟩
theorem ok__law_turns (T : Tx K mg) : FnOk P w K mg base CX0 7 T.a__law_turns T.d__law_turns ["_law_pile", "_law_names", "_law_again", "_law_deal", "_law_anew"] (spF K S__law_turns) :=
  fn_val (nl := 9) (fo := false) T.f__law_turns sc__law_turns rfl rfl rfl rfl (fun h => nomatch h) (fun cdv A outer s H E hr => show PSs _ _ (tS _ [.sh, .sh, .sh, .sh, .sh, .no, .no, .no, .no, .no, .no, .no, .no, .no] ⟨[.no, .no, .no, .no, .no, .no, .no, .no, .no, .no, .no, .no, .no, .no], [], [], [.no, .no, .no, .no, .no, .no, .no, .no, .no, .no, .no, .no, .no, .no], .sh⟩ _) from
    have sc := sc__law_turns
    (zCons (Γ1 := [.sh, .sh, .sh, .sh, .sh, .sh, .sh, .no, .no, .no, .no, .no, .no, .no]) (zUnp (cV 0 rfl (by decide) (pv 0)) (hTup rfl (hCons (hName (i := 5) sc.nd rfl (by first | exact .inl rfl | exact .inr rfl) (by decide)) (hCons (hName (i := 6) sc.nd rfl (by first | exact .inl rfl | exact .inr rfl) (by decide)) hNil))) rfl) (zCons (Γ1 := [.sh, .sh, .sh, .sh, .sh, .sh, .sh, .sh, .no, .no, .no, .no, .no, .no]) (zSet (i := 7) sc.nd rfl (by first | exact .inl rfl | exact .inr rfl) (cOfP (cTup (aCons (cV 5 rfl (by decide) (pv 5)) (aCons (cCallT call_tuple_of (tup_s rfl) (by rfl) (by exact T.z_tuple) PyProof.Rows.boot_tuple (aCons (cFrz (cCmp0 (own := [("_law_pair", 8)]) (Γ1 := [.sh, .sh, .sh, .sh, .sh, .sh, .sh, .no, .sh, .no, .no, .no, .no, .no]) rfl sc.nd (iSeq (cV 6 rfl (by decide) (pv 6))) (show BlkOk ["_law_pile", "_law_names", "_law_again", "_law_deal", "_law_anew", "_law_size", "_law_leaves", "_law_turned", "_law_pair", "_law_called", "_law_both_here", "_law_name", "_law_laid", "_law_k"] (defScope st__law_turns) _ _ from ⟨rfl, by decide +kernel, by decide +kernel, by decide +kernel, by decide +kernel⟩) (fun _ _ _ _ _ => (hName (i := 8) sc.nd rfl (by first | exact .inl rfl | exact .inr rfl) (by decide))) (fun _ _ _ _ _ => kNil) (fun _ _ _ _ _ => (cOfP (cTup (aCons (cIx ix_sh (cV 8 rfl (by decide) (pv 8)) cInt (by intro _ _; rfl)) (aCons (cIx ix_sh (cV 8 rfl (by decide) (pv 8)) cInt (by intro _ _; rfl)) aNil))))) rfl)) aNil)) aNil)))) (by decide) rfl) (zCons (Γ1 := [.sh, .sh, .sh, .sh, .sh, .sh, .sh, .sh, .no, .no, .no, .no, .no, .no]) (zIf (qOr (qNot (qVal (pOfC (cCall (S := (S__law_same 6)) (ok__law_same T 6) (hr.mono (by decide)) (by rfl) (by exact T.m__law_same) (by exact T.k__law_same) (by exact T.b__law_same) (aCons (pOfC (cCallK (S := (S_backwards)) (ks := ["heap"]) (pm := [0]) (ok_backwards T) (hr.mono (by decide)) (by rfl) (by exact T.m_backwards) (by exact T.k_backwards) (by exact T.kb_backwards_heap) (wCons (cV 0 rfl (by decide) (pv 0)) wNil) rfl rfl (ro_len _ _ (by decide)) rfl rfl)) (aCons (cV 7 rfl (by decide) (pv 7)) aNil)) rfl rfl)))) (qOr1 (qNot (qVal (pOfC (cCall (S := (S__law_same 6)) (ok__law_same T 6) (hr.mono (by decide)) (by rfl) (by exact T.m__law_same) (by exact T.k__law_same) (by exact T.b__law_same) (aCons (pOfC (cCall (S := (S_backwards)) (ok_backwards T) (hr.mono (by decide)) (by rfl) (by exact T.m_backwards) (by exact T.k_backwards) (by exact T.b_backwards) (aCons (cV 7 rfl (by decide) (pv 7)) aNil) rfl rfl)) (aCons (cV 0 rfl (by decide) (pv 0)) aNil)) rfl rfl)))))).pt (zOne (zRet (cOfP cBl) rfl)) zNil) (zCons (Γ1 := [.sh, .sh, .sh, .sh, .sh, .sh, .sh, .sh, .no, .sh, .no, .no, .no, .no]) (zSet (i := 9) sc.nd rfl (by first | exact .inl rfl | exact .inr rfl) (cOfP (cTup (aCons (cV 5 rfl (by decide) (pv 5)) (aCons (cCallT call_tuple_of (tup_s rfl) (by rfl) (by exact T.z_tuple) PyProof.Rows.boot_tuple (aCons (cFrz (cCmp0 (own := [("_law_pair", 8)]) (Γ1 := [.sh, .sh, .sh, .sh, .sh, .sh, .sh, .sh, .sh, .no, .no, .no, .no, .no]) rfl sc.nd (iSeq (cV 6 rfl (by decide) (pv 6))) (show BlkOk ["_law_pile", "_law_names", "_law_again", "_law_deal", "_law_anew", "_law_size", "_law_leaves", "_law_turned", "_law_pair", "_law_called", "_law_both_here", "_law_name", "_law_laid", "_law_k"] (defScope st__law_turns) _ _ from ⟨rfl, by decide +kernel, by decide +kernel, by decide +kernel, by decide +kernel⟩) (fun _ _ _ _ _ => (hName (i := 8) sc.nd rfl (by first | exact .inl rfl | exact .inr rfl) (by decide))) (fun _ _ _ _ _ => kNil) (fun _ _ _ _ _ => (cOfP (cTup (aCons (cIx ix_sh (cV 1 rfl (by decide) (pv 1)) (cIx ix_sh (cV 8 rfl (by decide) (pv 8)) cInt (by intro _ _; rfl)) (by intro _ _; rfl)) (aCons (cIx ix_sh (cV 1 rfl (by decide) (pv 1)) (cIx ix_sh (cV 8 rfl (by decide) (pv 8)) cInt (by intro _ _; rfl)) (by intro _ _; rfl)) aNil))))) rfl)) aNil)) aNil)))) (by decide) rfl) (zCons (Γ1 := [.sh, .sh, .sh, .sh, .sh, .sh, .sh, .sh, .no, .sh, .no, .no, .no, .no]) (zIf (qNot (qVal (pOfC (cCall (S := (S__law_same 6)) (ok__law_same T 6) (hr.mono (by decide)) (by rfl) (by exact T.m__law_same) (by exact T.k__law_same) (by exact T.b__law_same) (aCons (pOfC (cCallK (S := (S_renamed)) (ks := ["order", "heap"]) (pm := [1, 0]) (ok_renamed T) (hr.mono (by decide)) (by rfl) (by exact T.m_renamed) (by exact T.k_renamed) (by exact T.kb_renamed_order_heap) (wCons (cV 1 rfl (by decide) (pv 1)) (wCons (cV 0 rfl (by decide) (pv 0)) wNil)) rfl rfl (ro_len _ _ (by decide)) rfl rfl)) (aCons (cV 9 rfl (by decide) (pv 9)) aNil)) rfl rfl)))) (zOne (zRet (cOfP cBl) rfl)) zNil) (zCons (Γ1 := [.sh, .sh, .sh, .sh, .sh, .sh, .sh, .sh, .no, .sh, .no, .no, .no, .no]) (zIf (qNot (qVal (pOfC (cCall (S := (S__law_same 6)) (ok__law_same T 6) (hr.mono (by decide)) (by rfl) (by exact T.m__law_same) (by exact T.k__law_same) (by exact T.b__law_same) (aCons (pOfC (cCall (S := (S_renamed)) (ok_renamed T) (hr.mono (by decide)) (by rfl) (by exact T.m_renamed) (by exact T.k_renamed) (by exact T.b_renamed) (aCons (cV 9 rfl (by decide) (pv 9)) (aCons (pOfC (cCall (S := (S__law_opposite)) (ok__law_opposite T) (hr.mono (by decide)) (by rfl) (by exact T.m__law_opposite) (by exact T.k__law_opposite) (by exact T.b__law_opposite) (aCons (cV 1 rfl (by decide) (pv 1)) aNil) rfl rfl)) aNil)) rfl rfl)) (aCons (cV 0 rfl (by decide) (pv 0)) aNil)) rfl rfl)))) (zOne (zRet (cOfP cBl) rfl)) zNil) (zCons (Γ1 := [.sh, .sh, .sh, .sh, .sh, .sh, .sh, .sh, .no, .sh, .sh, .no, .no, .no]) (zSet (i := 10) sc.nd rfl (by first | exact .inl rfl | exact .inr rfl) (cOfP (cCallT call_tuple_of (tup_s rfl) (by rfl) (by exact T.z_tuple) PyProof.Rows.boot_tuple (aCons (cFrz (cCmp0 (own := [("_law_name", 11)]) (Γ1 := [.sh, .sh, .sh, .sh, .sh, .sh, .sh, .sh, .no, .sh, .no, .sh, .no, .no]) rfl sc.nd (iSeq (cV 1 rfl (by decide) (pv 1))) (show BlkOk ["_law_pile", "_law_names", "_law_again", "_law_deal", "_law_anew", "_law_size", "_law_leaves", "_law_turned", "_law_pair", "_law_called", "_law_both_here", "_law_name", "_law_laid", "_law_k"] (defScope st__law_turns) _ _ from ⟨rfl, by decide +kernel, by decide +kernel, by decide +kernel, by decide +kernel⟩) (fun _ _ _ _ _ => (hName (i := 11) sc.nd rfl (by first | exact .inl rfl | exact .inr rfl) (by decide))) (fun _ _ _ _ _ => kNil) (fun _ _ _ _ _ => (cOfP (cIx ix_sh (cV 2 rfl (by decide) (pv 2)) (cV 11 rfl (by decide) (pv 11)) (by intro _ _; rfl)))) rfl)) aNil))) (by decide) rfl) (zCons (Γ1 := [.sh, .sh, .sh, .sh, .sh, .sh, .sh, .sh, .no, .sh, .sh, .no, .no, .no]) (zIf (qNot (qVal (pOfC (cCall (S := (S__law_same 6)) (ok__law_same T 6) (hr.mono (by decide)) (by rfl) (by exact T.m__law_same) (by exact T.k__law_same) (by exact T.b__law_same) (aCons (pOfC (cCall (S := (S_renamed)) (ok_renamed T) (hr.mono (by decide)) (by rfl) (by exact T.m_renamed) (by exact T.k_renamed) (by exact T.b_renamed) (aCons (cV 9 rfl (by decide) (pv 9)) (aCons (cV 2 rfl (by decide) (pv 2)) aNil)) rfl rfl)) (aCons (pOfC (cCall (S := (S_renamed)) (ok_renamed T) (hr.mono (by decide)) (by rfl) (by exact T.m_renamed) (by exact T.k_renamed) (by exact T.b_renamed) (aCons (cV 0 rfl (by decide) (pv 0)) (aCons (cV 10 rfl (by decide) (pv 10)) aNil)) rfl rfl)) aNil)) rfl rfl)))) (zOne (zRet (cOfP cBl) rfl)) zNil) (zCons (Γ1 := [.sh, .sh, .sh, .sh, .sh, .sh, .sh, .sh, .no, .sh, .sh, .no, .sh, .no]) (zSet (i := 12) sc.nd rfl (by first | exact .inl rfl | exact .inr rfl) (cOfP (cTup (aCons (cV 5 rfl (by decide) (pv 5)) (aCons (cCallT call_tuple_of (tup_s rfl) (by rfl) (by exact T.z_tuple) PyProof.Rows.boot_tuple (aCons (cFrz (cCmp0 (own := [("_law_k", 13)]) (Γ1 := [.sh, .sh, .sh, .sh, .sh, .sh, .sh, .sh, .no, .sh, .sh, .no, .no, .sh]) rfl sc.nd (iSeq (cV 3 rfl (by decide) (pv 3))) (show BlkOk ["_law_pile", "_law_names", "_law_again", "_law_deal", "_law_anew", "_law_size", "_law_leaves", "_law_turned", "_law_pair", "_law_called", "_law_both_here", "_law_name", "_law_laid", "_law_k"] (defScope st__law_turns) _ _ from ⟨rfl, by decide +kernel, by decide +kernel, by decide +kernel, by decide +kernel⟩) (fun _ _ _ _ _ => (hName (i := 13) sc.nd rfl (by first | exact .inl rfl | exact .inr rfl) (by decide))) (fun _ _ _ _ _ => kNil) (fun _ _ _ _ _ => (cOfP (cIx ix_sh (cV 6 rfl (by decide) (pv 6)) (cV 13 rfl (by decide) (pv 13)) (by intro _ _; rfl)))) rfl)) aNil)) aNil)))) (by decide) rfl) (zCons (Γ1 := [.sh, .sh, .sh, .sh, .sh, .sh, .sh, .sh, .no, .sh, .sh, .no, .sh, .no]) (zIf (qOr (qNot (qVal (pOfC (cCall (S := (S__law_same 6)) (ok__law_same T 6) (hr.mono (by decide)) (by rfl) (by exact T.m__law_same) (by exact T.k__law_same) (by exact T.b__law_same) (aCons (pOfC (cCall (S := (S_dealt)) (ok_dealt T) (hr.mono (by decide)) (by rfl) (by exact T.m_dealt) (by exact T.k_dealt) (by exact T.b_dealt) (aCons (cV 0 rfl (by decide) (pv 0)) (aCons (cV 3 rfl (by decide) (pv 3)) aNil)) rfl rfl)) (aCons (cV 12 rfl (by decide) (pv 12)) aNil)) rfl rfl)))) (qOr1 (qNot (qVal (pOfC (cCall (S := (S__law_same 6)) (ok__law_same T 6) (hr.mono (by decide)) (by rfl) (by exact T.m__law_same) (by exact T.k__law_same) (by exact T.b__law_same) (aCons (pOfC (cCall (S := (S_dealt)) (ok_dealt T) (hr.mono (by decide)) (by rfl) (by exact T.m_dealt) (by exact T.k_dealt) (by exact T.b_dealt) (aCons (cV 12 rfl (by decide) (pv 12)) (aCons (pOfC (cCall (S := (S__law_opposite)) (ok__law_opposite T) (hr.mono (by decide)) (by rfl) (by exact T.m__law_opposite) (by exact T.k__law_opposite) (by exact T.b__law_opposite) (aCons (cV 3 rfl (by decide) (pv 3)) aNil) rfl rfl)) aNil)) rfl rfl)) (aCons (cV 0 rfl (by decide) (pv 0)) aNil)) rfl rfl)))))).pt (zOne (zRet (cOfP cBl) rfl)) zNil) (zCons (Γ1 := [.sh, .sh, .sh, .sh, .sh, .sh, .sh, .sh, .no, .sh, .sh, .no, .sh, .no]) (zIf (qNot (qVal (pOfC (cCall (S := (S__law_same 6)) (ok__law_same T 6) (hr.mono (by decide)) (by rfl) (by exact T.m__law_same) (by exact T.k__law_same) (by exact T.b__law_same) (aCons (pOfC (cCallK (S := (S_dealt)) (ks := ["heap", "order"]) (pm := [0, 1]) (ok_dealt T) (hr.mono (by decide)) (by rfl) (by exact T.m_dealt) (by exact T.k_dealt) (by exact T.kb_dealt_heap_order) (wCons (cV 12 rfl (by decide) (pv 12)) (wCons (cV 4 rfl (by decide) (pv 4)) wNil)) rfl rfl (ro_len _ _ (by decide)) rfl rfl)) (aCons (pOfC (cCall (S := (S_dealt)) (ok_dealt T) (hr.mono (by decide)) (by rfl) (by exact T.m_dealt) (by exact T.k_dealt) (by exact T.b_dealt) (aCons (cV 0 rfl (by decide) (pv 0)) (aCons (cCallT call_tuple_of (tup_s rfl) (by rfl) (by exact T.z_tuple) PyProof.Rows.boot_tuple (aCons (cFrz (cCmp0 (own := [("_law_k", 13)]) (Γ1 := [.sh, .sh, .sh, .sh, .sh, .sh, .sh, .sh, .no, .sh, .sh, .no, .sh, .sh]) rfl sc.nd (iSeq (cV 4 rfl (by decide) (pv 4))) (show BlkOk ["_law_pile", "_law_names", "_law_again", "_law_deal", "_law_anew", "_law_size", "_law_leaves", "_law_turned", "_law_pair", "_law_called", "_law_both_here", "_law_name", "_law_laid", "_law_k"] (defScope st__law_turns) _ _ from ⟨rfl, by decide +kernel, by decide +kernel, by decide +kernel, by decide +kernel⟩) (fun _ _ _ _ _ => (hName (i := 13) sc.nd rfl (by first | exact .inl rfl | exact .inr rfl) (by decide))) (fun _ _ _ _ _ => kNil) (fun _ _ _ _ _ => (cOfP (cIx ix_sh (cV 3 rfl (by decide) (pv 3)) (cV 13 rfl (by decide) (pv 13)) (by intro _ _; rfl)))) rfl)) aNil)) aNil)) rfl rfl)) aNil)) rfl rfl)))) (zOne (zRet (cOfP cBl) rfl)) zNil) (zCons (Γ1 := [.sh, .sh, .sh, .sh, .sh, .sh, .sh, .sh, .no, .sh, .sh, .no, .sh, .no]) (zIf (qNot (qVal (pOfC (cCall (S := (S__law_same 6)) (ok__law_same T 6) (hr.mono (by decide)) (by rfl) (by exact T.m__law_same) (by exact T.k__law_same) (by exact T.b__law_same) (aCons (pOfC (cCall (S := (S_dealt)) (ok_dealt T) (hr.mono (by decide)) (by rfl) (by exact T.m_dealt) (by exact T.k_dealt) (by exact T.b_dealt) (aCons (cV 9 rfl (by decide) (pv 9)) (aCons (cV 3 rfl (by decide) (pv 3)) aNil)) rfl rfl)) (aCons (pOfC (cCall (S := (S_renamed)) (ok_renamed T) (hr.mono (by decide)) (by rfl) (by exact T.m_renamed) (by exact T.k_renamed) (by exact T.b_renamed) (aCons (cV 12 rfl (by decide) (pv 12)) (aCons (cV 1 rfl (by decide) (pv 1)) aNil)) rfl rfl)) aNil)) rfl rfl)))) (zOne (zRet (cOfP cBl) rfl)) zNil) (zOne (zRet (cCall (S := (S__law_same 6)) (ok__law_same T 6) (hr.mono (by decide)) (by rfl) (by exact T.m__law_same) (by exact T.k__law_same) (by exact T.b__law_same) (aCons (pOfC (cCall (S := (S_backwards)) (ok_backwards T) (hr.mono (by decide)) (by rfl) (by exact T.m_backwards) (by exact T.k_backwards) (by exact T.b_backwards) (aCons (pOfC (cCall (S := (S_dealt)) (ok_dealt T) (hr.mono (by decide)) (by rfl) (by exact T.m_dealt) (by exact T.k_dealt) (by exact T.b_dealt) (aCons (cV 9 rfl (by decide) (pv 9)) (aCons (cV 3 rfl (by decide) (pv 3)) aNil)) rfl rfl)) aNil) rfl rfl)) (aCons (pOfC (cCall (S := (S_dealt)) (ok_dealt T) (hr.mono (by decide)) (by rfl) (by exact T.m_dealt) (by exact T.k_dealt) (by exact T.b_dealt) (aCons (pOfC (cCall (S := (S_renamed)) (ok_renamed T) (hr.mono (by decide)) (by rfl) (by exact T.m_renamed) (by exact T.k_renamed) (by exact T.b_renamed) (aCons (cV 7 rfl (by decide) (pv 7)) (aCons (cV 1 rfl (by decide) (pv 1)) aNil)) rfl rfl)) (aCons (cV 3 rfl (by decide) (pv 3)) aNil)) rfl rfl)) aNil)) rfl rfl) rfl)))))))))))))))
theorem sc__law_longer : FnScope ["_law_pile", "_law_spot", "_law_size", "_law_leaves", "_law_k", "_law_first", "_law_last", "_law_due"] ["_law_pile", "_law_spot"] (defScope st__law_longer) := ⟨rfl, rfl, rfl, by decide +kernel, rfl, by decide +kernel, by decide +kernel⟩
theorem ok__law_longer (T : Tx K mg) : FnOk P w K mg base CX0 7 T.a__law_longer T.d__law_longer ["_law_pile", "_law_spot"] (spF K S__law_longer) :=
  fn_val (nl := 6) (fo := false) T.f__law_longer sc__law_longer rfl rfl rfl rfl (fun h => nomatch h) (fun cdv A outer s H E hr => show PSs _ _ (tS _ [.sh, .sh, .no, .no, .no, .no, .no, .no] ⟨[.no, .no, .no, .no, .no, .no, .no, .no], [], [], [.no, .no, .no, .no, .no, .no, .no, .no], .sh⟩ _) from
    have sc := sc__law_longer
    (zCons (Γ1 := [.sh, .sh, .sh, .sh, .no, .no, .no, .no]) (zUnp (cV 0 rfl (by decide) (pv 0)) (hTup rfl (hCons (hName (i := 2) sc.nd rfl (by first | exact .inl rfl | exact .inr rfl) (by decide)) (hCons (hName (i := 3) sc.nd rfl (by first | exact .inl rfl | exact .inr rfl) (by decide)) hNil))) rfl) (zCons (Γ1 := [.sh, .sh, .sh, .sh, .no, .no, .no, .no]) (zIf (qNot (qVal (pOfC (cCall (S := (S__law_same 6)) (ok__law_same T 6) (hr.mono (by decide)) (by rfl) (by exact T.m__law_same) (by exact T.k__law_same) (by exact T.b__law_same) (aCons (pOfC (cCallK (S := (S_hung)) (ks := ["word", "heap"]) (pm := [1, 0]) (ok_hung T) (hr.mono (by decide)) (by rfl) (by exact T.m_hung) (by exact T.k_hung) (by exact T.kb_hung_word_heap) (wCons (cV 1 rfl (by decide) (pv 1)) (wCons (cV 0 rfl (by decide) (pv 0)) wNil)) rfl rfl (ro_len _ _ (by decide)) rfl rfl)) (aCons (cTup (aCons (cV 2 rfl (by decide) (pv 2)) (aCons (c2 op_plus plus_s (cV 3 rfl (by decide) (pv 3)) (cTup (aCons (cTup (aCons (cV 1 rfl (by decide) (pv 1)) (aCons (cV 1 rfl (by decide) (pv 1)) aNil))) aNil))) aNil))) aNil)) rfl rfl)))) (zOne (zRet (cOfP cBl) rfl)) zNil) (zCons (Γ1 := [.sh, .sh, .sh, .sh, .no, .no, .no, .no]) (zFor (Γ := [.sh, .sh, .sh, .sh, .no, .no, .no, .no]) (Γ1 := [.sh, .sh, .sh, .sh, .sh, .no, .no, .no]) PassesOwn.never rfl (Pv.iRng1 (by rfl) (by exact T.z_range) (aCons (cCallB call_len' (len_s rfl) (by rfl) (by exact T.z_len) PySem.boot_len (aCons (cV 3 rfl (by decide) (pv 3)) aNil)) aNil)) (hName (i := 4) sc.nd rfl (by first | exact .inl rfl | exact .inr rfl) (by decide)) (zWkn (n' := [.sh, .sh, .sh, .sh, .sh, .sh, .sh, .sh]) (zCons (Γ1 := [.sh, .sh, .sh, .sh, .sh, .sh, .sh, .no]) (zUnp (cIx ix_sh (cV 3 rfl (by decide) (pv 3)) (cV 4 rfl (by decide) (pv 4)) (by intro _ _; rfl)) (hTup rfl (hCons (hName (i := 5) sc.nd rfl (by first | exact .inl rfl | exact .inr rfl) (by decide)) (hCons (hName (i := 6) sc.nd rfl (by first | exact .inl rfl | exact .inr rfl) (by decide)) hNil))) rfl) (zCons (Γ1 := [.sh, .sh, .sh, .sh, .sh, .sh, .sh, .sh]) (zSet (i := 7) sc.nd rfl (by first | exact .inl rfl | exact .inr rfl) (cOfP (cTup (aCons (c2 op_add' add_s (cV 2 rfl (by decide) (pv 2)) cInt) (aCons (c2 op_plus plus_s (c2 op_plus plus_s (c2 op_plus plus_s (cSl (cV 3 rfl (by decide) (pv 3)) oNone (oSome (cV 4 rfl (by decide) (pv 4)))) (cTup (aCons (cTup (aCons (cV 5 rfl (by decide) (pv 5)) (aCons (cV 2 rfl (by decide) (pv 2)) aNil))) aNil))) (cSl (cV 3 rfl (by decide) (pv 3)) (oSome (c2 op_add' add_s (cV 4 rfl (by decide) (pv 4)) cInt)) oNone)) (cTup (aCons (cTup (aCons (cV 2 rfl (by decide) (pv 2)) (aCons (cV 6 rfl (by decide) (pv 6)) aNil))) aNil))) aNil)))) (by decide) rfl) (zCons (Γ1 := [.sh, .sh, .sh, .sh, .sh, .sh, .sh, .sh]) (zIf (qNot (qVal (pOfC (cCall (S := (S__law_same 6)) (ok__law_same T 6) (hr.mono (by decide)) (by rfl) (by exact T.m__law_same) (by exact T.k__law_same) (by exact T.b__law_same) (aCons (pOfC (cCall (S := (S_parted)) (ok_parted T) (hr.mono (by decide)) (by rfl) (by exact T.m_parted) (by exact T.k_parted) (by exact T.b_parted) (aCons (cV 0 rfl (by decide) (pv 0)) (aCons (cV 4 rfl (by decide) (pv 4)) aNil)) rfl rfl)) (aCons (cV 7 rfl (by decide) (pv 7)) aNil)) rfl rfl)))) (zOne (zRet (cOfP cBl) rfl)) zNil) (zOne (zIf (qAnd (qCmp op_gt gt_s (cV 2 rfl (by decide) (pv 2)) cInt (nomark _)) (qAnd1 (qNot (qVal (pOfC (cCall (S := (S__law_same 6)) (ok__law_same T 6) (hr.mono (by decide)) (by rfl) (by exact T.m__law_same) (by exact T.k__law_same) (by exact T.b__law_same) (aCons (pOfC (cCall (S := (S_put_together)) (ok_put_together T) (hr.mono (by decide)) (by rfl) (by exact T.m_put_together) (by exact T.k_put_together) (by exact T.b_put_together) (aCons (cV 7 rfl (by decide) (pv 7)) (aCons (cTup (aCons (cV 6 rfl (by decide) (pv 6)) (aCons (cV 2 rfl (by decide) (pv 2)) aNil))) aNil)) rfl rfl)) (aCons (pOfC (cCall (S := (S__law_without_loops)) (ok__law_without_loops T) (hr.mono (by decide)) (by rfl) (by exact T.m__law_without_loops) (by exact T.k__law_without_loops) (by exact T.b__law_without_loops) (aCons (cV 0 rfl (by decide) (pv 0)) (aCons (cV 6 rfl (by decide) (pv 6)) aNil)) rfl rfl)) aNil)) rfl rfl)))))).pt (zOne (zRet (cOfP cBl) rfl)) zNil))))) rfl) rfl) (zOne (zRet (cOfP cBl) rfl))))))
theorem sc__law_both : FnScope ["_law_pile", "_law_extra_one", "_law_size", "_law_words", "_law_k", "_law_leaves", "_law_pair", "_law_due"] ["_law_pile", "_law_extra_one"] (defScope st__law_both) := ⟨rfl, rfl, rfl, by decide +kernel, rfl, by decide +kernel, by decide +kernel⟩
theorem ok__law_both (T : Tx K mg) : FnOk P w K mg base CX0 7 T.a__law_both T.d__law_both ["_law_pile", "_law_extra_one"] (spF K S__law_both) :=
  fn_val (nl := 6) (fo := false) T.f__law_both sc__law_both rfl rfl rfl rfl (fun h => nomatch h) (fun cdv A outer s H E hr => show PSs _ _ (tS _ [.sh, .sh, .no, .no, .no, .no, .no, .no] ⟨[.no, .no, .no, .no, .no, .no, .no, .no], [], [], [.no, .no, .no, .no, .no, .no, .no, .no], .sh⟩ _) from
    have sc := sc__law_both
    (zCons (Γ1 := [.sh, .sh, .sh, .no, .no, .no, .no, .no]) (zSet (i := 2) sc.nd rfl (by first | exact .inl rfl | exact .inr rfl) (cOfP (cIx ix_sh (cV 0 rfl (by decide) (pv 0)) cInt (by intro _ _; rfl))) (by decide) rfl) (zCons (Γ1 := [.sh, .sh, .sh, (.ol .sh), .no, .no, .no, .no]) (zSet (i := 3) sc.nd rfl (by first | exact .inl rfl | exact .inr rfl) (cLst (aCons cInt aNil)) (by decide) rfl) (zCons (Γ1 := [.sh, .sh, .sh, (.ol .sh), .no, .no, .no, .no]) (zFor (Γ := [.sh, .sh, .sh, (.ol .sh), .no, .no, .no, .no]) (Γ1 := [.sh, .sh, .sh, (.ol .sh), .sh, .no, .no, .no]) PassesOwn.never rfl (Pv.iRng2 (by rfl) (by exact T.z_range) (aCons cInt (aCons (cIx ix_sh (cV 1 rfl (by decide) (pv 1)) cInt (by intro _ _; rfl)) aNil))) (hName (i := 4) sc.nd rfl (by first | exact .inl rfl | exact .inr rfl) (by decide)) (zWkn (n' := [.sh, .sh, .sh, (.ol .sh), .sh, .no, .no, .no]) (zOne (zDrop (mApp 3 (pe_bm PySem.F.plainAttrs_list PySem.F.slot_list_append PySem.F.type_list_append mt_append (pv 3) (pa_cons (mOfP (c2 op_sub sub_s (c2 op_add' add_s (cV 2 rfl (by decide) (pv 2)) (cV 4 rfl (by decide) (pv 4))) cInt)) pa_nil)) rfl rfl))) rfl) rfl) (zFrz (Γ := [.sh, .sh, .sh, (.ol .sh), .no, .no, .no, .no]) 3 rfl rfl (zCons (Γ1 := [.sh, .sh, .sh, .sh, .no, .sh, .no, .no]) (zSet (i := 5) sc.nd rfl (by first | exact .inl rfl | exact .inr rfl) (cOfP (c2 op_plus plus_s (cIx ix_sh (cV 0 rfl (by decide) (pv 0)) cInt (by intro _ _; rfl)) (cCallT call_tuple_of (tup_s rfl) (by rfl) (by exact T.z_tuple) PyProof.Rows.boot_tuple (aCons (cFrz (cCmp0 (own := [("_law_pair", 6)]) (Γ1 := [.sh, .sh, .sh, .sh, .no, .no, .sh, .no]) rfl sc.nd (iSeq (cIx ix_sh (cV 1 rfl (by decide) (pv 1)) cInt (by intro _ _; rfl))) (show BlkOk ["_law_pile", "_law_extra_one", "_law_size", "_law_words", "_law_k", "_law_leaves", "_law_pair", "_law_due"] (defScope st__law_both) _ _ from ⟨rfl, by decide +kernel, by decide +kernel, by decide +kernel, by decide +kernel⟩) (fun _ _ _ _ _ => (hName (i := 6) sc.nd rfl (by first | exact .inl rfl | exact .inr rfl) (by decide))) (fun _ _ _ _ _ => kNil) (fun _ _ _ _ _ => (cOfP (cTup (aCons (cIx ix_sh (cV 3 rfl (by decide) (pv 3)) (cIx ix_sh (cV 6 rfl (by decide) (pv 6)) cInt (by intro _ _; rfl)) (by intro _ _; rfl)) (aCons (cIx ix_sh (cV 3 rfl (by decide) (pv 3)) (cIx ix_sh (cV 6 rfl (by decide) (pv 6)) cInt (by intro _ _; rfl)) (by intro _ _; rfl)) aNil))))) rfl)) aNil)))) (by decide) rfl) (zCons (Γ1 := [.sh, .sh, .sh, .sh, .no, .sh, .no, .sh]) (zSet (i := 7) sc.nd rfl (by first | exact .inl rfl | exact .inr rfl) (cOfP (cTup (aCons (c2 op_sub sub_s (c2 op_add' add_s (cV 2 rfl (by decide) (pv 2)) (cIx ix_sh (cV 1 rfl (by decide) (pv 1)) cInt (by intro _ _; rfl))) cInt) (aCons (cV 5 rfl (by decide) (pv 5)) aNil)))) (by decide) rfl) (zCons (Γ1 := [.sh, .sh, .sh, .sh, .no, .sh, .no, .sh]) (zIf (qNot (qVal (pOfC (cCall (S := (S__law_same 6)) (ok__law_same T 6) (hr.mono (by decide)) (by rfl) (by exact T.m__law_same) (by exact T.k__law_same) (by exact T.b__law_same) (aCons (pOfC (cCallK (S := (S_joined)) (ks := ["other", "heap"]) (pm := [1, 0]) (ok_joined T) (hr.mono (by decide)) (by rfl) (by exact T.m_joined) (by exact T.k_joined) (by exact T.kb_joined_other_heap) (wCons (cV 1 rfl (by decide) (pv 1)) (wCons (cV 0 rfl (by decide) (pv 0)) wNil)) rfl rfl (ro_len _ _ (by decide)) rfl rfl)) (aCons (cV 7 rfl (by decide) (pv 7)) aNil)) rfl rfl)))) (zOne (zRet (cOfP cBl) rfl)) zNil) (zCons (Γ1 := [.sh, .sh, .sh, .sh, .no, .sh, .no, .sh]) (zIf (qCmp op_gt gt_s (cIx ix_sh (cV 1 rfl (by decide) (pv 1)) cInt (by intro _ _; rfl)) cInt (nomark _)) (zOne (zIf (qNot (qVal (pOfC (cCall (S := (S__law_same 6)) (ok__law_same T 6) (hr.mono (by decide)) (by rfl) (by exact T.m__law_same) (by exact T.k__law_same) (by exact T.b__law_same) (aCons (pOfC (cCall (S := (S_put_together)) (ok_put_together T) (hr.mono (by decide)) (by rfl) (by exact T.m_put_together) (by exact T.k_put_together) (by exact T.b_put_together) (aCons (cV 7 rfl (by decide) (pv 7)) (aCons (cCallT call_tuple_of (tup_s rfl) (by rfl) (by exact T.z_tuple) PyProof.Rows.boot_tuple (aCons (cFrz (cLstRng rfl (by rfl) (by exact T.z_list) (by rfl) (by exact T.z_range) (cV 2 rfl (by decide) (pv 2)))) aNil)) aNil)) rfl rfl)) (aCons (pOfC (cCall (S := (S__law_without_loops)) (ok__law_without_loops T) (hr.mono (by decide)) (by rfl) (by exact T.m__law_without_loops) (by exact T.k__law_without_loops) (by exact T.b__law_without_loops) (aCons (cV 1 rfl (by decide) (pv 1)) (aCons cInt aNil)) rfl rfl)) aNil)) rfl rfl)))) (zOne (zRet (cOfP cBl) rfl)) zNil)) zNil) (zCons (Γ1 := [.sh, .sh, .sh, .sh, .no, .sh, .no, .sh]) (zIf (qCmp op_gt gt_s (cV 2 rfl (by decide) (pv 2)) cInt (nomark _)) (zOne (zIf (qNot (qVal (pOfC (cCall (S := (S__law_same 6)) (ok__law_same T 6) (hr.mono (by decide)) (by rfl) (by exact T.m__law_same) (by exact T.k__law_same) (by exact T.b__law_same) (aCons (pOfC (cCall (S := (S_put_together)) (ok_put_together T) (hr.mono (by decide)) (by rfl) (by exact T.m_put_together) (by exact T.k_put_together) (by exact T.b_put_together) (aCons (cV 7 rfl (by decide) (pv 7)) (aCons (cCallT call_tuple_of (tup_s rfl) (by rfl) (by exact T.z_tuple) PyProof.Rows.boot_tuple (aCons (cV 3 rfl (by decide) (pv 3)) aNil)) aNil)) rfl rfl)) (aCons (pOfC (cCall (S := (S__law_without_loops)) (ok__law_without_loops T) (hr.mono (by decide)) (by rfl) (by exact T.m__law_without_loops) (by exact T.k__law_without_loops) (by exact T.b__law_without_loops) (aCons (cV 0 rfl (by decide) (pv 0)) (aCons cInt aNil)) rfl rfl)) aNil)) rfl rfl)))) (zOne (zRet (cOfP cBl) rfl)) zNil)) zNil) (zOne (zRet (cOfP cBl) rfl))))))))))))
theorem sc__law_refused : FnScope ["_law_pile", "_law_part", "_law_count", "e"] ["_law_pile", "_law_part"] (defScope st__law_refused) := ⟨rfl, rfl, rfl, by decide +kernel, rfl, by decide +kernel, by decide +kernel⟩
theorem ok__law_refused (T : Tx K mg) : FnOk P w K mg base CX0 7 T.a__law_refused T.d__law_refused ["_law_pile", "_law_part"] (spF K S__law_refused) :=
  fn_val (nl := 2) (fo := false) T.f__law_refused sc__law_refused rfl rfl rfl rfl (fun h => nomatch h) (fun cdv A outer s H E hr => show PSs _ _ (tS _ [.sh, .sh, .no, .no] ⟨[.no, .no, .no, .no], [], [], [.no, .no, .no, .no], .sh⟩ _) from
    have sc := sc__law_refused
    (zCons (Γ1 := [.sh, .sh, .sh, .no]) (zSet (i := 2) sc.nd rfl (by first | exact .inl rfl | exact .inr rfl) (cOfP cInt) (by decide) rfl) (zCons (Γ1 := [.sh, .sh, .sh, .no]) (zTryAs (Γ := [.sh, .sh, .sh, .no]) (Γ1 := [.sh, .sh, .sh, .no]) (i := 3) rfl rfl sc.nd rfl rfl ⟨rfl, by decide, Or.inl T.gC_NotUsable⟩ T.te_NotUsable (by decide) rfl rfl (fun pn xe hp => (zOne (zDrop (mOfP (pOfC (cCall (S := (S_put_together)) (ok_put_together T) (hr.mono (by decide)) (by rfl) (by exact T.m_put_together) (by exact T.k_put_together) (by exact T.b_put_together) (aCons (cV 0 rfl (by decide) (pv 0)) (aCons (cV 1 rfl (by decide) (pv 1)) aNil)) rfl rfl)))))) (fun W pn xe tk hp => (rOneW (Γ1 := [.sh, .sh, .sh, .no]) (Γx := [.sh, .sh, .sh, .no]) (rExpr (S := R_put_together) rfl (pe_callR (S := R_put_together) (rz_put_together T) (hr.mono (by decide)) (by rfl) (by exact T.m_put_together) (by exact T.k_put_together) (by exact T.b_put_together) tk (by exact (aCons (cV 0 rfl (by decide) (pv 0)) (aCons (cV 1 rfl (by decide) (pv 1)) aNil))))) rfl)) (fun a dd oe pn hz => (show PSs _ _ (tS _ [.sh, .sh, .sh, (.ex a dd)] ⟨[.sh, .sh, .sh, .no], _, _, _, _⟩ _) from (zWkn (n' := [.sh, .sh, .sh, (.ex a dd)]) (zOne (zSet (Γ := [.sh, .sh, .sh, (.ex a dd)]) (i := 2) sc.nd rfl (by first | exact .inl rfl | exact .inr rfl) (cOfP (c2 op_add' add_s (cV 2 rfl (by decide) (pv 2)) (cCallT call_int1 int_s (by rfl) (by exact T.z_int) PyProof.Rows.boot_int (aCons (vAnd (cCmp (op_eqD hr.units) (eq_s rfl rfl) (cXf T.xf_NotUsable T.n_NotUsable_word hz (pv 3) rfl) cStr (nomark _)) (vOne (cCmp (op_eqD hr.units) (eq_s rfl rfl) (cXf T.xf_NotUsable T.n_NotUsable_at hz (pv 3) rfl) (cNeg cInt) (nomark _)))) aNil)))) (by simp) rfl)) rfl)))) (zCons (Γ1 := [.sh, .sh, .sh, .no]) (zTryAs (Γ := [.sh, .sh, .sh, .no]) (Γ1 := [.sh, .sh, .sh, .no]) (i := 3) rfl rfl sc.nd rfl rfl ⟨rfl, by decide, Or.inl T.gC_NotUsable⟩ T.te_NotUsable (by decide) rfl rfl (fun pn xe hp => (zOne (zDrop (mOfP (pOfC (cCall (S := (S_home_of)) (ok_home_of T) (hr.mono (by decide)) (by rfl) (by exact T.m_home_of) (by exact T.k_home_of) (by exact T.b_home_of) (aCons (cV 0 rfl (by decide) (pv 0)) (aCons (cV 1 rfl (by decide) (pv 1)) aNil)) rfl rfl)))))) (fun W pn xe tk hp => (rOneW (Γ1 := [.sh, .sh, .sh, .no]) (Γx := [.sh, .sh, .sh, .no]) (rExpr (S := R_home_of) rfl (pe_callR (S := R_home_of) (rz_home_of T) (hr.mono (by decide)) (by rfl) (by exact T.m_home_of) (by exact T.k_home_of) (by exact T.b_home_of) tk (by exact (aCons (cV 0 rfl (by decide) (pv 0)) (aCons (cV 1 rfl (by decide) (pv 1)) aNil))))) rfl)) (fun a dd oe pn hz => (show PSs _ _ (tS _ [.sh, .sh, .sh, (.ex a dd)] ⟨[.sh, .sh, .sh, .no], _, _, _, _⟩ _) from (zWkn (n' := [.sh, .sh, .sh, (.ex a dd)]) (zOne (zSet (Γ := [.sh, .sh, .sh, (.ex a dd)]) (i := 2) sc.nd rfl (by first | exact .inl rfl | exact .inr rfl) (cOfP (c2 op_add' add_s (cV 2 rfl (by decide) (pv 2)) (cCallT call_int1 int_s (by rfl) (by exact T.z_int) PyProof.Rows.boot_int (aCons (vAnd (cCmp (op_eqD hr.units) (eq_s rfl rfl) (cXf T.xf_NotUsable T.n_NotUsable_word hz (pv 3) rfl) cStr (nomark _)) (vOne (cCmp (op_eqD hr.units) (eq_s rfl rfl) (cXf T.xf_NotUsable T.n_NotUsable_at hz (pv 3) rfl) (cNeg cInt) (nomark _)))) aNil)))) (by simp) rfl)) rfl)))) (zOne (zRet (cOfP (cCmp (op_eqD hr.units) (eq_s rfl rfl) (cV 2 rfl (by decide) (pv 2)) cInt (nomark _))) rfl))))))
theorem sc__law_books : FnScope ["_law_pile", "_law_extra_one", "_law_spot", "_law_part", "_law_made", "_law_k", "_law_each"] ["_law_pile", "_law_extra_one", "_law_spot", "_law_part"] (defScope st__law_books) := ⟨rfl, rfl, rfl, by decide +kernel, rfl, by decide +kernel, by decide +kernel⟩
theorem ok__law_books (T : Tx K mg) : FnOk P w K mg base CX0 7 T.a__law_books T.d__law_books ["_law_pile", "_law_extra_one", "_law_spot", "_law_part"] (spF K S__law_books) :=
  fn_val (nl := 3) (fo := false) T.f__law_books sc__law_books rfl rfl rfl rfl (fun h => nomatch h) (fun cdv A outer s H E hr => show PSs _ _ (tS _ [.sh, .sh, .sh, .sh, .no, .no, .no] ⟨[.no, .no, .no, .no, .no, .no, .no], [], [], [.no, .no, .no, .no, .no, .no, .no], .sh⟩ _) from
    have sc := sc__law_books
    (zCons (Γ1 := [.sh, .sh, .sh, .sh, (.ol .sh), .no, .no]) (zSet (i := 4) sc.nd rfl (by first | exact .inl rfl | exact .inr rfl) (cLst (aCons (pOfC (cCall (S := (S_backwards)) (ok_backwards T) (hr.mono (by decide)) (by rfl) (by exact T.m_backwards) (by exact T.k_backwards) (by exact T.b_backwards) (aCons (cV 0 rfl (by decide) (pv 0)) aNil) rfl rfl)) (aCons (pOfC (cCall (S := (S_hung)) (ok_hung T) (hr.mono (by decide)) (by rfl) (by exact T.m_hung) (by exact T.k_hung) (by exact T.b_hung) (aCons (cV 0 rfl (by decide) (pv 0)) (aCons (cV 2 rfl (by decide) (pv 2)) aNil)) rfl rfl)) (aCons (pOfC (cCall (S := (S_joined)) (ok_joined T) (hr.mono (by decide)) (by rfl) (by exact T.m_joined) (by exact T.k_joined) (by exact T.b_joined) (aCons (cV 0 rfl (by decide) (pv 0)) (aCons (cV 1 rfl (by decide) (pv 1)) aNil)) rfl rfl)) (aCons (pOfC (cCall (S := (S_dealt)) (ok_dealt T) (hr.mono (by decide)) (by rfl) (by exact T.m_dealt) (by exact T.k_dealt) (by exact T.b_dealt) (aCons (cV 0 rfl (by decide) (pv 0)) (aCons (cCallT call_tuple_of (tup_s rfl) (by rfl) (by exact T.z_tuple) PyProof.Rows.boot_tuple (aCons (cFrz (cLstRng rfl (by rfl) (by exact T.z_list) (by rfl) (by exact T.z_range) (cCallB call_len' (len_s rfl) (by rfl) (by exact T.z_len) PySem.boot_len (aCons (cIx ix_sh (cV 0 rfl (by decide) (pv 0)) cInt (by intro _ _; rfl)) aNil)))) aNil)) aNil)) rfl rfl)) aNil))))) (by decide) rfl) (zCons (Γ1 := [.sh, .sh, .sh, .sh, (.ol .sh), .no, .no]) (zFor (Γ := [.sh, .sh, .sh, .sh, (.ol .sh), .no, .no]) (Γ1 := [.sh, .sh, .sh, .sh, (.ol .sh), .sh, .no]) PassesOwn.never rfl (Pv.iRng1 (by rfl) (by exact T.z_range) (aCons (cCallB call_len' (len_s rfl) (by rfl) (by exact T.z_len) PySem.boot_len (aCons (cIx ix_sh (cV 0 rfl (by decide) (pv 0)) cInt (by intro _ _; rfl)) aNil)) aNil)) (hName (i := 5) sc.nd rfl (by first | exact .inl rfl | exact .inr rfl) (by decide)) (zWkn (n' := [.sh, .sh, .sh, .sh, (.ol .sh), .sh, .no]) (zOne (zDrop (mApp 4 (pe_bm PySem.F.plainAttrs_list PySem.F.slot_list_append PySem.F.type_list_append mt_append (pv 4) (pa_cons (mOfP (pOfC (cCall (S := (S_parted)) (ok_parted T) (hr.mono (by decide)) (by rfl) (by exact T.m_parted) (by exact T.k_parted) (by exact T.b_parted) (aCons (cV 0 rfl (by decide) (pv 0)) (aCons (cV 5 rfl (by decide) (pv 5)) aNil)) rfl rfl))) pa_nil)) rfl rfl))) rfl) rfl) (zCons (Γ1 := [.sh, .sh, .sh, .sh, (.ol .sh), .no, .no]) (zIf (qAnd (qCmp op_gt gt_s (cCallB call_len' (len_s rfl) (by rfl) (by exact T.z_len) PySem.boot_len (aCons (cV 3 rfl (by decide) (pv 3)) aNil)) cInt (nomark _)) (qAnd1 (qCmp op_lt lt_s (cCallB call_len' (len_s rfl) (by rfl) (by exact T.z_len) PySem.boot_len (aCons (cV 3 rfl (by decide) (pv 3)) aNil)) (cIx ix_sh (cV 0 rfl (by decide) (pv 0)) cInt (by intro _ _; rfl)) (nomark _)))).pt (zOne (zDrop (mApp 4 (pe_bm PySem.F.plainAttrs_list PySem.F.slot_list_append PySem.F.type_list_append mt_append (pv 4) (pa_cons (mOfP (pOfC (cCall (S := (S_put_together)) (ok_put_together T) (hr.mono (by decide)) (by rfl) (by exact T.m_put_together) (by exact T.k_put_together) (by exact T.b_put_together) (aCons (cV 0 rfl (by decide) (pv 0)) (aCons (cV 3 rfl (by decide) (pv 3)) aNil)) rfl rfl))) pa_nil)) rfl rfl))) zNil) (zFrz (Γ := [.sh, .sh, .sh, .sh, (.ol .sh), .no, .no]) 4 rfl rfl (zCons (Γ1 := [.sh, .sh, .sh, .sh, .sh, .no, .no]) (zFor (Γ := [.sh, .sh, .sh, .sh, .sh, .no, .no]) (Γ1 := [.sh, .sh, .sh, .sh, .sh, .no, .sh]) PassesOwn.never rfl (iSeq (cV 4 rfl (by decide) (pv 4))) (hName (i := 6) sc.nd rfl (by first | exact .inl rfl | exact .inr rfl) (by decide)) (zWkn (n' := [.sh, .sh, .sh, .sh, .sh, .no, .sh]) (zOne (zIf (qOr (qCmp op_notBl notB_s (pOfC (cCall (S := (S_is_heap)) (ok_is_heap T) (hr.mono (by decide)) (by rfl) (by exact T.m_is_heap) (by exact T.k_is_heap) (by exact T.b_is_heap) (aCons (cV 6 rfl (by decide) (pv 6)) aNil) rfl rfl)) cBl (by with_unfolding_all rfl)) (qOr1 (qCmp op_notBl notB_s (pOfC (cCall (S := (S_is_book)) (ok_is_book T) (hr.mono (by decide)) (by rfl) (by exact T.m_is_book) (by exact T.k_is_book) (by exact T.b_is_book) (aCons (cV 6 rfl (by decide) (pv 6)) aNil) rfl rfl)) cBl (by with_unfolding_all rfl)))).pt (zOne (zRet (cOfP cBl) rfl)) zNil)) rfl) rfl) (zOne (zRet (cOfP cBl) rfl))))))))
theorem sc__law_lots : FnScope ["_law_pile", "_law_small", "_law_more", "_law_size", "_law_everything", "_law_wide", "_law_w", "_law_part", "_law_homes", "_law_image", "_law_v", "_law_shrunk_once", "_law_later", "_law_cut", "_law_pair"] ["_law_pile", "_law_small", "_law_more"] (defScope st__law_lots) := ⟨rfl, rfl, rfl, by decide +kernel, rfl, by decide +kernel, by decide +kernel⟩
theorem ok__law_lots (T : Tx K mg) : FnOk P w K mg base CX0 8 T.a__law_lots T.d__law_lots ["_law_pile", "_law_small", "_law_more"] (spF K S__law_lots) :=
  fn_val (nl := 12) (fo := false) T.f__law_lots sc__law_lots rfl rfl rfl rfl (fun h => nomatch h) (fun cdv A outer s H E hr => show PSs _ _ (tS _ [.sh, .sh, .sh, .no, .no, .no, .no, .no, .no, .no, .no, .no, .no, .no, .no] ⟨[.no, .no, .no, .no, .no, .no, .no, .no, .no, .no, .no, .no, .no, .no, .no], [], [], [.no, .no, .no, .no, .no, .no, .no, .no, .no, .no, .no, .no, .no, .no, .no], .sh⟩ _) from
    have sc := sc__law_lots
    (zCons (Γ1 := [.sh, .sh, .sh, .sh, .no, .no, .no, .no, .no, .no, .no, .no, .no, .no, .no]) (zSet (i := 3) sc.nd rfl (by first | exact .inl rfl | exact .inr rfl) (cOfP (cIx ix_sh (cV 0 rfl (by decide) (pv 0)) cInt (by intro _ _; rfl))) (by decide) rfl) (zCons (Γ1 := [.sh, .sh, .sh, .sh, .sh, .no, .no, .no, .no, .no, .no, .no, .no, .no, .no]) (zSet (i := 4) sc.nd rfl (by first | exact .inl rfl | exact .inr rfl) (cOfP (cCallT call_tuple_of (tup_s rfl) (by rfl) (by exact T.z_tuple) PyProof.Rows.boot_tuple (aCons (cFrz (cLstRng rfl (by rfl) (by exact T.z_list) (by rfl) (by exact T.z_range) (cV 3 rfl (by decide) (pv 3)))) aNil))) (by decide) rfl) (zCons (Γ1 := [.sh, .sh, .sh, .sh, .sh, .no, .no, .no, .no, .no, .no, .no, .no, .no, .no]) (zIf (qOr (qNot (qVal (pOfC (cCall (S := (S__law_refused)) (ok__law_refused T) (hr.mono (by decide)) (by rfl) (by exact T.m__law_refused) (by exact T.k__law_refused) (by exact T.b__law_refused) (aCons (cV 0 rfl (by decide) (pv 0)) (aCons (cTup aNil) aNil)) rfl rfl)))) (qOr1 (qNot (qVal (pOfC (cCall (S := (S__law_refused)) (ok__law_refused T) (hr.mono (by decide)) (by rfl) (by exact T.m__law_refused) (by exact T.k__law_refused) (by exact T.b__law_refused) (aCons (cV 0 rfl (by decide) (pv 0)) (aCons (cV 4 rfl (by decide) (pv 4)) aNil)) rfl rfl)))))).pt (zOne (zRet (cOfP cBl) rfl)) zNil) (zCons (Γ1 := [.sh, .sh, .sh, .sh, .sh, .sh, .no, .no, .no, .no, .no, .no, .no, .no, .no]) (zSet (i := 5) sc.nd rfl (by first | exact .inl rfl | exact .inr rfl) (cOfP (cCallT call_tuple_of (tup_s rfl) (by rfl) (by exact T.z_tuple) PyProof.Rows.boot_tuple (aCons (cFrz (cCmp0 (own := [("_law_w", 6)]) (Γ1 := [.sh, .sh, .sh, .sh, .sh, .no, .sh, .no, .no, .no, .no, .no, .no, .no, .no]) rfl sc.nd (Pv.iRng1 (by rfl) (by exact T.z_range) (aCons (cV 3 rfl (by decide) (pv 3)) aNil)) (show BlkOk ["_law_pile", "_law_small", "_law_more", "_law_size", "_law_everything", "_law_wide", "_law_w", "_law_part", "_law_homes", "_law_image", "_law_v", "_law_shrunk_once", "_law_later", "_law_cut", "_law_pair"] (defScope st__law_lots) _ _ from ⟨rfl, by decide +kernel, by decide +kernel, by decide +kernel, by decide +kernel⟩) (fun _ _ _ _ _ => (hName (i := 6) sc.nd rfl (by first | exact .inl rfl | exact .inr rfl) (by decide))) (fun _ _ _ _ _ => (kOne (qOr (qCmp op_in_seq (in_s rfl) (cV 6 rfl (by decide) (pv 6)) (cV 1 rfl (by decide) (pv 1)) (by with_unfolding_all rfl)) (qOr1 (qCmp op_in_seq (in_s rfl) (cV 6 rfl (by decide) (pv 6)) (cV 2 rfl (by decide) (pv 2)) (by with_unfolding_all rfl)))).pt)) (fun _ _ _ _ _ => (cOfP (cV 6 rfl (by decide) (pv 6)))) rfl)) aNil))) (by decide) rfl) (zCons (Γ1 := [.sh, .sh, .sh, .sh, .sh, .sh, .no, .no, .no, .no, .no, .no, .no, .no, .no]) (zFor (Γ := [.sh, .sh, .sh, .sh, .sh, .sh, .no, .no, .no, .no, .no, .no, .no, .no, .no]) (Γ1 := [.sh, .sh, .sh, .sh, .sh, .sh, .no, .sh, .no, .no, .no, .no, .no, .no, .no]) PassesOwn.never rfl (iSeq (cFrz (cLst (aCons (cV 1 rfl (by decide) (pv 1)) (aCons (cV 5 rfl (by decide) (pv 5)) aNil))))) (hName (i := 7) sc.nd rfl (by first | exact .inl rfl | exact .inr rfl) (by decide)) (zWkn (n' := [.sh, .sh, .sh, .sh, .sh, .sh, .no, .sh, .no, .no, .no, .no, .no, .no, .no]) (zOne (zIf (qAnd (qCmp op_gt gt_s (cCallB call_len' (len_s rfl) (by rfl) (by exact T.z_len) PySem.boot_len (aCons (cV 7 rfl (by decide) (pv 7)) aNil)) cInt (nomark _)) (qAnd1 (qCmp op_lt lt_s (cCallB call_len' (len_s rfl) (by rfl) (by exact T.z_len) PySem.boot_len (aCons (cV 7 rfl (by decide) (pv 7)) aNil)) (cV 3 rfl (by decide) (pv 3)) (nomark _)))).pt (zCons (Γ1 := [.sh, .sh, .sh, .sh, .sh, .sh, .no, .sh, .no, .no, .no, .no, .no, .no, .no]) (zIf (qNot (qVal (pOfC (cCall (S := (S__law_same 6)) (ok__law_same T 6) (hr.mono (by decide)) (by rfl) (by exact T.m__law_same) (by exact T.k__law_same) (by exact T.b__law_same) (aCons (pOfC (cCallK (S := (S_home_of)) (ks := ["lot", "heap"]) (pm := [1, 0]) (ok_home_of T) (hr.mono (by decide)) (by rfl) (by exact T.m_home_of) (by exact T.k_home_of) (by exact T.kb_home_of_lot_heap) (wCons (cV 7 rfl (by decide) (pv 7)) (wCons (cV 0 rfl (by decide) (pv 0)) wNil)) rfl rfl (ro_len _ _ (by decide)) rfl rfl)) (aCons (pOfC (cCall (S := (S__law_home)) (ok__law_home T) (hr.mono (by decide)) (by rfl) (by exact T.m__law_home) (by exact T.k__law_home) (by exact T.b__law_home) (aCons (cV 3 rfl (by decide) (pv 3)) (aCons (cV 7 rfl (by decide) (pv 7)) aNil)) rfl rfl)) aNil)) rfl rfl)))) (zOne (zRet (cOfP cBl) rfl)) zNil) (zOne (zIf (qNot (qVal (pOfC (cCall (S := (S__law_same 6)) (ok__law_same T 6) (hr.mono (by decide)) (by rfl) (by exact T.m__law_same) (by exact T.k__law_same) (by exact T.b__law_same) (aCons (pOfC (cCallK (S := (S_put_together)) (ks := ["lot", "heap"]) (pm := [1, 0]) (ok_put_together T) (hr.mono (by decide)) (by rfl) (by exact T.m_put_together) (by exact T.k_put_together) (by exact T.kb_put_together_lot_heap) (wCons (cV 7 rfl (by decide) (pv 7)) (wCons (cV 0 rfl (by decide) (pv 0)) wNil)) rfl rfl (ro_len _ _ (by decide)) rfl rfl)) (aCons (pOfC (cCall (S := (S__law_put)) (ok__law_put T) (hr.mono (by decide)) (by rfl) (by exact T.m__law_put) (by exact T.k__law_put) (by exact T.b__law_put) (aCons (cV 0 rfl (by decide) (pv 0)) (aCons (cV 7 rfl (by decide) (pv 7)) aNil)) rfl rfl)) aNil)) rfl rfl)))) (zOne (zRet (cOfP cBl) rfl)) zNil))) zNil)) rfl) rfl) (zCons (Γ1 := [.sh, .sh, .sh, .sh, .sh, .sh, .no, .no, .no, .no, .no, .no, .no, .no, .no]) (zIf (qOr (qCmp (op_eqD hr.units) (eq_s rfl rfl) (cCallB call_len' (len_s rfl) (by rfl) (by exact T.z_len) PySem.boot_len (aCons (cV 1 rfl (by decide) (pv 1)) aNil)) cInt (nomark _)) (qOr1 (qCmp (op_eqD hr.units) (eq_s rfl rfl) (cCallB call_len' (len_s rfl) (by rfl) (by exact T.z_len) PySem.boot_len (aCons (cV 5 rfl (by decide) (pv 5)) aNil)) (cV 3 rfl (by decide) (pv 3)) (nomark _)))).pt (zOne (zRet (cOfP cBl) rfl)) zNil) (zCons (Γ1 := [.sh, .sh, .sh, .sh, .sh, .sh, .no, .no, .sh, .no, .no, .no, .no, .no, .no]) (zSet (i := 8) sc.nd rfl (by first | exact .inl rfl | exact .inr rfl) (cCall (S := (S_home_of)) (ok_home_of T) (hr.mono (by decide)) (by rfl) (by exact T.m_home_of) (by exact T.k_home_of) (by exact T.b_home_of) (aCons (cV 0 rfl (by decide) (pv 0)) (aCons (cV 1 rfl (by decide) (pv 1)) aNil)) rfl rfl) (by decide) rfl) (zCons (Γ1 := [.sh, .sh, .sh, .sh, .sh, .sh, .no, .no, .sh, .sh, .no, .no, .no, .no, .no]) (zSet (i := 9) sc.nd rfl (by first | exact .inl rfl | exact .inr rfl) (cOfP (cCallT call_tuple_of (tup_s rfl) (by rfl) (by exact T.z_tuple) PyProof.Rows.boot_tuple (aCons (cFrz (cCmp0 (own := [("_law_w", 6)]) (Γ1 := [.sh, .sh, .sh, .sh, .sh, .sh, .sh, .no, .sh, .no, .no, .no, .no, .no, .no]) rfl sc.nd (Pv.iRng1 (by rfl) (by exact T.z_range) (aCons (c2 op_add' add_s (c2 op_sub sub_s (cV 3 rfl (by decide) (pv 3)) (cCallB call_len' (len_s rfl) (by rfl) (by exact T.z_len) PySem.boot_len (aCons (cV 1 rfl (by decide) (pv 1)) aNil))) cInt) aNil)) (show BlkOk ["_law_pile", "_law_small", "_law_more", "_law_size", "_law_everything", "_law_wide", "_law_w", "_law_part", "_law_homes", "_law_image", "_law_v", "_law_shrunk_once", "_law_later", "_law_cut", "_law_pair"] (defScope st__law_lots) _ _ from ⟨rfl, by decide +kernel, by decide +kernel, by decide +kernel, by decide +kernel⟩) (fun _ _ _ _ _ => (hName (i := 6) sc.nd rfl (by first | exact .inl rfl | exact .inr rfl) (by decide))) (fun _ _ _ _ _ => (kOne (qCmp op_in_seq (in_s rfl) (cV 6 rfl (by decide) (pv 6)) (pOfC (cCmp0 (own := [("_law_v", 10)]) (Γ1 := [.sh, .sh, .sh, .sh, .sh, .sh, .sh, .no, .sh, .no, .sh, .no, .no, .no, .no]) rfl sc.nd (iSeq (cV 5 rfl (by decide) (pv 5))) (blk_ok rfl) (fun _ _ _ _ _ => (hName (i := 10) sc.nd rfl (by first | exact .inl rfl | exact .inr rfl) (by decide))) (fun _ _ _ _ _ => kNil) (fun _ _ _ _ _ => (cOfP (cIx ix_sh (cV 8 rfl (by decide) (pv 8)) (cV 10 rfl (by decide) (pv 10)) (by intro _ _; rfl)))) rfl)) (by with_unfolding_all rfl)))) (fun _ _ _ _ _ => (cOfP (cV 6 rfl (by decide) (pv 6)))) rfl)) aNil))) (by decide) rfl) (zCons (Γ1 := [.sh, .sh, .sh, .sh, .sh, .sh, .no, .no, .sh, .sh, .no, .sh, .no, .no, .no]) (zSet (i := 11) sc.nd rfl (by first | exact .inl rfl | exact .inr rfl) (cCall (S := (S_put_together)) (ok_put_together T) (hr.mono (by decide)) (by rfl) (by exact T.m_put_together) (by exact T.k_put_together) (by exact T.b_put_together) (aCons (cV 0 rfl (by decide) (pv 0)) (aCons (cV 1 rfl (by decide) (pv 1)) aNil)) rfl rfl) (by decide) rfl) (zCons (Γ1 := [.sh, .sh, .sh, .sh, .sh, .sh, .no, .no, .sh, .sh, .no, .sh, .no, .no, .no]) (zIf (qNot (qVal (pOfC (cCall (S := (S__law_same 6)) (ok__law_same T 6) (hr.mono (by decide)) (by rfl) (by exact T.m__law_same) (by exact T.k__law_same) (by exact T.b__law_same) (aCons (pOfC (cCall (S := (S_put_together)) (ok_put_together T) (hr.mono (by decide)) (by rfl) (by exact T.m_put_together) (by exact T.k_put_together) (by exact T.b_put_together) (aCons (cV 11 rfl (by decide) (pv 11)) (aCons (cV 9 rfl (by decide) (pv 9)) aNil)) rfl rfl)) (aCons (pOfC (cCall (S := (S_put_together)) (ok_put_together T) (hr.mono (by decide)) (by rfl) (by exact T.m_put_together) (by exact T.k_put_together) (by exact T.b_put_together) (aCons (cV 0 rfl (by decide) (pv 0)) (aCons (cV 5 rfl (by decide) (pv 5)) aNil)) rfl rfl)) aNil)) rfl rfl)))) (zOne (zRet (cOfP cBl) rfl)) zNil) (zCons (Γ1 := [.sh, .sh, .sh, .sh, .sh, .sh, .no, .no, .sh, .sh, .no, .sh, .sh, .no, .no]) (zSet (i := 12) sc.nd rfl (by first | exact .inl rfl | exact .inr rfl) (cCall (S := (S_home_of)) (ok_home_of T) (hr.mono (by decide)) (by rfl) (by exact T.m_home_of) (by exact T.k_home_of) (by exact T.b_home_of) (aCons (cV 11 rfl (by decide) (pv 11)) (aCons (cV 9 rfl (by decide) (pv 9)) aNil)) rfl rfl) (by decide) rfl) (zCons (Γ1 := [.sh, .sh, .sh, .sh, .sh, .sh, .no, .no, .sh, .sh, .no, .sh, .sh, .no, .no]) (zIf (qNot (qVal (pOfC (cCall (S := (S__law_same 6)) (ok__law_same T 6) (hr.mono (by decide)) (by rfl) (by exact T.m__law_same) (by exact T.k__law_same) (by exact T.b__law_same) (aCons (cCallT call_tuple_of (tup_s rfl) (by rfl) (by exact T.z_tuple) PyProof.Rows.boot_tuple (aCons (cFrz (cCmp0 (own := [("_law_w", 6)]) (Γ1 := [.sh, .sh, .sh, .sh, .sh, .sh, .sh, .no, .sh, .sh, .no, .sh, .sh, .no, .no]) rfl sc.nd (iSeq (cV 8 rfl (by decide) (pv 8))) (show BlkOk ["_law_pile", "_law_small", "_law_more", "_law_size", "_law_everything", "_law_wide", "_law_w", "_law_part", "_law_homes", "_law_image", "_law_v", "_law_shrunk_once", "_law_later", "_law_cut", "_law_pair"] (defScope st__law_lots) _ _ from ⟨rfl, by decide +kernel, by decide +kernel, by decide +kernel, by decide +kernel⟩) (fun _ _ _ _ _ => (hName (i := 6) sc.nd rfl (by first | exact .inl rfl | exact .inr rfl) (by decide))) (fun _ _ _ _ _ => kNil) (fun _ _ _ _ _ => (cOfP (cIx ix_sh (cV 12 rfl (by decide) (pv 12)) (cV 6 rfl (by decide) (pv 6)) (by intro _ _; rfl)))) rfl)) aNil)) (aCons (pOfC (cCall (S := (S_home_of)) (ok_home_of T) (hr.mono (by decide)) (by rfl) (by exact T.m_home_of) (by exact T.k_home_of) (by exact T.b_home_of) (aCons (cV 0 rfl (by decide) (pv 0)) (aCons (cV 5 rfl (by decide) (pv 5)) aNil)) rfl rfl)) aNil)) rfl rfl)))) (zOne (zRet (cOfP cBl) rfl)) zNil) (zCons (Γ1 := [.sh, .sh, .sh, .sh, .sh, .sh, .no, .no, .sh, .sh, .no, .sh, .sh, .sh, .no]) (zSet (i := 13) sc.nd rfl (by first | exact .inl rfl | exact .inr rfl) (cOfP (cCallB call_len' (len_s rfl) (by rfl) (by exact T.z_len) PySem.boot_len (aCons (cFrz (cCmp0 (own := [("_law_pair", 14)]) (Γ1 := [.sh, .sh, .sh, .sh, .sh, .sh, .no, .no, .sh, .sh, .no, .sh, .sh, .no, .sh]) rfl sc.nd (iSeq (cIx ix_sh (cV 0 rfl (by decide) (pv 0)) cInt (by intro _ _; rfl))) (show BlkOk ["_law_pile", "_law_small", "_law_more", "_law_size", "_law_everything", "_law_wide", "_law_w", "_law_part", "_law_homes", "_law_image", "_law_v", "_law_shrunk_once", "_law_later", "_law_cut", "_law_pair"] (defScope st__law_lots) _ _ from ⟨rfl, by decide +kernel, by decide +kernel, by decide +kernel, by decide +kernel⟩) (fun _ _ _ _ _ => (hName (i := 14) sc.nd rfl (by first | exact .inl rfl | exact .inr rfl) (by decide))) (fun _ _ _ _ _ => (kOne (qAnd (qCmp op_in_seq (in_s rfl) (cIx ix_sh (cV 14 rfl (by decide) (pv 14)) cInt (by intro _ _; rfl)) (cV 5 rfl (by decide) (pv 5)) (by with_unfolding_all rfl)) (qAnd1 (qCmp op_notIn_seq (notin_s rfl) (cIx ix_sh (cV 14 rfl (by decide) (pv 14)) cInt (by intro _ _; rfl)) (cV 5 rfl (by decide) (pv 5)) (by with_unfolding_all rfl)))).pt)) (fun _ _ _ _ _ => (cOfP (cV 14 rfl (by decide) (pv 14)))) rfl)) aNil))) (by decide) rfl) (zOne (zRet (cOfP (vAnd (pOfC (cCall (S := (S__law_same 6)) (ok__law_same T 6) (hr.mono (by decide)) (by rfl) (by exact T.m__law_same) (by exact T.k__law_same) (by exact T.b__law_same) (aCons (pOfC (cCall (S := (S_gates_of)) (ok_gates_of T) (hr.mono (by decide)) (by rfl) (by exact T.m_gates_of) (by exact T.k_gates_of) (by exact T.b_gates_of) (aCons (cV 11 rfl (by decide) (pv 11)) (aCons (cV 9 rfl (by decide) (pv 9)) aNil)) rfl rfl)) (aCons (cV 13 rfl (by decide) (pv 13)) aNil)) rfl rfl)) (vOne (pOfC (cCall (S := (S__law_same 6)) (ok__law_same T 6) (hr.mono (by decide)) (by rfl) (by exact T.m__law_same) (by exact T.k__law_same) (by exact T.b__law_same) (aCons (pOfC (cCall (S := (S_gates_of)) (ok_gates_of T) (hr.mono (by decide)) (by rfl) (by exact T.m_gates_of) (by exact T.k_gates_of) (by exact T.b_gates_of) (aCons (pOfC (cCall (S := (S_put_together)) (ok_put_together T) (hr.mono (by decide)) (by rfl) (by exact T.m_put_together) (by exact T.k_put_together) (by exact T.b_put_together) (aCons (cV 0 rfl (by decide) (pv 0)) (aCons (cV 5 rfl (by decide) (pv 5)) aNil)) rfl rfl)) (aCons (cTup (aCons (cIx ix_sh (cV 12 rfl (by decide) (pv 12)) (cIx ix_sh (cV 8 rfl (by decide) (pv 8)) (cIx ix_sh (cV 5 rfl (by decide) (pv 5)) cInt (by intro _ _; rfl)) (by intro _ _; rfl)) (by intro _ _; rfl)) aNil)) aNil)) rfl rfl)) (aCons (cV 13 rfl (by decide) (pv 13)) aNil)) rfl rfl))))) rfl))))))))))))))))
theorem sc_law : FnScope ["_law_script", "_law_cells_here", "_law_size", "_law_kind", "_law_pile", "_law_extra_one", "_law_names", "_law_again", "_law_deal", "_law_anew", "_law_spot", "_law_small", "_law_w", "_law_more"] ["_law_script"] (defScope st_law) := ⟨rfl, rfl, rfl, by decide +kernel, rfl, by decide +kernel, by decide +kernel⟩
theorem ok_law (T : Tx K mg) : FnOk P w K mg base CX0 9 T.a_law T.d_law ["_law_script"] (spF K S_law) :=
  fn_val (nl := 13) (fo := false) T.f_law sc_law rfl rfl rfl rfl (fun h => nomatch h) (fun cdv A outer s H E hr => show PSs _ _ (tS _ [.sh, .no, .no, .no, .no, .no, .no, .no, .no, .no, .no, .no, .no, .no] ⟨[.no, .no, .no, .no, .no, .no, .no, .no, .no, .no, .no, .no, .no, .no], [], [], [.no, .no, .no, .no, .no, .no, .no, .no, .no, .no, .no, .no, .no, .no], .sh⟩ _) from
    have sc := sc_law
    (zCons (Γ1 := [.sh, (.ol .sh), .no, .no, .no, .no, .no, .no, .no, .no, .no, .no, .no, .no]) (zSet (i := 1) sc.nd rfl (by first | exact .inl rfl | exact .inr rfl) (cCall (S := (S__law_cells)) (ok__law_cells T) (hr.mono (by decide)) (by rfl) (by exact T.m__law_cells) (by exact T.k__law_cells) (by exact T.b__law_cells) (aCons (cV 0 rfl (by decide) (pv 0)) (aCons cInt aNil)) rfl rfl) (by decide) rfl) (zCons (Γ1 := [.sh, (.ol .sh), .sh, .no, .no, .no, .no, .no, .no, .no, .no, .no, .no, .no]) (zSetM (i := 2) sc.nd rfl (by first | exact .inl rfl | exact .inr rfl) (m2 op_add' add_s (mOfP cInt) (mCall (S := (S__law_pick)) (ok__law_pick T) (hr.mono (by decide)) (by rfl) (by exact T.m__law_pick) (by exact T.k__law_pick) (by exact T.b__law_pick) (aMIo 1 rfl (by decide) (pv 1) (aMCons (mOfP cInt) aMNil)))) (by decide) rfl) (zCons (Γ1 := [.sh, (.ol .sh), .sh, .no, .no, .no, .no, .no, .no, .no, .no, .no, .no, .no]) (zIfM (qCmpM (op_eqD hr.units) (eq_s rfl rfl) (mCall (S := (S__law_pick)) (ok__law_pick T) (hr.mono (by decide)) (by rfl) (by exact T.m__law_pick) (by exact T.k__law_pick) (by exact T.b__law_pick) (aMIo 1 rfl (by decide) (pv 1) (aMCons (mOfP cInt) aMNil))) (mOfP cInt) (nomark _)) (zOne (zSetM (i := 2) sc.nd rfl (by first | exact .inl rfl | exact .inr rfl) (m2 op_add' add_s (mOfP cInt) (mCall (S := (S__law_pick)) (ok__law_pick T) (hr.mono (by decide)) (by rfl) (by exact T.m__law_pick) (by exact T.k__law_pick) (by exact T.b__law_pick) (aMIo 1 rfl (by decide) (pv 1) (aMCons (mOfP cInt) aMNil)))) (by decide) rfl)) zNil) (zCons (Γ1 := [.sh, (.ol .sh), .sh, .sh, .no, .no, .no, .no, .no, .no, .no, .no, .no, .no]) (zSetM (i := 3) sc.nd rfl (by first | exact .inl rfl | exact .inr rfl) (mCall (S := (S__law_pick)) (ok__law_pick T) (hr.mono (by decide)) (by rfl) (by exact T.m__law_pick) (by exact T.k__law_pick) (by exact T.b__law_pick) (aMIo 1 rfl (by decide) (pv 1) (aMCons (mOfP cInt) aMNil))) (by decide) rfl) (zCons (Γ1 := [.sh, (.ol .sh), .sh, .sh, .sh, .no, .no, .no, .no, .no, .no, .no, .no, .no]) (zSetM (i := 4) sc.nd rfl (by first | exact .inl rfl | exact .inr rfl) (mCall (S := (S__law_heap)) (ok__law_heap T) (hr.mono (by decide)) (by rfl) (by exact T.m__law_heap) (by exact T.k__law_heap) (by exact T.b__law_heap) (aMIo 1 rfl (by decide) (pv 1) (aMCons (mOfP (cV 3 rfl (by decide) (pv 3))) (aMCons (mOfP (cV 2 rfl (by decide) (pv 2))) aMNil)))) (by decide) rfl) (zCons (Γ1 := [.sh, (.ol .sh), .sh, .sh, .sh, .sh, .no, .no, .no, .no, .no, .no, .no, .no]) (zSetM (i := 5) sc.nd rfl (by first | exact .inl rfl | exact .inr rfl) (mCall (S := (S__law_heap)) (ok__law_heap T) (hr.mono (by decide)) (by rfl) (by exact T.m__law_heap) (by exact T.k__law_heap) (by exact T.b__law_heap) (aMIoL 1 rfl rfl (by decide) (pv 1) (aMCons (mOfP (cV 3 rfl (by decide) (pv 3))) (aMCons (m2 op_add' add_s (mOfP cInt) (mCall (S := (S__law_pick)) (ok__law_pick T) (hr.mono (by decide)) (by rfl) (by exact T.m__law_pick) (by exact T.k__law_pick) (by exact T.b__law_pick) (aMIo 1 rfl (by decide) (pv 1) (aMCons (mOfP (cCallB (call_min2 rfl) min2_s (by rfl) (by exact T.z_min) (by decide +kernel) (aCons (cV 2 rfl (by decide) (pv 2)) (aCons (c2 op_sub sub_s cInt (cV 2 rfl (by decide) (pv 2))) aNil)))) aMNil)))) aMNil)))) (by decide) rfl) (zCons (Γ1 := [.sh, (.ol .sh), .sh, .sh, .sh, .sh, .sh, .no, .no, .no, .no, .no, .no, .no]) (zSetM (i := 6) sc.nd rfl (by first | exact .inl rfl | exact .inr rfl) (mCallT call_tuple_of (tup_s rfl) rfl (by rfl) (by exact T.z_tuple) PyProof.Rows.boot_tuple (aMCons (mCall (S := (S__law_dealt)) (ok__law_dealt T) (hr.mono (by decide)) (by rfl) (by exact T.m__law_dealt) (by exact T.k__law_dealt) (by exact T.b__law_dealt) (aMIo 1 rfl (by decide) (pv 1) (aMCons (mOfP (cFrz (cLstRng rfl (by rfl) (by exact T.z_list) (by rfl) (by exact T.z_range) (cV 2 rfl (by decide) (pv 2))))) aMNil))) aMNil)) (by decide) rfl) (zCons (Γ1 := [.sh, (.ol .sh), .sh, .sh, .sh, .sh, .sh, .sh, .no, .no, .no, .no, .no, .no]) (zSetM (i := 7) sc.nd rfl (by first | exact .inl rfl | exact .inr rfl) (mCallT call_tuple_of (tup_s rfl) rfl (by rfl) (by exact T.z_tuple) PyProof.Rows.boot_tuple (aMCons (mCall (S := (S__law_dealt)) (ok__law_dealt T) (hr.mono (by decide)) (by rfl) (by exact T.m__law_dealt) (by exact T.k__law_dealt) (by exact T.b__law_dealt) (aMIo 1 rfl (by decide) (pv 1) (aMCons (mOfP (cFrz (cLstRng rfl (by rfl) (by exact T.z_list) (by rfl) (by exact T.z_range) (cV 2 rfl (by decide) (pv 2))))) aMNil))) aMNil)) (by decide) rfl) (zCons (Γ1 := [.sh, (.ol .sh), .sh, .sh, .sh, .sh, .sh, .sh, .sh, .no, .no, .no, .no, .no]) (zSetM (i := 8) sc.nd rfl (by first | exact .inl rfl | exact .inr rfl) (mCallT call_tuple_of (tup_s rfl) rfl (by rfl) (by exact T.z_tuple) PyProof.Rows.boot_tuple (aMCons (mCall (S := (S__law_dealt)) (ok__law_dealt T) (hr.mono (by decide)) (by rfl) (by exact T.m__law_dealt) (by exact T.k__law_dealt) (by exact T.b__law_dealt) (aMIo 1 rfl (by decide) (pv 1) (aMCons (mOfP (cFrz (cLstRng rfl (by rfl) (by exact T.z_list) (by rfl) (by exact T.z_range) (cCallB call_len' (len_s rfl) (by rfl) (by exact T.z_len) PySem.boot_len (aCons (cIx ix_sh (cV 4 rfl (by decide) (pv 4)) cInt (by intro _ _; rfl)) aNil))))) aMNil))) aMNil)) (by decide) rfl) (zCons (Γ1 := [.sh, (.ol .sh), .sh, .sh, .sh, .sh, .sh, .sh, .sh, .sh, .no, .no, .no, .no]) (zSetM (i := 9) sc.nd rfl (by first | exact .inl rfl | exact .inr rfl) (mCallT call_tuple_of (tup_s rfl) rfl (by rfl) (by exact T.z_tuple) PyProof.Rows.boot_tuple (aMCons (mCall (S := (S__law_dealt)) (ok__law_dealt T) (hr.mono (by decide)) (by rfl) (by exact T.m__law_dealt) (by exact T.k__law_dealt) (by exact T.b__law_dealt) (aMIo 1 rfl (by decide) (pv 1) (aMCons (mOfP (cFrz (cLstRng rfl (by rfl) (by exact T.z_list) (by rfl) (by exact T.z_range) (cCallB call_len' (len_s rfl) (by rfl) (by exact T.z_len) PySem.boot_len (aCons (cIx ix_sh (cV 4 rfl (by decide) (pv 4)) cInt (by intro _ _; rfl)) aNil))))) aMNil))) aMNil)) (by decide) rfl) (zCons (Γ1 := [.sh, (.ol .sh), .sh, .sh, .sh, .sh, .sh, .sh, .sh, .sh, .sh, .no, .no, .no]) (zSetM (i := 10) sc.nd rfl (by first | exact .inl rfl | exact .inr rfl) (mCall (S := (S__law_pick)) (ok__law_pick T) (hr.mono (by decide)) (by rfl) (by exact T.m__law_pick) (by exact T.k__law_pick) (by exact T.b__law_pick) (aMIo 1 rfl (by decide) (pv 1) (aMCons (mOfP (cV 2 rfl (by decide) (pv 2))) aMNil))) (by decide) rfl) (zCons (Γ1 := [.sh, (.ol .sh), .sh, .sh, .sh, .sh, .sh, .sh, .sh, .sh, .sh, .sh, .no, .no]) (zSetM (i := 11) sc.nd rfl (by first | exact .inl rfl | exact .inr rfl) (mCallT call_tuple_of (tup_s rfl) rfl (by rfl) (by exact T.z_tuple) PyProof.Rows.boot_tuple (aMCons (mFrz (mCmp0 (own := [("_law_w", 12)]) (Γ1 := [.sh, (.ol .sh), .sh, .sh, .sh, .sh, .sh, .sh, .sh, .sh, .sh, .no, .sh, .no]) (Γ2 := [.sh, (.ol .sh), .sh, .sh, .sh, .sh, .sh, .sh, .sh, .sh, .sh, .no, .sh, .no]) (Γ3 := [.sh, (.ol .sh), .sh, .sh, .sh, .sh, .sh, .sh, .sh, .sh, .sh, .no, .sh, .no]) rfl sc.nd (iM (Pv.iRng1 (by rfl) (by exact T.z_range) (aCons (cV 2 rfl (by decide) (pv 2)) aNil))) (show BlkOk ["_law_script", "_law_cells_here", "_law_size", "_law_kind", "_law_pile", "_law_extra_one", "_law_names", "_law_again", "_law_deal", "_law_anew", "_law_spot", "_law_small", "_law_w", "_law_more"] (defScope st_law) _ _ from ⟨rfl, by decide +kernel, by decide +kernel, by decide +kernel, by decide +kernel⟩) (fun _ _ _ _ _ => (hName (i := 12) sc.nd rfl (by first | exact .inl rfl | exact .inr rfl) (by decide))) (fun _ _ _ _ _ => (kOneM (qCmpM op_gt gt_s (mCall (S := (S__law_pick)) (ok__law_pick T) (hr.mono (by decide)) (by rfl) (by exact T.m__law_pick) (by exact T.k__law_pick) (by exact T.b__law_pick) (aMIo 1 rfl (by decide) (pv 1) (aMCons (mOfP cInt) aMNil))) (mOfP cInt) (nomark _)))) (fun _ _ _ _ _ => (mOfP (cV 12 rfl (by decide) (pv 12)))) rfl rfl rfl)) aMNil)) (by decide) rfl) (zCons (Γ1 := [.sh, (.ol .sh), .sh, .sh, .sh, .sh, .sh, .sh, .sh, .sh, .sh, .sh, .no, .sh]) (zSetM (i := 13) sc.nd rfl (by first | exact .inl rfl | exact .inr rfl) (mCallT call_tuple_of (tup_s rfl) rfl (by rfl) (by exact T.z_tuple) PyProof.Rows.boot_tuple (aMCons (mFrz (mCmp0 (own := [("_law_w", 12)]) (Γ1 := [.sh, (.ol .sh), .sh, .sh, .sh, .sh, .sh, .sh, .sh, .sh, .sh, .sh, .sh, .no]) (Γ2 := [.sh, (.ol .sh), .sh, .sh, .sh, .sh, .sh, .sh, .sh, .sh, .sh, .sh, .sh, .no]) (Γ3 := [.sh, (.ol .sh), .sh, .sh, .sh, .sh, .sh, .sh, .sh, .sh, .sh, .sh, .sh, .no]) rfl sc.nd (iM (Pv.iRng1 (by rfl) (by exact T.z_range) (aCons (cV 2 rfl (by decide) (pv 2)) aNil))) (show BlkOk ["_law_script", "_law_cells_here", "_law_size", "_law_kind", "_law_pile", "_law_extra_one", "_law_names", "_law_again", "_law_deal", "_law_anew", "_law_spot", "_law_small", "_law_w", "_law_more"] (defScope st_law) _ _ from ⟨rfl, by decide +kernel, by decide +kernel, by decide +kernel, by decide +kernel⟩) (fun _ _ _ _ _ => (hName (i := 12) sc.nd rfl (by first | exact .inl rfl | exact .inr rfl) (by decide))) (fun _ _ _ _ _ => (kOneM (qCmpM op_gt gt_s (mCall (S := (S__law_pick)) (ok__law_pick T) (hr.mono (by decide)) (by rfl) (by exact T.m__law_pick) (by exact T.k__law_pick) (by exact T.b__law_pick) (aMIo 1 rfl (by decide) (pv 1) (aMCons (mOfP cInt) aMNil))) (mOfP cInt) (nomark _)))) (fun _ _ _ _ _ => (mOfP (cV 12 rfl (by decide) (pv 12)))) rfl rfl rfl)) aMNil)) (by decide) rfl) (zCons (Γ1 := [.sh, (.ol .sh), .sh, .sh, .sh, .sh, .sh, .sh, .sh, .sh, .sh, .sh, .no, .sh]) (zIf (qOr (qNot (qVal (pOfC (cCall (S := (S__law_turns)) (ok__law_turns T) (hr.mono (by decide)) (by rfl) (by exact T.m__law_turns) (by exact T.k__law_turns) (by exact T.b__law_turns) (aCons (cV 4 rfl (by decide) (pv 4)) (aCons (cV 6 rfl (by decide) (pv 6)) (aCons (cV 7 rfl (by decide) (pv 7)) (aCons (cV 8 rfl (by decide) (pv 8)) (aCons (cV 9 rfl (by decide) (pv 9)) aNil))))) rfl rfl)))) (qOr1 (qNot (qVal (pOfC (cCall (S := (S__law_longer)) (ok__law_longer T) (hr.mono (by decide)) (by rfl) (by exact T.m__law_longer) (by exact T.k__law_longer) (by exact T.b__law_longer) (aCons (cV 4 rfl (by decide) (pv 4)) (aCons (cV 10 rfl (by decide) (pv 10)) aNil)) rfl rfl)))))).pt (zOne (zRet (cOfP cBl) rfl)) zNil) (zCons (Γ1 := [.sh, (.ol .sh), .sh, .sh, .sh, .sh, .sh, .sh, .sh, .sh, .sh, .sh, .no, .sh]) (zIf (qOr (qNot (qVal (pOfC (cCall (S := (S__law_both)) (ok__law_both T) (hr.mono (by decide)) (by rfl) (by exact T.m__law_both) (by exact T.k__law_both) (by exact T.b__law_both) (aCons (cV 4 rfl (by decide) (pv 4)) (aCons (cV 5 rfl (by decide) (pv 5)) aNil)) rfl rfl)))) (qOr1 (qNot (qVal (pOfC (cCall (S := (S__law_lots)) (ok__law_lots T) (hr.mono (by decide)) (by rfl) (by exact T.m__law_lots) (by exact T.k__law_lots) (by exact T.b__law_lots) (aCons (cV 4 rfl (by decide) (pv 4)) (aCons (cV 11 rfl (by decide) (pv 11)) (aCons (cV 13 rfl (by decide) (pv 13)) aNil))) rfl rfl)))))).pt (zOne (zRet (cOfP cBl) rfl)) zNil) (zOne (zRet (cOfP (vOr (cCmp (op_eqD hr.units) (eq_s rfl rfl) (cV 3 rfl (by decide) (pv 3)) cInt (nomark _)) (vOne (pOfC (cCall (S := (S__law_books)) (ok__law_books T) (hr.mono (by decide)) (by rfl) (by exact T.m__law_books) (by exact T.k__law_books) (by exact T.b__law_books) (aCons (cV 4 rfl (by decide) (pv 4)) (aCons (cV 5 rfl (by decide) (pv 5)) (aCons (cV 10 rfl (by decide) (pv 10)) (aCons (cV 11 rfl (by decide) (pv 11)) aNil)))) rfl rfl))))) rfl))))))))))))))))))
end
end LawK04

set_option Elab.async false
set_option linter.all false
set_option maxRecDepth 100000
set_option maxHeartbeats 4000000
namespace LawK04
open PySem PySem.Spec PyProof.Rows L2 Pv
theorem all_mk {l : PySem.W.OpenLaw} {w : World} {K : PySem.W.Frag} {h : Heap} {mg : Str → Option Value} {fa : Addr} (X : K.In h) (G : h.Ns mainGlobals mg) (hfa : mg "law" = some (.ref fa))
    {a0 : Addr} {od0 an0 : Option Addr} {sl0 : Array (Option Value)} {oc0 kV0 dc0 pm0 cd0 ct0 : Value} (n0 : PySem.W.nsIn K mainGlobals "word_bonds" = some (some (.ref a0))) (l0 : K.lookup a0 = some ⟨oc0, od0, .func (PySem.W.fnOf "word_bonds" "word_bonds" (defArgs st_word_bonds) (defBody st_word_bonds) (defScope st_word_bonds) .none kV0 dc0 pm0 an0 cd0 ct0), sl0⟩) (c0 : PySem.W.codeIn K cd0 "word_bonds" = true) (k0 : PySem.W.keepIn K (.ref a0) = true)
    {a1 : Addr} {od1 an1 : Option Addr} {sl1 : Array (Option Value)} {oc1 kV1 dc1 pm1 cd1 ct1 : Value} (n1 : PySem.W.nsIn K mainGlobals "piece_by" = some (some (.ref a1))) (l1 : K.lookup a1 = some ⟨oc1, od1, .func (PySem.W.fnOf "piece_by" "piece_by" (defArgs st_piece_by) (defBody st_piece_by) (defScope st_piece_by) .none kV1 dc1 pm1 an1 cd1 ct1), sl1⟩) (c1 : PySem.W.codeIn K cd1 "piece_by" = true) (k1 : PySem.W.keepIn K (.ref a1) = true)
    {a2 : Addr} {od2 an2 : Option Addr} {sl2 : Array (Option Value)} {oc2 kV2 dc2 pm2 cd2 ct2 : Value} (n2 : PySem.W.nsIn K mainGlobals "least_uneven" = some (some (.ref a2))) (l2 : K.lookup a2 = some ⟨oc2, od2, .func (PySem.W.fnOf "least_uneven" "least_uneven" (defArgs st_least_uneven) (defBody st_least_uneven) (defScope st_least_uneven) .none kV2 dc2 pm2 an2 cd2 ct2), sl2⟩) (c2 : PySem.W.codeIn K cd2 "least_uneven" = true) (k2 : PySem.W.keepIn K (.ref a2) = true)
    {a3 : Addr} {od3 an3 : Option Addr} {sl3 : Array (Option Value)} {oc3 kV3 dc3 pm3 cd3 ct3 : Value} (n3 : PySem.W.nsIn K mainGlobals "least_bare" = some (some (.ref a3))) (l3 : K.lookup a3 = some ⟨oc3, od3, .func (PySem.W.fnOf "least_bare" "least_bare" (defArgs st_least_bare) (defBody st_least_bare) (defScope st_least_bare) .none kV3 dc3 pm3 an3 cd3 ct3), sl3⟩) (c3 : PySem.W.codeIn K cd3 "least_bare" = true) (k3 : PySem.W.keepIn K (.ref a3) = true)
    {a4 : Addr} {od4 an4 : Option Addr} {sl4 : Array (Option Value)} {oc4 kV4 dc4 pm4 cd4 ct4 : Value} (n4 : PySem.W.nsIn K mainGlobals "is_integer" = some (some (.ref a4))) (l4 : K.lookup a4 = some ⟨oc4, od4, .func (PySem.W.fnOf "is_integer" "is_integer" (defArgs st_is_integer) (defBody st_is_integer) (defScope st_is_integer) .none kV4 dc4 pm4 an4 cd4 ct4), sl4⟩) (c4 : PySem.W.codeIn K cd4 "is_integer" = true) (k4 : PySem.W.keepIn K (.ref a4) = true)
    {a5 : Addr} {od5 an5 : Option Addr} {sl5 : Array (Option Value)} {oc5 kV5 dc5 pm5 cd5 ct5 : Value} (n5 : PySem.W.nsIn K mainGlobals "_moved" = some (some (.ref a5))) (l5 : K.lookup a5 = some ⟨oc5, od5, .func (PySem.W.fnOf "_moved" "_moved" (defArgs st__moved) (defBody st__moved) (defScope st__moved) .none kV5 dc5 pm5 an5 cd5 ct5), sl5⟩) (c5 : PySem.W.codeIn K cd5 "_moved" = true) (k5 : PySem.W.keepIn K (.ref a5) = true)
    {a6 : Addr} {od6 an6 : Option Addr} {sl6 : Array (Option Value)} {oc6 kV6 dc6 pm6 cd6 ct6 : Value} (n6 : PySem.W.nsIn K mainGlobals "backwards" = some (some (.ref a6))) (l6 : K.lookup a6 = some ⟨oc6, od6, .func (PySem.W.fnOf "backwards" "backwards" (defArgs st_backwards) (defBody st_backwards) (defScope st_backwards) .none kV6 dc6 pm6 an6 cd6 ct6), sl6⟩) (c6 : PySem.W.codeIn K cd6 "backwards" = true) (k6 : PySem.W.keepIn K (.ref a6) = true)
    {a7 : Addr} {od7 an7 : Option Addr} {sl7 : Array (Option Value)} {oc7 kV7 dc7 pm7 cd7 ct7 : Value} (n7 : PySem.W.nsIn K mainGlobals "_law_mix" = some (some (.ref a7))) (l7 : K.lookup a7 = some ⟨oc7, od7, .func (PySem.W.fnOf "_law_mix" "_law_mix" (defArgs st__law_mix) (defBody st__law_mix) (defScope st__law_mix) .none kV7 dc7 pm7 an7 cd7 ct7), sl7⟩) (c7 : PySem.W.codeIn K cd7 "_law_mix" = true) (k7 : PySem.W.keepIn K (.ref a7) = true)
    {a8 : Addr} {od8 an8 : Option Addr} {sl8 : Array (Option Value)} {oc8 kV8 dc8 pm8 cd8 ct8 : Value} (n8 : PySem.W.nsIn K mainGlobals "_law_pick" = some (some (.ref a8))) (l8 : K.lookup a8 = some ⟨oc8, od8, .func (PySem.W.fnOf "_law_pick" "_law_pick" (defArgs st__law_pick) (defBody st__law_pick) (defScope st__law_pick) .none kV8 dc8 pm8 an8 cd8 ct8), sl8⟩) (c8 : PySem.W.codeIn K cd8 "_law_pick" = true) (k8 : PySem.W.keepIn K (.ref a8) = true)
    {a9 : Addr} {od9 an9 : Option Addr} {sl9 : Array (Option Value)} {oc9 kV9 dc9 pm9 cd9 ct9 : Value} (n9 : PySem.W.nsIn K mainGlobals "_law_opposite" = some (some (.ref a9))) (l9 : K.lookup a9 = some ⟨oc9, od9, .func (PySem.W.fnOf "_law_opposite" "_law_opposite" (defArgs st__law_opposite) (defBody st__law_opposite) (defScope st__law_opposite) .none kV9 dc9 pm9 an9 cd9 ct9), sl9⟩) (c9 : PySem.W.codeIn K cd9 "_law_opposite" = true) (k9 : PySem.W.keepIn K (.ref a9) = true)
    {a10 : Addr} {od10 an10 : Option Addr} {sl10 : Array (Option Value)} {oc10 kV10 dc10 pm10 cd10 ct10 : Value} (n10 : PySem.W.nsIn K mainGlobals "_law_without_loops" = some (some (.ref a10))) (l10 : K.lookup a10 = some ⟨oc10, od10, .func (PySem.W.fnOf "_law_without_loops" "_law_without_loops" (defArgs st__law_without_loops) (defBody st__law_without_loops) (defScope st__law_without_loops) .none kV10 dc10 pm10 an10 cd10 ct10), sl10⟩) (c10 : PySem.W.codeIn K cd10 "_law_without_loops" = true) (k10 : PySem.W.keepIn K (.ref a10) = true)
    {a11 : Addr} {od11 an11 : Option Addr} {sl11 : Array (Option Value)} {oc11 kV11 dc11 pm11 cd11 ct11 : Value} (n11 : PySem.W.nsIn K mainGlobals "_law_home" = some (some (.ref a11))) (l11 : K.lookup a11 = some ⟨oc11, od11, .func (PySem.W.fnOf "_law_home" "_law_home" (defArgs st__law_home) (defBody st__law_home) (defScope st__law_home) .none kV11 dc11 pm11 an11 cd11 ct11), sl11⟩) (c11 : PySem.W.codeIn K cd11 "_law_home" = true) (k11 : PySem.W.keepIn K (.ref a11) = true)
    {a12 : Addr} {od12 an12 : Option Addr} {sl12 : Array (Option Value)} {oc12 kV12 dc12 pm12 cd12 ct12 : Value} (n12 : PySem.W.nsIn K mainGlobals "first_fault" = some (some (.ref a12))) (l12 : K.lookup a12 = some ⟨oc12, od12, .func (PySem.W.fnOf "first_fault" "first_fault" (defArgs st_first_fault) (defBody st_first_fault) (defScope st_first_fault) .none kV12 dc12 pm12 an12 cd12 ct12), sl12⟩) (c12 : PySem.W.codeIn K cd12 "first_fault" = true) (k12 : PySem.W.keepIn K (.ref a12) = true)
    {a13 : Addr} {od13 an13 : Option Addr} {sl13 : Array (Option Value)} {oc13 kV13 dc13 pm13 cd13 ct13 : Value} (n13 : PySem.W.nsIn K mainGlobals "is_number" = some (some (.ref a13))) (l13 : K.lookup a13 = some ⟨oc13, od13, .func (PySem.W.fnOf "is_number" "is_number" (defArgs st_is_number) (defBody st_is_number) (defScope st_is_number) .none kV13 dc13 pm13 an13 cd13 ct13), sl13⟩) (c13 : PySem.W.codeIn K cd13 "is_number" = true) (k13 : PySem.W.keepIn K (.ref a13) = true)
    {a14 : Addr} {od14 an14 : Option Addr} {sl14 : Array (Option Value)} {oc14 kV14 dc14 pm14 cd14 ct14 : Value} (n14 : PySem.W.nsIn K mainGlobals "_law_cells" = some (some (.ref a14))) (l14 : K.lookup a14 = some ⟨oc14, od14, .func (PySem.W.fnOf "_law_cells" "_law_cells" (defArgs st__law_cells) (defBody st__law_cells) (defScope st__law_cells) .none kV14 dc14 pm14 an14 cd14 ct14), sl14⟩) (c14 : PySem.W.codeIn K cd14 "_law_cells" = true) (k14 : PySem.W.keepIn K (.ref a14) = true)
    {a15 : Addr} {od15 an15 : Option Addr} {sl15 : Array (Option Value)} {oc15 kV15 dc15 pm15 cd15 ct15 : Value} (n15 : PySem.W.nsIn K mainGlobals "_law_dealt" = some (some (.ref a15))) (l15 : K.lookup a15 = some ⟨oc15, od15, .func (PySem.W.fnOf "_law_dealt" "_law_dealt" (defArgs st__law_dealt) (defBody st__law_dealt) (defScope st__law_dealt) .none kV15 dc15 pm15 an15 cd15 ct15), sl15⟩) (c15 : PySem.W.codeIn K cd15 "_law_dealt" = true) (k15 : PySem.W.keepIn K (.ref a15) = true)
    {a16 : Addr} {od16 an16 : Option Addr} {sl16 : Array (Option Value)} {oc16 kV16 dc16 pm16 cd16 ct16 : Value} (n16 : PySem.W.nsIn K mainGlobals "_law_put" = some (some (.ref a16))) (l16 : K.lookup a16 = some ⟨oc16, od16, .func (PySem.W.fnOf "_law_put" "_law_put" (defArgs st__law_put) (defBody st__law_put) (defScope st__law_put) .none kV16 dc16 pm16 an16 cd16 ct16), sl16⟩) (c16 : PySem.W.codeIn K cd16 "_law_put" = true) (k16 : PySem.W.keepIn K (.ref a16) = true)
    {a17 : Addr} {od17 an17 : Option Addr} {sl17 : Array (Option Value)} {oc17 kV17 dc17 pm17 cd17 ct17 : Value} (n17 : PySem.W.nsIn K mainGlobals "is_heap" = some (some (.ref a17))) (l17 : K.lookup a17 = some ⟨oc17, od17, .func (PySem.W.fnOf "is_heap" "is_heap" (defArgs st_is_heap) (defBody st_is_heap) (defScope st_is_heap) .none kV17 dc17 pm17 an17 cd17 ct17), sl17⟩) (c17 : PySem.W.codeIn K cd17 "is_heap" = true) (k17 : PySem.W.keepIn K (.ref a17) = true)
    {a18 : Addr} {od18 an18 : Option Addr} {sl18 : Array (Option Value)} {oc18 kV18 dc18 pm18 cd18 ct18 : Value} (n18 : PySem.W.nsIn K mainGlobals "is_word" = some (some (.ref a18))) (l18 : K.lookup a18 = some ⟨oc18, od18, .func (PySem.W.fnOf "is_word" "is_word" (defArgs st_is_word) (defBody st_is_word) (defScope st_is_word) .none kV18 dc18 pm18 an18 cd18 ct18), sl18⟩) (c18 : PySem.W.codeIn K cd18 "is_word" = true) (k18 : PySem.W.keepIn K (.ref a18) = true)
    {a19 : Addr} {od19 an19 : Option Addr} {sl19 : Array (Option Value)} {oc19 kV19 dc19 pm19 cd19 ct19 : Value} (n19 : PySem.W.nsIn K mainGlobals "is_leaf" = some (some (.ref a19))) (l19 : K.lookup a19 = some ⟨oc19, od19, .func (PySem.W.fnOf "is_leaf" "is_leaf" (defArgs st_is_leaf) (defBody st_is_leaf) (defScope st_is_leaf) .none kV19 dc19 pm19 an19 cd19 ct19), sl19⟩) (c19 : PySem.W.codeIn K cd19 "is_leaf" = true) (k19 : PySem.W.keepIn K (.ref a19) = true)
    {a20 : Addr} {od20 an20 : Option Addr} {sl20 : Array (Option Value)} {oc20 kV20 dc20 pm20 cd20 ct20 : Value} (n20 : PySem.W.nsIn K mainGlobals "is_order" = some (some (.ref a20))) (l20 : K.lookup a20 = some ⟨oc20, od20, .func (PySem.W.fnOf "is_order" "is_order" (defArgs st_is_order) (defBody st_is_order) (defScope st_is_order) .none kV20 dc20 pm20 an20 cd20 ct20), sl20⟩) (c20 : PySem.W.codeIn K cd20 "is_order" = true) (k20 : PySem.W.keepIn K (.ref a20) = true)
    {a21 : Addr} {od21 an21 : Option Addr} {sl21 : Array (Option Value)} {oc21 kV21 dc21 pm21 cd21 ct21 : Value} (n21 : PySem.W.nsIn K mainGlobals "_law_ring" = some (some (.ref a21))) (l21 : K.lookup a21 = some ⟨oc21, od21, .func (PySem.W.fnOf "_law_ring" "_law_ring" (defArgs st__law_ring) (defBody st__law_ring) (defScope st__law_ring) .none kV21 dc21 pm21 an21 cd21 ct21), sl21⟩) (c21 : PySem.W.codeIn K cd21 "_law_ring" = true) (k21 : PySem.W.keepIn K (.ref a21) = true)
    {a22 : Addr} {od22 an22 : Option Addr} {sl22 : Array (Option Value)} {oc22 kV22 dc22 pm22 cd22 ct22 : Value} (n22 : PySem.W.nsIn K mainGlobals "is_book" = some (some (.ref a22))) (l22 : K.lookup a22 = some ⟨oc22, od22, .func (PySem.W.fnOf "is_book" "is_book" (defArgs st_is_book) (defBody st_is_book) (defScope st_is_book) .none kV22 dc22 pm22 an22 cd22 ct22), sl22⟩) (c22 : PySem.W.codeIn K cd22 "is_book" = true) (k22 : PySem.W.keepIn K (.ref a22) = true)
    {a23 : Addr} {od23 an23 : Option Addr} {sl23 : Array (Option Value)} {oc23 kV23 dc23 pm23 cd23 ct23 : Value} (n23 : PySem.W.nsIn K mainGlobals "is_lot" = some (some (.ref a23))) (l23 : K.lookup a23 = some ⟨oc23, od23, .func (PySem.W.fnOf "is_lot" "is_lot" (defArgs st_is_lot) (defBody st_is_lot) (defScope st_is_lot) .none kV23 dc23 pm23 an23 cd23 ct23), sl23⟩) (c23 : PySem.W.codeIn K cd23 "is_lot" = true) (k23 : PySem.W.keepIn K (.ref a23) = true)
    {a24 : Addr} {od24 an24 : Option Addr} {sl24 : Array (Option Value)} {oc24 kV24 dc24 pm24 cd24 ct24 : Value} (n24 : PySem.W.nsIn K mainGlobals "hung" = some (some (.ref a24))) (l24 : K.lookup a24 = some ⟨oc24, od24, .func (PySem.W.fnOf "hung" "hung" (defArgs st_hung) (defBody st_hung) (defScope st_hung) .none kV24 dc24 pm24 an24 cd24 ct24), sl24⟩) (c24 : PySem.W.codeIn K cd24 "hung" = true) (k24 : PySem.W.keepIn K (.ref a24) = true)
    {a25 : Addr} {od25 an25 : Option Addr} {sl25 : Array (Option Value)} {oc25 kV25 dc25 pm25 cd25 ct25 : Value} (n25 : PySem.W.nsIn K mainGlobals "parted" = some (some (.ref a25))) (l25 : K.lookup a25 = some ⟨oc25, od25, .func (PySem.W.fnOf "parted" "parted" (defArgs st_parted) (defBody st_parted) (defScope st_parted) .none kV25 dc25 pm25 an25 cd25 ct25), sl25⟩) (c25 : PySem.W.codeIn K cd25 "parted" = true) (k25 : PySem.W.keepIn K (.ref a25) = true)
    {a26 : Addr} {od26 an26 : Option Addr} {sl26 : Array (Option Value)} {oc26 kV26 dc26 pm26 cd26 ct26 : Value} (n26 : PySem.W.nsIn K mainGlobals "joined" = some (some (.ref a26))) (l26 : K.lookup a26 = some ⟨oc26, od26, .func (PySem.W.fnOf "joined" "joined" (defArgs st_joined) (defBody st_joined) (defScope st_joined) .none kV26 dc26 pm26 an26 cd26 ct26), sl26⟩) (c26 : PySem.W.codeIn K cd26 "joined" = true) (k26 : PySem.W.keepIn K (.ref a26) = true)
    {a27 : Addr} {od27 an27 : Option Addr} {sl27 : Array (Option Value)} {oc27 kV27 dc27 pm27 cd27 ct27 : Value} (n27 : PySem.W.nsIn K mainGlobals "renamed" = some (some (.ref a27))) (l27 : K.lookup a27 = some ⟨oc27, od27, .func (PySem.W.fnOf "renamed" "renamed" (defArgs st_renamed) (defBody st_renamed) (defScope st_renamed) .none kV27 dc27 pm27 an27 cd27 ct27), sl27⟩) (c27 : PySem.W.codeIn K cd27 "renamed" = true) (k27 : PySem.W.keepIn K (.ref a27) = true)
    {a28 : Addr} {od28 an28 : Option Addr} {sl28 : Array (Option Value)} {oc28 kV28 dc28 pm28 cd28 ct28 : Value} (n28 : PySem.W.nsIn K mainGlobals "dealt" = some (some (.ref a28))) (l28 : K.lookup a28 = some ⟨oc28, od28, .func (PySem.W.fnOf "dealt" "dealt" (defArgs st_dealt) (defBody st_dealt) (defScope st_dealt) .none kV28 dc28 pm28 an28 cd28 ct28), sl28⟩) (c28 : PySem.W.codeIn K cd28 "dealt" = true) (k28 : PySem.W.keepIn K (.ref a28) = true)
    {a29 : Addr} {od29 an29 : Option Addr} {sl29 : Array (Option Value)} {oc29 kV29 dc29 pm29 cd29 ct29 : Value} (n29 : PySem.W.nsIn K mainGlobals "_law_heap" = some (some (.ref a29))) (l29 : K.lookup a29 = some ⟨oc29, od29, .func (PySem.W.fnOf "_law_heap" "_law_heap" (defArgs st__law_heap) (defBody st__law_heap) (defScope st__law_heap) .none kV29 dc29 pm29 an29 cd29 ct29), sl29⟩) (c29 : PySem.W.codeIn K cd29 "_law_heap" = true) (k29 : PySem.W.keepIn K (.ref a29) = true)
    {a30 : Addr} {od30 an30 : Option Addr} {sl30 : Array (Option Value)} {oc30 kV30 dc30 pm30 cd30 ct30 : Value} (n30 : PySem.W.nsIn K mainGlobals "home_of" = some (some (.ref a30))) (l30 : K.lookup a30 = some ⟨oc30, od30, .func (PySem.W.fnOf "home_of" "home_of" (defArgs st_home_of) (defBody st_home_of) (defScope st_home_of) .none kV30 dc30 pm30 an30 cd30 ct30), sl30⟩) (c30 : PySem.W.codeIn K cd30 "home_of" = true) (k30 : PySem.W.keepIn K (.ref a30) = true)
    {a31 : Addr} {od31 an31 : Option Addr} {sl31 : Array (Option Value)} {oc31 kV31 dc31 pm31 cd31 ct31 : Value} (n31 : PySem.W.nsIn K mainGlobals "leaving" = some (some (.ref a31))) (l31 : K.lookup a31 = some ⟨oc31, od31, .func (PySem.W.fnOf "leaving" "leaving" (defArgs st_leaving) (defBody st_leaving) (defScope st_leaving) .none kV31 dc31 pm31 an31 cd31 ct31), sl31⟩) (c31 : PySem.W.codeIn K cd31 "leaving" = true) (k31 : PySem.W.keepIn K (.ref a31) = true)
    {a32 : Addr} {od32 an32 : Option Addr} {sl32 : Array (Option Value)} {oc32 kV32 dc32 pm32 cd32 ct32 : Value} (n32 : PySem.W.nsIn K mainGlobals "put_together" = some (some (.ref a32))) (l32 : K.lookup a32 = some ⟨oc32, od32, .func (PySem.W.fnOf "put_together" "put_together" (defArgs st_put_together) (defBody st_put_together) (defScope st_put_together) .none kV32 dc32 pm32 an32 cd32 ct32), sl32⟩) (c32 : PySem.W.codeIn K cd32 "put_together" = true) (k32 : PySem.W.keepIn K (.ref a32) = true)
    {a33 : Addr} {od33 an33 : Option Addr} {sl33 : Array (Option Value)} {oc33 kV33 dc33 pm33 cd33 ct33 : Value} (n33 : PySem.W.nsIn K mainGlobals "gates_of" = some (some (.ref a33))) (l33 : K.lookup a33 = some ⟨oc33, od33, .func (PySem.W.fnOf "gates_of" "gates_of" (defArgs st_gates_of) (defBody st_gates_of) (defScope st_gates_of) .none kV33 dc33 pm33 an33 cd33 ct33), sl33⟩) (c33 : PySem.W.codeIn K cd33 "gates_of" = true) (k33 : PySem.W.keepIn K (.ref a33) = true)
    {a34 : Addr} {od34 an34 : Option Addr} {sl34 : Array (Option Value)} {oc34 kV34 dc34 pm34 cd34 ct34 : Value} (n34 : PySem.W.nsIn K mainGlobals "_law_same" = some (some (.ref a34))) (l34 : K.lookup a34 = some ⟨oc34, od34, .func (PySem.W.fnOf "_law_same" "_law_same" (defArgs st__law_same) (defBody st__law_same) (defScope st__law_same) .none kV34 dc34 pm34 an34 cd34 ct34), sl34⟩) (c34 : PySem.W.codeIn K cd34 "_law_same" = true) (k34 : PySem.W.keepIn K (.ref a34) = true)
    {a35 : Addr} {od35 an35 : Option Addr} {sl35 : Array (Option Value)} {oc35 kV35 dc35 pm35 cd35 ct35 : Value} (n35 : PySem.W.nsIn K mainGlobals "_law_turns" = some (some (.ref a35))) (l35 : K.lookup a35 = some ⟨oc35, od35, .func (PySem.W.fnOf "_law_turns" "_law_turns" (defArgs st__law_turns) (defBody st__law_turns) (defScope st__law_turns) .none kV35 dc35 pm35 an35 cd35 ct35), sl35⟩) (c35 : PySem.W.codeIn K cd35 "_law_turns" = true) (k35 : PySem.W.keepIn K (.ref a35) = true)
    {a36 : Addr} {od36 an36 : Option Addr} {sl36 : Array (Option Value)} {oc36 kV36 dc36 pm36 cd36 ct36 : Value} (n36 : PySem.W.nsIn K mainGlobals "_law_longer" = some (some (.ref a36))) (l36 : K.lookup a36 = some ⟨oc36, od36, .func (PySem.W.fnOf "_law_longer" "_law_longer" (defArgs st__law_longer) (defBody st__law_longer) (defScope st__law_longer) .none kV36 dc36 pm36 an36 cd36 ct36), sl36⟩) (c36 : PySem.W.codeIn K cd36 "_law_longer" = true) (k36 : PySem.W.keepIn K (.ref a36) = true)
    {a37 : Addr} {od37 an37 : Option Addr} {sl37 : Array (Option Value)} {oc37 kV37 dc37 pm37 cd37 ct37 : Value} (n37 : PySem.W.nsIn K mainGlobals "_law_both" = some (some (.ref a37))) (l37 : K.lookup a37 = some ⟨oc37, od37, .func (PySem.W.fnOf "_law_both" "_law_both" (defArgs st__law_both) (defBody st__law_both) (defScope st__law_both) .none kV37 dc37 pm37 an37 cd37 ct37), sl37⟩) (c37 : PySem.W.codeIn K cd37 "_law_both" = true) (k37 : PySem.W.keepIn K (.ref a37) = true)
    {a38 : Addr} {od38 an38 : Option Addr} {sl38 : Array (Option Value)} {oc38 kV38 dc38 pm38 cd38 ct38 : Value} (n38 : PySem.W.nsIn K mainGlobals "_law_refused" = some (some (.ref a38))) (l38 : K.lookup a38 = some ⟨oc38, od38, .func (PySem.W.fnOf "_law_refused" "_law_refused" (defArgs st__law_refused) (defBody st__law_refused) (defScope st__law_refused) .none kV38 dc38 pm38 an38 cd38 ct38), sl38⟩) (c38 : PySem.W.codeIn K cd38 "_law_refused" = true) (k38 : PySem.W.keepIn K (.ref a38) = true)
    {a39 : Addr} {od39 an39 : Option Addr} {sl39 : Array (Option Value)} {oc39 kV39 dc39 pm39 cd39 ct39 : Value} (n39 : PySem.W.nsIn K mainGlobals "_law_books" = some (some (.ref a39))) (l39 : K.lookup a39 = some ⟨oc39, od39, .func (PySem.W.fnOf "_law_books" "_law_books" (defArgs st__law_books) (defBody st__law_books) (defScope st__law_books) .none kV39 dc39 pm39 an39 cd39 ct39), sl39⟩) (c39 : PySem.W.codeIn K cd39 "_law_books" = true) (k39 : PySem.W.keepIn K (.ref a39) = true)
    {a40 : Addr} {od40 an40 : Option Addr} {sl40 : Array (Option Value)} {oc40 kV40 dc40 pm40 cd40 ct40 : Value} (n40 : PySem.W.nsIn K mainGlobals "_law_lots" = some (some (.ref a40))) (l40 : K.lookup a40 = some ⟨oc40, od40, .func (PySem.W.fnOf "_law_lots" "_law_lots" (defArgs st__law_lots) (defBody st__law_lots) (defScope st__law_lots) .none kV40 dc40 pm40 an40 cd40 ct40), sl40⟩) (c40 : PySem.W.codeIn K cd40 "_law_lots" = true) (k40 : PySem.W.keepIn K (.ref a40) = true)
    {a41 : Addr} {od41 an41 : Option Addr} {sl41 : Array (Option Value)} {oc41 kV41 dc41 pm41 cd41 ct41 : Value} (n41 : PySem.W.nsIn K mainGlobals "law" = some (some (.ref a41))) (l41 : K.lookup a41 = some ⟨oc41, od41, .func (PySem.W.fnOf "law" "law" (defArgs st_law) (defBody st_law) (defScope st_law) .none kV41 dc41 pm41 an41 cd41 ct41), sl41⟩) (c41 : PySem.W.codeIn K cd41 "law" = true) (k41 : PySem.W.keepIn K (.ref a41) = true)
    {cX0 fX0 : Addr} {nmX0 qX0 : Str} {NX0 : Addr} {bsX0 bmX0 : List Value} {snX0 : List Str} {subX0 : List Value} {abX0 : Bool} {colX0 : Option Bool} {ddX0 : Option Addr} {m0X0 m1X0 m2X0 m3X0 m5X0 : Option Value} {odX0 anX0 : Option Addr} {slX0 : Array (Option Value)} {ocX0 kVX0 dcX0 pmX0 cdX0 ctX0 : Value} (aCX0 : PySem.W.nsIn K mainGlobals "NotUsable" = some (some (.ref cX0))) (xLX0 : K.lookup cX0 = some (excClassObj nmX0 qX0 cX0 NX0 bsX0 bmX0 true snX0 subX0 abX0 colX0 ddX0 m0X0 m1X0 m2X0 m3X0 m5X0 "ValueError.__new__")) (rvX0 : PySem.HandSPX.refsVE bmX0 = true) (saX0 : PySem.W.findIn K (.ref cX0) "__setattr__" = some (some (.builtin "object.__setattr__"))) (gaX0 : PySem.W.findIn K (.ref cX0) "__getattribute__" = some (some (.builtin "BaseException.__getattribute__"))) (ggX0 : PySem.W.findIn K (.ref cX0) "__getattr__" = some none) (n0X0 : PySem.W.findIn K (.ref cX0) "word" = some none) (n1X0 : PySem.W.findIn K (.ref cX0) "at" = some none) (i1X0 : PySem.W.findIn K (.ref cX0) "__init__" = some (some (.ref fX0))) (t1X0 : PySem.W.typeIn K (.ref fX0) = some (.type "function")) (l1X0 : K.lookup fX0 = some ⟨ocX0, odX0, .func (PySem.W.fnOf "__init__" "NotUsable.__init__" (defArgs st_NotUsable) (defBody st_NotUsable) (defScope st_NotUsable) .none kVX0 dcX0 pmX0 anX0 cdX0 ctX0), slX0⟩) (c1X0 : PySem.W.codeIn K cdX0 "NotUsable.__init__" = true) (k1X0 : PySem.W.keepIn K (.ref fX0) = true) (kCX0 : PySem.W.keepIn K (.ref cX0) = true) (eCX0 : PySem.W.subIn K (.ref cX0) (.type "BaseException") = some true) (tCX0 : PySem.W.typeIn K (.ref cX0) = some (.type "type")) (hCX0 : PySem.W.hasDictIn K cX0 = true) (iCX0 : PySem.W.isClsIn K cX0 = true) (sCX0 : PySem.W.subIn K (.ref cX0) (.ref cX0) = some true)
    (z_abs : PySem.W.nsIn K mainGlobals "abs" = some none)
    (z_all : PySem.W.nsIn K mainGlobals "all" = some none)
    (z_bool : PySem.W.nsIn K mainGlobals "bool" = some none)
    (z_enumerate : PySem.W.nsIn K mainGlobals "enumerate" = some none)
    (z_int : PySem.W.nsIn K mainGlobals "int" = some none)
    (z_isinstance : PySem.W.nsIn K mainGlobals "isinstance" = some none)
    (z_len : PySem.W.nsIn K mainGlobals "len" = some none)
    (z_list : PySem.W.nsIn K mainGlobals "list" = some none)
    (z_min : PySem.W.nsIn K mainGlobals "min" = some none)
    (z_range : PySem.W.nsIn K mainGlobals "range" = some none)
    (z_reversed : PySem.W.nsIn K mainGlobals "reversed" = some none)
    (z_sorted : PySem.W.nsIn K mainGlobals "sorted" = some none)
    (z_tuple : PySem.W.nsIn K mainGlobals "tuple" = some none) :
    ∃ fd : FuncData, (∀ (s : Shared) (v : Value), BindsTo s fd ⟨[v], []⟩ [("_law_script", v)]) ∧ ∀ base : Heap, K.In base → base.Ns mainGlobals mg → FnOk l.prog w K mg base CX0 9 fa fd ["_law_script"] (spF K S_law) := by
  have e := Value.ref.inj (Option.some.inj (hfa.symm.trans (PySem.W.mg_of X G n41)))
  rw [e]
  exact ⟨PySem.W.fnOf "law" "law" (defArgs st_law) (defBody st_law) (defScope st_law) .none kV41 dc41 pm41 an41 cd41 ct41, fun s v => .of_eq rfl, fun base _ _ => ok_law (P := l.prog) (w := w) (base := base) ({ a_word_bonds := a0, d_word_bonds := PySem.W.fnOf "word_bonds" "word_bonds" (defArgs st_word_bonds) (defBody st_word_bonds) (defScope st_word_bonds) .none kV0 dc0 pm0 an0 cd0 ct0, m_word_bonds := PySem.W.mg_of X G n0, k_word_bonds := k0, f_word_bonds := fun_mk (st := st_word_bonds) l0 c0 k0, b_word_bonds := (fun_mk (st := st_word_bonds) l0 c0 k0).binds (ps := ["leaves"]) (fun _ _ _ _ _ _ us hl => match us, hl with | [_], _ => rfl), a_piece_by := a1, d_piece_by := PySem.W.fnOf "piece_by" "piece_by" (defArgs st_piece_by) (defBody st_piece_by) (defScope st_piece_by) .none kV1 dc1 pm1 an1 cd1 ct1, m_piece_by := PySem.W.mg_of X G n1, k_piece_by := k1, f_piece_by := fun_mk (st := st_piece_by) l1 c1 k1, b_piece_by := (fun_mk (st := st_piece_by) l1 c1 k1).binds (ps := ["bonds", "start"]) (fun _ _ _ _ _ _ us hl => match us, hl with | [_, _], _ => rfl), a_least_uneven := a2, d_least_uneven := PySem.W.fnOf "least_uneven" "least_uneven" (defArgs st_least_uneven) (defBody st_least_uneven) (defScope st_least_uneven) .none kV2 dc2 pm2 an2 cd2 ct2, m_least_uneven := PySem.W.mg_of X G n2, k_least_uneven := k2, f_least_uneven := fun_mk (st := st_least_uneven) l2 c2 k2, b_least_uneven := (fun_mk (st := st_least_uneven) l2 c2 k2).binds (ps := ["leaves"]) (fun _ _ _ _ _ _ us hl => match us, hl with | [_], _ => rfl), a_least_bare := a3, d_least_bare := PySem.W.fnOf "least_bare" "least_bare" (defArgs st_least_bare) (defBody st_least_bare) (defScope st_least_bare) .none kV3 dc3 pm3 an3 cd3 ct3, m_least_bare := PySem.W.mg_of X G n3, k_least_bare := k3, f_least_bare := fun_mk (st := st_least_bare) l3 c3 k3, b_least_bare := (fun_mk (st := st_least_bare) l3 c3 k3).binds (ps := ["size", "leaves"]) (fun _ _ _ _ _ _ us hl => match us, hl with | [_, _], _ => rfl), a_is_integer := a4, d_is_integer := PySem.W.fnOf "is_integer" "is_integer" (defArgs st_is_integer) (defBody st_is_integer) (defScope st_is_integer) .none kV4 dc4 pm4 an4 cd4 ct4, m_is_integer := PySem.W.mg_of X G n4, k_is_integer := k4, f_is_integer := fun_mk (st := st_is_integer) l4 c4 k4, b_is_integer := (fun_mk (st := st_is_integer) l4 c4 k4).binds (ps := ["thing"]) (fun _ _ _ _ _ _ us hl => match us, hl with | [_], _ => rfl), a__moved := a5, d__moved := PySem.W.fnOf "_moved" "_moved" (defArgs st__moved) (defBody st__moved) (defScope st__moved) .none kV5 dc5 pm5 an5 cd5 ct5, m__moved := PySem.W.mg_of X G n5, k__moved := k5, f__moved := fun_mk (st := st__moved) l5 c5 k5, b__moved := (fun_mk (st := st__moved) l5 c5 k5).binds (ps := ["size", "word"]) (fun _ _ _ _ _ _ us hl => match us, hl with | [_, _], _ => rfl), a_backwards := a6, d_backwards := PySem.W.fnOf "backwards" "backwards" (defArgs st_backwards) (defBody st_backwards) (defScope st_backwards) .none kV6 dc6 pm6 an6 cd6 ct6, m_backwards := PySem.W.mg_of X G n6, k_backwards := k6, f_backwards := fun_mk (st := st_backwards) l6 c6 k6, b_backwards := (fun_mk (st := st_backwards) l6 c6 k6).binds (ps := ["heap"]) (fun _ _ _ _ _ _ us hl => match us, hl with | [_], _ => rfl), kb_backwards_heap := KwB.of (fun ws hl => match ws, hl with | [_], _ => rfl), a__law_mix := a7, d__law_mix := PySem.W.fnOf "_law_mix" "_law_mix" (defArgs st__law_mix) (defBody st__law_mix) (defScope st__law_mix) .none kV7 dc7 pm7 an7 cd7 ct7, m__law_mix := PySem.W.mg_of X G n7, k__law_mix := k7, f__law_mix := fun_mk (st := st__law_mix) l7 c7 k7, b__law_mix := (fun_mk (st := st__law_mix) l7 c7 k7).binds (ps := ["_law_cell", "_law_k"]) (fun _ _ _ _ _ _ us hl => match us, hl with | [_, _], _ => rfl), a__law_pick := a8, d__law_pick := PySem.W.fnOf "_law_pick" "_law_pick" (defArgs st__law_pick) (defBody st__law_pick) (defScope st__law_pick) .none kV8 dc8 pm8 an8 cd8 ct8, m__law_pick := PySem.W.mg_of X G n8, k__law_pick := k8, f__law_pick := fun_mk (st := st__law_pick) l8 c8 k8, b__law_pick := (fun_mk (st := st__law_pick) l8 c8 k8).binds (ps := ["_law_cells_here", "_law_limit"]) (fun _ _ _ _ _ _ us hl => match us, hl with | [_, _], _ => rfl), a__law_opposite := a9, d__law_opposite := PySem.W.fnOf "_law_opposite" "_law_opposite" (defArgs st__law_opposite) (defBody st__law_opposite) (defScope st__law_opposite) .none kV9 dc9 pm9 an9 cd9 ct9, m__law_opposite := PySem.W.mg_of X G n9, k__law_opposite := k9, f__law_opposite := fun_mk (st := st__law_opposite) l9 c9 k9, b__law_opposite := (fun_mk (st := st__law_opposite) l9 c9 k9).binds (ps := ["_law_names"]) (fun _ _ _ _ _ _ us hl => match us, hl with | [_], _ => rfl), a__law_without_loops := a10, d__law_without_loops := PySem.W.fnOf "_law_without_loops" "_law_without_loops" (defArgs st__law_without_loops) (defBody st__law_without_loops) (defScope st__law_without_loops) .none kV10 dc10 pm10 an10 cd10 ct10, m__law_without_loops := PySem.W.mg_of X G n10, k__law_without_loops := k10, f__law_without_loops := fun_mk (st := st__law_without_loops) l10 c10 k10, b__law_without_loops := (fun_mk (st := st__law_without_loops) l10 c10 k10).binds (ps := ["_law_pile", "_law_spot"]) (fun _ _ _ _ _ _ us hl => match us, hl with | [_, _], _ => rfl), a__law_home := a11, d__law_home := PySem.W.fnOf "_law_home" "_law_home" (defArgs st__law_home) (defBody st__law_home) (defScope st__law_home) .none kV11 dc11 pm11 an11 cd11 ct11, m__law_home := PySem.W.mg_of X G n11, k__law_home := k11, f__law_home := fun_mk (st := st__law_home) l11 c11 k11, b__law_home := (fun_mk (st := st__law_home) l11 c11 k11).binds (ps := ["_law_size", "_law_part"]) (fun _ _ _ _ _ _ us hl => match us, hl with | [_, _], _ => rfl), a_first_fault := a12, d_first_fault := PySem.W.fnOf "first_fault" "first_fault" (defArgs st_first_fault) (defBody st_first_fault) (defScope st_first_fault) .none kV12 dc12 pm12 an12 cd12 ct12, m_first_fault := PySem.W.mg_of X G n12, k_first_fault := k12, f_first_fault := fun_mk (st := st_first_fault) l12 c12 k12, b_first_fault := (fun_mk (st := st_first_fault) l12 c12 k12).binds (ps := ["size", "leaves"]) (fun _ _ _ _ _ _ us hl => match us, hl with | [_, _], _ => rfl), a_is_number := a13, d_is_number := PySem.W.fnOf "is_number" "is_number" (defArgs st_is_number) (defBody st_is_number) (defScope st_is_number) .none kV13 dc13 pm13 an13 cd13 ct13, m_is_number := PySem.W.mg_of X G n13, k_is_number := k13, f_is_number := fun_mk (st := st_is_number) l13 c13 k13, b_is_number := (fun_mk (st := st_is_number) l13 c13 k13).binds (ps := ["thing"]) (fun _ _ _ _ _ _ us hl => match us, hl with | [_], _ => rfl), a__law_cells := a14, d__law_cells := PySem.W.fnOf "_law_cells" "_law_cells" (defArgs st__law_cells) (defBody st__law_cells) (defScope st__law_cells) .none kV14 dc14 pm14 an14 cd14 ct14, m__law_cells := PySem.W.mg_of X G n14, k__law_cells := k14, f__law_cells := fun_mk (st := st__law_cells) l14 c14 k14, b__law_cells := (fun_mk (st := st__law_cells) l14 c14 k14).binds (ps := ["_law_script", "_law_many_more"]) (fun _ _ _ _ _ _ us hl => match us, hl with | [_, _], _ => rfl), a__law_dealt := a15, d__law_dealt := PySem.W.fnOf "_law_dealt" "_law_dealt" (defArgs st__law_dealt) (defBody st__law_dealt) (defScope st__law_dealt) .none kV15 dc15 pm15 an15 cd15 ct15, m__law_dealt := PySem.W.mg_of X G n15, k__law_dealt := k15, f__law_dealt := fun_mk (st := st__law_dealt) l15 c15 k15, b__law_dealt := (fun_mk (st := st__law_dealt) l15 c15 k15).binds (ps := ["_law_cells_here", "_law_things"]) (fun _ _ _ _ _ _ us hl => match us, hl with | [_, _], _ => rfl), a__law_put := a16, d__law_put := PySem.W.fnOf "_law_put" "_law_put" (defArgs st__law_put) (defBody st__law_put) (defScope st__law_put) .none kV16 dc16 pm16 an16 cd16 ct16, m__law_put := PySem.W.mg_of X G n16, k__law_put := k16, f__law_put := fun_mk (st := st__law_put) l16 c16 k16, b__law_put := (fun_mk (st := st__law_put) l16 c16 k16).binds (ps := ["_law_pile", "_law_part"]) (fun _ _ _ _ _ _ us hl => match us, hl with | [_, _], _ => rfl), a_is_heap := a17, d_is_heap := PySem.W.fnOf "is_heap" "is_heap" (defArgs st_is_heap) (defBody st_is_heap) (defScope st_is_heap) .none kV17 dc17 pm17 an17 cd17 ct17, m_is_heap := PySem.W.mg_of X G n17, k_is_heap := k17, f_is_heap := fun_mk (st := st_is_heap) l17 c17 k17, b_is_heap := (fun_mk (st := st_is_heap) l17 c17 k17).binds (ps := ["thing"]) (fun _ _ _ _ _ _ us hl => match us, hl with | [_], _ => rfl), a_is_word := a18, d_is_word := PySem.W.fnOf "is_word" "is_word" (defArgs st_is_word) (defBody st_is_word) (defScope st_is_word) .none kV18 dc18 pm18 an18 cd18 ct18, m_is_word := PySem.W.mg_of X G n18, k_is_word := k18, f_is_word := fun_mk (st := st_is_word) l18 c18 k18, b_is_word := (fun_mk (st := st_is_word) l18 c18 k18).binds (ps := ["heap", "thing"]) (fun _ _ _ _ _ _ us hl => match us, hl with | [_, _], _ => rfl), a_is_leaf := a19, d_is_leaf := PySem.W.fnOf "is_leaf" "is_leaf" (defArgs st_is_leaf) (defBody st_is_leaf) (defScope st_is_leaf) .none kV19 dc19 pm19 an19 cd19 ct19, m_is_leaf := PySem.W.mg_of X G n19, k_is_leaf := k19, f_is_leaf := fun_mk (st := st_is_leaf) l19 c19 k19, b_is_leaf := (fun_mk (st := st_is_leaf) l19 c19 k19).binds (ps := ["heap", "thing"]) (fun _ _ _ _ _ _ us hl => match us, hl with | [_, _], _ => rfl), a_is_order := a20, d_is_order := PySem.W.fnOf "is_order" "is_order" (defArgs st_is_order) (defBody st_is_order) (defScope st_is_order) .none kV20 dc20 pm20 an20 cd20 ct20, m_is_order := PySem.W.mg_of X G n20, k_is_order := k20, f_is_order := fun_mk (st := st_is_order) l20 c20 k20, b_is_order := (fun_mk (st := st_is_order) l20 c20 k20).binds (ps := ["many", "thing"]) (fun _ _ _ _ _ _ us hl => match us, hl with | [_, _], _ => rfl), a__law_ring := a21, d__law_ring := PySem.W.fnOf "_law_ring" "_law_ring" (defArgs st__law_ring) (defBody st__law_ring) (defScope st__law_ring) .none kV21 dc21 pm21 an21 cd21 ct21, m__law_ring := PySem.W.mg_of X G n21, k__law_ring := k21, f__law_ring := fun_mk (st := st__law_ring) l21 c21 k21, b__law_ring := (fun_mk (st := st__law_ring) l21 c21 k21).binds (ps := ["_law_cells_here", "_law_size", "_law_extra"]) (fun _ _ _ _ _ _ us hl => match us, hl with | [_, _, _], _ => rfl), a_is_book := a22, d_is_book := PySem.W.fnOf "is_book" "is_book" (defArgs st_is_book) (defBody st_is_book) (defScope st_is_book) .none kV22 dc22 pm22 an22 cd22 ct22, m_is_book := PySem.W.mg_of X G n22, k_is_book := k22, f_is_book := fun_mk (st := st_is_book) l22 c22 k22, b_is_book := (fun_mk (st := st_is_book) l22 c22 k22).binds (ps := ["thing"]) (fun _ _ _ _ _ _ us hl => match us, hl with | [_], _ => rfl), a_is_lot := a23, d_is_lot := PySem.W.fnOf "is_lot" "is_lot" (defArgs st_is_lot) (defBody st_is_lot) (defScope st_is_lot) .none kV23 dc23 pm23 an23 cd23 ct23, m_is_lot := PySem.W.mg_of X G n23, k_is_lot := k23, f_is_lot := fun_mk (st := st_is_lot) l23 c23 k23, b_is_lot := (fun_mk (st := st_is_lot) l23 c23 k23).binds (ps := ["heap", "thing"]) (fun _ _ _ _ _ _ us hl => match us, hl with | [_, _], _ => rfl), a_hung := a24, d_hung := PySem.W.fnOf "hung" "hung" (defArgs st_hung) (defBody st_hung) (defScope st_hung) .none kV24 dc24 pm24 an24 cd24 ct24, m_hung := PySem.W.mg_of X G n24, k_hung := k24, f_hung := fun_mk (st := st_hung) l24 c24 k24, b_hung := (fun_mk (st := st_hung) l24 c24 k24).binds (ps := ["heap", "word"]) (fun _ _ _ _ _ _ us hl => match us, hl with | [_, _], _ => rfl), kb_hung_word_heap := KwB.of (fun ws hl => match ws, hl with | [_, _], _ => rfl), a_parted := a25, d_parted := PySem.W.fnOf "parted" "parted" (defArgs st_parted) (defBody st_parted) (defScope st_parted) .none kV25 dc25 pm25 an25 cd25 ct25, m_parted := PySem.W.mg_of X G n25, k_parted := k25, f_parted := fun_mk (st := st_parted) l25 c25 k25, b_parted := (fun_mk (st := st_parted) l25 c25 k25).binds (ps := ["heap", "leaf"]) (fun _ _ _ _ _ _ us hl => match us, hl with | [_, _], _ => rfl), a_joined := a26, d_joined := PySem.W.fnOf "joined" "joined" (defArgs st_joined) (defBody st_joined) (defScope st_joined) .none kV26 dc26 pm26 an26 cd26 ct26, m_joined := PySem.W.mg_of X G n26, k_joined := k26, f_joined := fun_mk (st := st_joined) l26 c26 k26, b_joined := (fun_mk (st := st_joined) l26 c26 k26).binds (ps := ["heap", "other"]) (fun _ _ _ _ _ _ us hl => match us, hl with | [_, _], _ => rfl), kb_joined_other_heap := KwB.of (fun ws hl => match ws, hl with | [_, _], _ => rfl), a_renamed := a27, d_renamed := PySem.W.fnOf "renamed" "renamed" (defArgs st_renamed) (defBody st_renamed) (defScope st_renamed) .none kV27 dc27 pm27 an27 cd27 ct27, m_renamed := PySem.W.mg_of X G n27, k_renamed := k27, f_renamed := fun_mk (st := st_renamed) l27 c27 k27, b_renamed := (fun_mk (st := st_renamed) l27 c27 k27).binds (ps := ["heap", "order"]) (fun _ _ _ _ _ _ us hl => match us, hl with | [_, _], _ => rfl), kb_renamed_order_heap := KwB.of (fun ws hl => match ws, hl with | [_, _], _ => rfl), a_dealt := a28, d_dealt := PySem.W.fnOf "dealt" "dealt" (defArgs st_dealt) (defBody st_dealt) (defScope st_dealt) .none kV28 dc28 pm28 an28 cd28 ct28, m_dealt := PySem.W.mg_of X G n28, k_dealt := k28, f_dealt := fun_mk (st := st_dealt) l28 c28 k28, b_dealt := (fun_mk (st := st_dealt) l28 c28 k28).binds (ps := ["heap", "order"]) (fun _ _ _ _ _ _ us hl => match us, hl with | [_, _], _ => rfl), kb_dealt_heap_order := KwB.of (fun ws hl => match ws, hl with | [_, _], _ => rfl), a__law_heap := a29, d__law_heap := PySem.W.fnOf "_law_heap" "_law_heap" (defArgs st__law_heap) (defBody st__law_heap) (defScope st__law_heap) .none kV29 dc29 pm29 an29 cd29 ct29, m__law_heap := PySem.W.mg_of X G n29, k__law_heap := k29, f__law_heap := fun_mk (st := st__law_heap) l29 c29 k29, b__law_heap := (fun_mk (st := st__law_heap) l29 c29 k29).binds (ps := ["_law_cells_here", "_law_kind", "_law_size"]) (fun _ _ _ _ _ _ us hl => match us, hl with | [_, _, _], _ => rfl), a_home_of := a30, d_home_of := PySem.W.fnOf "home_of" "home_of" (defArgs st_home_of) (defBody st_home_of) (defScope st_home_of) .none kV30 dc30 pm30 an30 cd30 ct30, m_home_of := PySem.W.mg_of X G n30, k_home_of := k30, f_home_of := fun_mk (st := st_home_of) l30 c30 k30, b_home_of := (fun_mk (st := st_home_of) l30 c30 k30).binds (ps := ["heap", "lot"]) (fun _ _ _ _ _ _ us hl => match us, hl with | [_, _], _ => rfl), kb_home_of_lot_heap := KwB.of (fun ws hl => match ws, hl with | [_, _], _ => rfl), a_leaving := a31, d_leaving := PySem.W.fnOf "leaving" "leaving" (defArgs st_leaving) (defBody st_leaving) (defScope st_leaving) .none kV31 dc31 pm31 an31 cd31 ct31, m_leaving := PySem.W.mg_of X G n31, k_leaving := k31, f_leaving := fun_mk (st := st_leaving) l31 c31 k31, b_leaving := (fun_mk (st := st_leaving) l31 c31 k31).binds (ps := ["heap", "lot"]) (fun _ _ _ _ _ _ us hl => match us, hl with | [_, _], _ => rfl), a_put_together := a32, d_put_together := PySem.W.fnOf "put_together" "put_together" (defArgs st_put_together) (defBody st_put_together) (defScope st_put_together) .none kV32 dc32 pm32 an32 cd32 ct32, m_put_together := PySem.W.mg_of X G n32, k_put_together := k32, f_put_together := fun_mk (st := st_put_together) l32 c32 k32, b_put_together := (fun_mk (st := st_put_together) l32 c32 k32).binds (ps := ["heap", "lot"]) (fun _ _ _ _ _ _ us hl => match us, hl with | [_, _], _ => rfl), kb_put_together_lot_heap := KwB.of (fun ws hl => match ws, hl with | [_, _], _ => rfl), a_gates_of := a33, d_gates_of := PySem.W.fnOf "gates_of" "gates_of" (defArgs st_gates_of) (defBody st_gates_of) (defScope st_gates_of) .none kV33 dc33 pm33 an33 cd33 ct33, m_gates_of := PySem.W.mg_of X G n33, k_gates_of := k33, f_gates_of := fun_mk (st := st_gates_of) l33 c33 k33, b_gates_of := (fun_mk (st := st_gates_of) l33 c33 k33).binds (ps := ["heap", "lot"]) (fun _ _ _ _ _ _ us hl => match us, hl with | [_, _], _ => rfl), a__law_same := a34, d__law_same := PySem.W.fnOf "_law_same" "_law_same" (defArgs st__law_same) (defBody st__law_same) (defScope st__law_same) .none kV34 dc34 pm34 an34 cd34 ct34, m__law_same := PySem.W.mg_of X G n34, k__law_same := k34, f__law_same := fun_mk (st := st__law_same) l34 c34 k34, b__law_same := (fun_mk (st := st__law_same) l34 c34 k34).binds (ps := ["_law_told", "_law_due"]) (fun _ _ _ _ _ _ us hl => match us, hl with | [_, _], _ => rfl), a__law_turns := a35, d__law_turns := PySem.W.fnOf "_law_turns" "_law_turns" (defArgs st__law_turns) (defBody st__law_turns) (defScope st__law_turns) .none kV35 dc35 pm35 an35 cd35 ct35, m__law_turns := PySem.W.mg_of X G n35, k__law_turns := k35, f__law_turns := fun_mk (st := st__law_turns) l35 c35 k35, b__law_turns := (fun_mk (st := st__law_turns) l35 c35 k35).binds (ps := ["_law_pile", "_law_names", "_law_again", "_law_deal", "_law_anew"]) (fun _ _ _ _ _ _ us hl => match us, hl with | [_, _, _, _, _], _ => rfl), a__law_longer := a36, d__law_longer := PySem.W.fnOf "_law_longer" "_law_longer" (defArgs st__law_longer) (defBody st__law_longer) (defScope st__law_longer) .none kV36 dc36 pm36 an36 cd36 ct36, m__law_longer := PySem.W.mg_of X G n36, k__law_longer := k36, f__law_longer := fun_mk (st := st__law_longer) l36 c36 k36, b__law_longer := (fun_mk (st := st__law_longer) l36 c36 k36).binds (ps := ["_law_pile", "_law_spot"]) (fun _ _ _ _ _ _ us hl => match us, hl with | [_, _], _ => rfl), a__law_both := a37, d__law_both := PySem.W.fnOf "_law_both" "_law_both" (defArgs st__law_both) (defBody st__law_both) (defScope st__law_both) .none kV37 dc37 pm37 an37 cd37 ct37, m__law_both := PySem.W.mg_of X G n37, k__law_both := k37, f__law_both := fun_mk (st := st__law_both) l37 c37 k37, b__law_both := (fun_mk (st := st__law_both) l37 c37 k37).binds (ps := ["_law_pile", "_law_extra_one"]) (fun _ _ _ _ _ _ us hl => match us, hl with | [_, _], _ => rfl), a__law_refused := a38, d__law_refused := PySem.W.fnOf "_law_refused" "_law_refused" (defArgs st__law_refused) (defBody st__law_refused) (defScope st__law_refused) .none kV38 dc38 pm38 an38 cd38 ct38, m__law_refused := PySem.W.mg_of X G n38, k__law_refused := k38, f__law_refused := fun_mk (st := st__law_refused) l38 c38 k38, b__law_refused := (fun_mk (st := st__law_refused) l38 c38 k38).binds (ps := ["_law_pile", "_law_part"]) (fun _ _ _ _ _ _ us hl => match us, hl with | [_, _], _ => rfl), a__law_books := a39, d__law_books := PySem.W.fnOf "_law_books" "_law_books" (defArgs st__law_books) (defBody st__law_books) (defScope st__law_books) .none kV39 dc39 pm39 an39 cd39 ct39, m__law_books := PySem.W.mg_of X G n39, k__law_books := k39, f__law_books := fun_mk (st := st__law_books) l39 c39 k39, b__law_books := (fun_mk (st := st__law_books) l39 c39 k39).binds (ps := ["_law_pile", "_law_extra_one", "_law_spot", "_law_part"]) (fun _ _ _ _ _ _ us hl => match us, hl with | [_, _, _, _], _ => rfl), a__law_lots := a40, d__law_lots := PySem.W.fnOf "_law_lots" "_law_lots" (defArgs st__law_lots) (defBody st__law_lots) (defScope st__law_lots) .none kV40 dc40 pm40 an40 cd40 ct40, m__law_lots := PySem.W.mg_of X G n40, k__law_lots := k40, f__law_lots := fun_mk (st := st__law_lots) l40 c40 k40, b__law_lots := (fun_mk (st := st__law_lots) l40 c40 k40).binds (ps := ["_law_pile", "_law_small", "_law_more"]) (fun _ _ _ _ _ _ us hl => match us, hl with | [_, _, _], _ => rfl), a_law := a41, d_law := PySem.W.fnOf "law" "law" (defArgs st_law) (defBody st_law) (defScope st_law) .none kV41 dc41 pm41 an41 cd41 ct41, m_law := PySem.W.mg_of X G n41, k_law := k41, f_law := fun_mk (st := st_law) l41 c41 k41, b_law := (fun_mk (st := st_law) l41 c41 k41).binds (ps := ["_law_script"]) (fun _ _ _ _ _ _ us hl => match us, hl with | [_], _ => rfl), C_NotUsable := cX0, fI_NotUsable := fX0, dI_NotUsable := PySem.W.fnOf "__init__" "NotUsable.__init__" (defArgs st_NotUsable) (defBody st_NotUsable) (defScope st_NotUsable) .none kVX0 dcX0 pmX0 anX0 cdX0 ctX0, gC_NotUsable := PySem.W.mg_of X G aCX0, oex_NotUsable := ⟨⟨_, _, _, _, _, _, _, _, _, _, _, _, _, _, _, xLX0, rvX0⟩, saX0, eCX0, tCX0, kCX0⟩, xf_NotUsable := ⟨gaX0, ggX0, eCX0, hCX0⟩, te_NotUsable := exm_own eCX0 iCX0 tCX0 sCX0, iC_NotUsable := i1X0, tI_NotUsable := t1X0, FI_NotUsable := fun_mk (st := st_NotUsable) l1X0 c1X0 k1X0, bI_NotUsable := (fun_mk (st := st_NotUsable) l1X0 c1X0 k1X0).binds (ps := ["self", "word", "at"]) (fun _ _ _ _ _ _ us hl => match us, hl with | [_, _, _], _ => rfl), n_NotUsable_word := n0X0, n_NotUsable_at := n1X0, z_abs := PySem.W.mg_none_of X G z_abs, z_all := PySem.W.mg_none_of X G z_all, z_bool := PySem.W.mg_none_of X G z_bool, z_enumerate := PySem.W.mg_none_of X G z_enumerate, z_int := PySem.W.mg_none_of X G z_int, z_isinstance := PySem.W.mg_none_of X G z_isinstance, z_len := PySem.W.mg_none_of X G z_len, z_list := PySem.W.mg_none_of X G z_list, z_min := PySem.W.mg_none_of X G z_min, z_range := PySem.W.mg_none_of X G z_range, z_reversed := PySem.W.mg_none_of X G z_reversed, z_sorted := PySem.W.mg_none_of X G z_sorted, z_tuple := PySem.W.mg_none_of X G z_tuple } : Tx K mg)⟩
theorem walk {l : PySem.W.OpenLaw} {q : Program} {loose : List Str} {XP : (Str → Option Value) → Heap → Prop} {YP : World → Heap → Prop} {d : DefRec} {K : Params → PySem.W.Frag} (hn : l.most = some 63) (hdf : d.params.defaults = [])
    (hY : ∀ (w : World) (h : Heap), YP w h → (K w.params).In h)
    (F : ∀ (w : World) (mg : Str → Option Value) (fa : Addr) (h : Heap), (K w.params).In h → h.Ns mainGlobals mg → mg d.name = some (.ref fa) →
      ∃ fd : FuncData, (∀ (s : Shared) (u : Value), BindsTo s fd ⟨[u], []⟩ [("_law_script", u)]) ∧ ∀ base : Heap, (K w.params).In base → base.Ns mainGlobals mg → FnOk l.prog w (K w.params) mg base CX0 9 fa fd ["_law_script"] (spF (K w.params) S_law)) :
    PySem.W.WalkO q loose XP YP l.row.toRowW d [] (fun f vs => PySem.call f vs) :=
  L2.walk_of (n := 63) (k := 9) (x := "_law_script") (CX := fun _ => CX0) (sp := fun w => spF (K w.params) S_law) hn (by decide) hdf ⟨rfl, by decide, by decide⟩ hY F (fun _ H a ns hl _ hS => spF_law law_pure H a ns _ hl hS) fun _ _ _ _ _ z => z
end LawK04
open PySem PySem.W PyProof.Rows
set_option maxRecDepth 100000 in
set_option maxHeartbeats 0 in
theorem PySem.Challenge.cw_unsewn_k04_whole_turns_and_makings_holds : PySem.Challenge.rw_unsewn_k04_whole_turns_and_makings.Holds := by
  w_on; o_law; k_head; (case hw => w_witness2)
  k_fill
  refine LawK04.walk (l := PySem.Challenge.rw_unsewn_k04_whole_turns_and_makings) rfl rfl (fun w h Y => PySem.W.kIn_of Y) ?F
  case F =>
    intro w mg fa h KX G hmg
    refine' LawK04.all_mk KX G hmg ?n0 ?l0 ?c0 ?k0 ?n1 ?l1 ?c1 ?k1 ?n2 ?l2 ?c2 ?k2 ?n3 ?l3 ?c3 ?k3 ?n4 ?l4 ?c4 ?k4 ?n5 ?l5 ?c5 ?k5 ?n6 ?l6 ?c6 ?k6 ?n7 ?l7 ?c7 ?k7 ?n8 ?l8 ?c8 ?k8 ?n9 ?l9 ?c9 ?k9 ?n10 ?l10 ?c10 ?k10 ?n11 ?l11 ?c11 ?k11 ?n12 ?l12 ?c12 ?k12 ?n13 ?l13 ?c13 ?k13 ?n14 ?l14 ?c14 ?k14 ?n15 ?l15 ?c15 ?k15 ?n16 ?l16 ?c16 ?k16 ?n17 ?l17 ?c17 ?k17 ?n18 ?l18 ?c18 ?k18 ?n19 ?l19 ?c19 ?k19 ?n20 ?l20 ?c20 ?k20 ?n21 ?l21 ?c21 ?k21 ?n22 ?l22 ?c22 ?k22 ?n23 ?l23 ?c23 ?k23 ?n24 ?l24 ?c24 ?k24 ?n25 ?l25 ?c25 ?k25 ?n26 ?l26 ?c26 ?k26 ?n27 ?l27 ?c27 ?k27 ?n28 ?l28 ?c28 ?k28 ?n29 ?l29 ?c29 ?k29 ?n30 ?l30 ?c30 ?k30 ?n31 ?l31 ?c31 ?k31 ?n32 ?l32 ?c32 ?k32 ?n33 ?l33 ?c33 ?k33 ?n34 ?l34 ?c34 ?k34 ?n35 ?l35 ?c35 ?k35 ?n36 ?l36 ?c36 ?k36 ?n37 ?l37 ?c37 ?k37 ?n38 ?l38 ?c38 ?k38 ?n39 ?l39 ?c39 ?k39 ?n40 ?l40 ?c40 ?k40 ?n41 ?l41 ?c41 ?k41 ?aCX0 ?xLX0 ?rvX0 ?saX0 ?gaX0 ?ggX0 ?n0X0 ?n1X0 ?i1X0 ?t1X0 ?l1X0 ?c1X0 ?k1X0 ?kCX0 ?eCX0 ?tCX0 ?hCX0 ?iCX0 ?sCX0 ?z_abs ?z_all ?z_bool ?z_enumerate ?z_int ?z_isinstance ?z_len ?z_list ?z_min ?z_range ?z_reversed ?z_sorted ?z_tuple
    (case n0 => k_is); (case l0 => k_is); (case c0 => k_is); (case k0 => k_is)
    (case n1 => k_is); (case l1 => k_is); (case c1 => k_is); (case k1 => k_is)
    (case n2 => k_is); (case l2 => k_is); (case c2 => k_is); (case k2 => k_is)
    (case n3 => k_is); (case l3 => k_is); (case c3 => k_is); (case k3 => k_is)
    (case n4 => k_is); (case l4 => k_is); (case c4 => k_is); (case k4 => k_is)
    (case n5 => k_is); (case l5 => k_is); (case c5 => k_is); (case k5 => k_is)
    (case n6 => k_is); (case l6 => k_is); (case c6 => k_is); (case k6 => k_is)
    (case n7 => k_is); (case l7 => k_is); (case c7 => k_is); (case k7 => k_is)
    (case n8 => k_is); (case l8 => k_is); (case c8 => k_is); (case k8 => k_is)
    (case n9 => k_is); (case l9 => k_is); (case c9 => k_is); (case k9 => k_is)
    (case n10 => k_is); (case l10 => k_is); (case c10 => k_is); (case k10 => k_is)
    (case n11 => k_is); (case l11 => k_is); (case c11 => k_is); (case k11 => k_is)
    (case n12 => k_is); (case l12 => k_is); (case c12 => k_is); (case k12 => k_is)
    (case n13 => k_is); (case l13 => k_is); (case c13 => k_is); (case k13 => k_is)
    (case n14 => k_is); (case l14 => k_is); (case c14 => k_is); (case k14 => k_is)
    (case n15 => k_is); (case l15 => k_is); (case c15 => k_is); (case k15 => k_is)
    (case n16 => k_is); (case l16 => k_is); (case c16 => k_is); (case k16 => k_is)
    (case n17 => k_is); (case l17 => k_is); (case c17 => k_is); (case k17 => k_is)
    (case n18 => k_is); (case l18 => k_is); (case c18 => k_is); (case k18 => k_is)
    (case n19 => k_is); (case l19 => k_is); (case c19 => k_is); (case k19 => k_is)
    (case n20 => k_is); (case l20 => k_is); (case c20 => k_is); (case k20 => k_is)
    (case n21 => k_is); (case l21 => k_is); (case c21 => k_is); (case k21 => k_is)
    (case n22 => k_is); (case l22 => k_is); (case c22 => k_is); (case k22 => k_is)
    (case n23 => k_is); (case l23 => k_is); (case c23 => k_is); (case k23 => k_is)
    (case n24 => k_is); (case l24 => k_is); (case c24 => k_is); (case k24 => k_is)
    (case n25 => k_is); (case l25 => k_is); (case c25 => k_is); (case k25 => k_is)
    (case n26 => k_is); (case l26 => k_is); (case c26 => k_is); (case k26 => k_is)
    (case n27 => k_is); (case l27 => k_is); (case c27 => k_is); (case k27 => k_is)
    (case n28 => k_is); (case l28 => k_is); (case c28 => k_is); (case k28 => k_is)
    (case n29 => k_is); (case l29 => k_is); (case c29 => k_is); (case k29 => k_is)
    (case n30 => k_is); (case l30 => k_is); (case c30 => k_is); (case k30 => k_is)
    (case n31 => k_is); (case l31 => k_is); (case c31 => k_is); (case k31 => k_is)
    (case n32 => k_is); (case l32 => k_is); (case c32 => k_is); (case k32 => k_is)
    (case n33 => k_is); (case l33 => k_is); (case c33 => k_is); (case k33 => k_is)
    (case n34 => k_is); (case l34 => k_is); (case c34 => k_is); (case k34 => k_is)
    (case n35 => k_is); (case l35 => k_is); (case c35 => k_is); (case k35 => k_is)
    (case n36 => k_is); (case l36 => k_is); (case c36 => k_is); (case k36 => k_is)
    (case n37 => k_is); (case l37 => k_is); (case c37 => k_is); (case k37 => k_is)
    (case n38 => k_is); (case l38 => k_is); (case c38 => k_is); (case k38 => k_is)
    (case n39 => k_is); (case l39 => k_is); (case c39 => k_is); (case k39 => k_is)
    (case n40 => k_is); (case l40 => k_is); (case c40 => k_is); (case k40 => k_is)
    (case n41 => k_is); (case l41 => k_is); (case c41 => k_is); (case k41 => k_is)
    (case aCX0 => k_is); (case xLX0 => k_is); (case rvX0 => rfl); (case saX0 => k_is)
    (case gaX0 => k_is); (case ggX0 => k_is); (case n0X0 => k_is); (case n1X0 => k_is)
    (case i1X0 => k_is); (case t1X0 => k_is); (case l1X0 => k_is); (case c1X0 => k_is)
    (case k1X0 => k_is); (case kCX0 => k_is); (case eCX0 => k_is); (case tCX0 => k_is)
    (case hCX0 => k_is); (case iCX0 => k_is); (case sCX0 => first | rfl | k_is); (case z_abs => k_is)
    (case z_all => k_is); (case z_bool => k_is); (case z_enumerate => k_is); (case z_int => k_is)
    (case z_isinstance => k_is); (case z_len => k_is); (case z_list => k_is); (case z_min => k_is)
    (case z_range => k_is); (case z_reversed => k_is); (case z_sorted => k_is); (case z_tuple => k_is)

